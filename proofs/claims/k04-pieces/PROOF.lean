import PyProof.Rows.All
import HandS.ForMost
import HandS.Exc
import HandS.TryOnly
import HandS.TryMany
import HandS.ExcOwn
import HandS.WordsExc
import HandS.Flow
import HandS.Deep
import HandS.Conv
import HandS.CallLocal
import HandS.CallSlots
import HandS.Small
import HandS.NoneIn
import HandS.TupAny
import KE.LtData
import HandS.Codes
import HandS.IsInst
import HandS.Defaults
import HandS.Words
import HandS.Ends
import HandS.EndBits
import HandS.HeadEnd
import HandS.Head0
import HandS.Head1
import HandS.Head2
import HandS.HeadHook1
import HandS.HeadHook2
import HandS.Style
import HandS.HeadHook3
import HandS.HeadHook4
import HandS.TupMul
import HandS.WideBits
import HandS.Zip
import HandS.Iter
import HandS.Walk
import HandS.RaiseMore
import KE.SortData
import KE.DataCmp
import HandS.SetKeys
import HandS.More
import HandS.WordsDict
import PyProof.TupleOfSeq
import PySem.Challenge.RW_currentwebs_k04_pieces_and_changed_webs
import KE.SortLaws
section
set_option Elab.async false
set_option linter.all false
set_option maxRecDepth 100000
/-! VL1: the value layer: deep data in slots, a store of shared lists; a def's body as a function of these. -/
namespace VL
open PySem PySem.Spec PyProof.Rows L2

/-- what a slot holds: data; a shared list by its number; a def of the module by its name; the script; a list of one's own -/
inductive SV where
  | d (x : PyData)
  | ref (n : Nat)
  | fn (x : Str)
  | scr (ns : List Int)
  | own (xs : List SV)
  | dic (ks : List Int) (xs : List SV)
abbrev Rho := List (Option SV)
abbrev Sto := List (List SV)
inductive Res (α : Type) where
  | ok (a : α) (S : Sto)
  | exc (c : Str) (fs : List (Str × SV)) (S : Sto)
abbrev Mo (α : Type) := Sto → Option (Res α)
inductive Fl where
  | nx (ρ : Rho) (S : Sto)
  | rt (x : SV) (S : Sto)
  | bk (ρ : Rho) (S : Sto)
  | ct (ρ : Rho) (S : Sto)
  | exc (c : Str) (fs : List (Str × SV)) (ρ : Rho) (S : Sto)

/-! ### data in the heap -/
mutual
inductive Dq (K : PySem.W.Frag) (H : Hp) (F : Addr → Prop) : PyData → V → Prop
  | non : Dq K H F .none .non
  | bl (b : Bool) : Dq K H F (.bool b) (.bl b)
  | int (i : Int) : Dq K H F (.int i) (.int i)
  | str (x : Str) : Dq K H F (.str x) (.str x)
  | lst {a : Addr} {xs : List V} {ds : List PyData} : H a = some (.lst xs) → ¬ F a → xs.length ≤ sizeLine → DqL K H F ds xs → Dq K H F (.list ds) (.ref a)
  | tup {a : Addr} {xs : List V} {ds : List PyData} : H a = some (.tup xs) → ¬ F a → xs.length ≤ sizeLine → DqL K H F ds xs → Dq K H F (.tuple ds) (.ref a)
  | ctup {a : Addr} {xs : List V} {ds : List PyData} : SqT K (fun _ => none) a xs → xs.length ≤ sizeLine → DqL K H F ds xs → Dq K H F (.tuple ds) (.ref a)
inductive DqL (K : PySem.W.Frag) (H : Hp) (F : Addr → Prop) : List PyData → List V → Prop
  | nil : DqL K H F [] []
  | cons {d : PyData} {ds : List PyData} {v : V} {vs : List V} : Dq K H F d v → DqL K H F ds vs → DqL K H F (d :: ds) (v :: vs)
end

theorem SqT.const {K : PySem.W.Frag} {a : Addr} {xs : List V} (h : SqT K (fun _ => none) a xs) (H : Hp) : SqT K H a xs := by
  rcases h with h | h
  · rcases h with h | ⟨o, h⟩ <;> cases h
  · exact .inr h

theorem SqL.const {K : PySem.W.Frag} {a : Addr} {xs : List V} (h : SqL K (fun _ => none) a xs) (H : Hp) : SqL K H a xs := by
  rcases h with h | h
  · rcases h with h | ⟨o, h⟩ <;> cases h
  · exact .inr h

section
variable {K : PySem.W.Frag} {H H' : Hp} {F F' : Addr → Prop}
mutual
theorem Dq.mono (hF : ∀ a, F' a → F a ∨ H a = none) (hH : ∀ a o, H a = some o → ¬ F a → H' a = some o) : ∀ (d : PyData) (v : V), Dq K H F d v → Dq K H' F' d v
  | .none, _, h => by cases h; exact .non
  | .bool b, _, h => by cases h; exact .bl b
  | .int i, _, h => by cases h; exact .int i
  | .str x, _, h => by cases h; exact .str x
  | .list ds, _, h => by
    cases h with
    | lst r n l q =>
      refine .lst (hH _ _ r n) (fun z => ?_) l (DqL.mono hF hH ds _ q)
      rcases hF _ z with z | z
      · exact n z
      · rw [r] at z; cases z
  | .tuple ds, _, h => by
    cases h with
    | tup r n l q =>
      refine .tup (hH _ _ r n) (fun z => ?_) l (DqL.mono hF hH ds _ q)
      rcases hF _ z with z | z
      · exact n z
      · rw [r] at z; cases z
    | ctup r l q => exact .ctup r l (DqL.mono hF hH ds _ q)
  | .dict _, _, h => by cases h
theorem DqL.mono (hF : ∀ a, F' a → F a ∨ H a = none) (hH : ∀ a o, H a = some o → ¬ F a → H' a = some o) : ∀ (ds : List PyData) (vs : List V), DqL K H F ds vs → DqL K H' F' ds vs
  | [], _, h => by cases h; exact .nil
  | d :: ds, _, h => by
    cases h with
    | cons h1 h2 => exact .cons (Dq.mono hF hH d _ h1) (DqL.mono hF hH ds _ h2)
end
mutual
theorem Dq.dp : ∀ (d : PyData) (v : V), Dq K H F d v → Dp K H v d
  | .none, _, h => by cases h; exact .non
  | .bool b, _, h => by cases h; exact .bl b
  | .int i, _, h => by cases h; exact .int i
  | .str x, _, h => by cases h; exact .str x
  | .list ds, _, h => by
    cases h with
    | lst r n l q => exact .lst (.inl (.inl r)) (DqL.dp ds _ q)
  | .tuple ds, _, h => by
    cases h with
    | tup r n l q => exact .tup (.inl (.inl r)) (DqL.dp ds _ q)
    | ctup r l q => exact .tup (SqT.const r H) (DqL.dp ds _ q)
  | .dict _, _, h => by cases h
theorem DqL.dp : ∀ (ds : List PyData) (vs : List V), DqL K H F ds vs → DpAll K H vs ds
  | [], _, h => by cases h; exact .nil
  | d :: ds, _, h => by
    cases h with
    | cons h1 h2 => exact .cons (Dq.dp d _ h1) (DqL.dp ds _ h2)
end
theorem DqL.length : ∀ {ds : List PyData} {vs : List V}, DqL K H F ds vs → vs.length = ds.length
  | [], _, h => by cases h; rfl
  | d :: ds, _, h => by
    cases h with
    | cons h1 h2 => simp [DqL.length h2]
theorem DqL.get : ∀ {ds : List PyData} {vs : List V} {i : Nat} {d : PyData}, DqL K H F ds vs → ds[i]? = some d → ∃ v, vs[i]? = some v ∧ Dq K H F d v
  | [], _, _, _, _, e => by simp at e
  | d :: ds, _, i, x, h, e => by
    cases h with
    | cons h1 h2 =>
      cases i with
      | zero => simp at e; subst e; exact ⟨_, rfl, h1⟩
      | succ i => simpa using DqL.get h2 (by simpa using e)
theorem DqL.get' : ∀ {ds : List PyData} {vs : List V} {i : Nat} {v : V}, DqL K H F ds vs → vs[i]? = some v → ∃ d, ds[i]? = some d ∧ Dq K H F d v
  | [], _, i, _, h, e => by cases h; simp at e
  | d :: ds, _, i, x, h, e => by
    cases h with
    | cons h1 h2 =>
      cases i with
      | zero => simp at e; subst e; exact ⟨_, rfl, h1⟩
      | succ i => simpa using DqL.get' h2 (by simpa using e)
theorem DqL.app : ∀ {ds es : List PyData} {vs us : List V}, DqL K H F ds vs → DqL K H F es us → DqL K H F (ds ++ es) (vs ++ us)
  | [], _, _, _, h, q => by cases h; exact q
  | d :: ds, _, _, _, h, q => by
    cases h with
    | cons h1 h2 => exact .cons h1 (DqL.app h2 q)
theorem DqL.drop : ∀ {ds : List PyData} {vs : List V} (n : Nat), DqL K H F ds vs → DqL K H F (ds.drop n) (vs.drop n)
  | _, _, 0, h => h
  | [], _, n + 1, h => by cases h; exact .nil
  | d :: ds, _, n + 1, h => by
    cases h with
    | cons h1 h2 => exact DqL.drop n h2
theorem DqL.take : ∀ {ds : List PyData} {vs : List V} (n : Nat), DqL K H F ds vs → DqL K H F (ds.take n) (vs.take n)
  | _, _, 0, _ => .nil
  | [], _, n + 1, h => by cases h; exact .nil
  | d :: ds, _, n + 1, h => by
    cases h with
    | cons h1 h2 => exact .cons h1 (DqL.take n h2)
/-- it is one value's data only: two readings of the ints -/
theorem DqL.ints : ∀ {ns : List Int} {vs : List V}, DqL K H F (ns.map PyData.int) vs → vs = ns.map V.int
  | [], _, h => by cases h; rfl
  | n :: ns, _, h => by
    cases h with
    | cons h1 h2 => cases h1; simp [DqL.ints h2]
end

/-! ### slots' values in the heap: g the addresses of one's own lists within -/
mutual
inductive Rs (K : PySem.W.Frag) (mg : Str → Option Value) (H : Hp) (A : List Addr) (F : Addr → Prop) : SV → V → List Addr → Prop
  | d {x : PyData} {v : V} : Dq K H F x v → Rs K mg H A F (.d x) v []
  | ref {n : Nat} {a : Addr} : A[n]? = some a → Rs K mg H A F (.ref n) (.ref a) []
  | fn {x : Str} {a : Addr} : mg x = some (.ref a) → Rs K mg H A F (.fn x) (.ref a) []
  | scr {a : Addr} {o : Obj} {ns : List Int} : H a = some (.frz o (.lst (ns.map V.int))) → ¬ F a → ns.length ≤ sizeLine → Rs K mg H A F (.scr ns) (.ref a) []
  | scrK {a : Addr} {ns : List Int} : SqL K (fun _ => none) a (ns.map V.int) → ns.length ≤ sizeLine → Rs K mg H A F (.scr ns) (.ref a) []
  | own {a : Addr} {xs : List SV} {vs : List V} {g : List Addr} : H a = some (.lst vs) → vs.length ≤ sizeLine → RsL K mg H A F xs vs g → Rs K mg H A F (.own xs) (.ref a) (a :: g)
  | dic {a : Addr} {ks : List Int} {xs : List SV} {vs : List V} {g : List Addr} : H a = some (.dK ((ks.map Sum.inl).zip vs)) → vs.length = ks.length → vs.length ≤ sizeLine → RsL K mg H A F xs vs g → Rs K mg H A F (.dic ks xs) (.ref a) (a :: g)
inductive RsL (K : PySem.W.Frag) (mg : Str → Option Value) (H : Hp) (A : List Addr) (F : Addr → Prop) : List SV → List V → List Addr → Prop
  | nil : RsL K mg H A F [] [] []
  | cons {x : SV} {xs : List SV} {v : V} {vs : List V} {g g' : List Addr} : Rs K mg H A F x v g → RsL K mg H A F xs vs g' → RsL K mg H A F (x :: xs) (v :: vs) (g ++ g')
end
section
variable {K : PySem.W.Frag} {mg : Str → Option Value} {H H' : Hp} {A A' : List Addr} {F F' : Addr → Prop}
mutual
theorem Rs.mono (hA : ∀ (n : Nat) a, A[n]? = some a → A'[n]? = some a) (hF : ∀ a, F' a → F a ∨ H a = none) (hH : ∀ a o, H a = some o → ¬ F a → H' a = some o) :
    ∀ (x : SV) (v : V) (g : List Addr), (∀ a ∈ g, ∀ o, H a = some o → H' a = some o) → Rs K mg H A F x v g → Rs K mg H' A' F' x v g
  | .d x, _, _, _, h => by cases h with | d h => exact .d (Dq.mono hF hH _ _ h)
  | .ref n, _, _, _, h => by cases h with | ref h => exact .ref (hA _ _ h)
  | .fn x, _, _, _, h => by cases h with | fn h => exact .fn h
  | .scr ns, _, _, _, h => by
    cases h with
    | scr r n l =>
      refine .scr (hH _ _ r n) (fun z => ?_) l
      rcases hF _ z with z | z
      · exact n z
      · rw [r] at z; cases z
    | scrK r l => exact .scrK r l
  | .own xs, _, _, hg, h => by
    cases h with
    | own e l h => exact .own (hg _ List.mem_cons_self _ e) l (RsL.mono hA hF hH xs _ _ (fun a m o q => hg a (List.mem_cons_of_mem _ m) o q) h)
  | .dic ks xs, _, _, hg, h => by
    cases h with
    | dic e k l h => exact .dic (hg _ List.mem_cons_self _ e) k l (RsL.mono hA hF hH xs _ _ (fun a m o q => hg a (List.mem_cons_of_mem _ m) o q) h)
theorem RsL.mono (hA : ∀ (n : Nat) a, A[n]? = some a → A'[n]? = some a) (hF : ∀ a, F' a → F a ∨ H a = none) (hH : ∀ a o, H a = some o → ¬ F a → H' a = some o) :
    ∀ (xs : List SV) (vs : List V) (g : List Addr), (∀ a ∈ g, ∀ o, H a = some o → H' a = some o) → RsL K mg H A F xs vs g → RsL K mg H' A' F' xs vs g
  | [], _, _, _, h => by cases h; exact .nil
  | x :: xs, _, _, hg, h => by
    cases h with
    | cons h1 h2 => exact .cons (Rs.mono hA hF hH x _ _ (fun a m => hg a (List.mem_append_left _ m)) h1) (RsL.mono hA hF hH xs _ _ (fun a m => hg a (List.mem_append_right _ m)) h2)
end
theorem RsL.length : ∀ {xs : List SV} {vs : List V} {g : List Addr}, RsL K mg H A F xs vs g → vs.length = xs.length
  | [], _, _, h => by cases h; rfl
  | x :: xs, _, _, h => by
    cases h with
    | cons h1 h2 => simp [RsL.length h2]
theorem RsL.app : ∀ {xs ys : List SV} {vs us : List V} {g g' : List Addr}, RsL K mg H A F xs vs g → RsL K mg H A F ys us g' → RsL K mg H A F (xs ++ ys) (vs ++ us) (g ++ g')
  | [], _, _, _, _, _, h, q => by cases h; exact q
  | x :: xs, _, _, _, _, _, h, q => by
    cases h with
    | cons h1 h2 => rw [List.append_assoc]; exact .cons h1 (RsL.app h2 q)
/-- data alone -/
def allD : List SV → Option (List PyData)
  | [] => some []
  | .d x :: r => (allD r).map (x :: ·)
  | _ :: _ => none
theorem RsL.ofD : ∀ {ds : List PyData} {vs : List V}, DqL K H F ds vs → RsL K mg H A F (ds.map SV.d) vs []
  | [], _, h => by cases h; exact .nil
  | d :: ds, _, h => by
    cases h with
    | cons h1 h2 => exact .cons (g := []) (g' := []) (.d h1) (RsL.ofD h2)
theorem RsL.toD : ∀ {xs : List SV} {ds : List PyData} {vs : List V} {g : List Addr}, RsL K mg H A F xs vs g → allD xs = some ds → DqL K H F ds vs ∧ g = []
  | [], _, _, _, h, e => by cases h; cases e; exact ⟨.nil, rfl⟩
  | .d x :: xs, _, _, _, h, e => by
    cases h with
    | cons h1 h2 =>
      cases h1 with
      | d h1 =>
        simp only [allD, Option.map_eq_some_iff] at e
        obtain ⟨r, e, rfl⟩ := e
        obtain ⟨q, rfl⟩ := RsL.toD h2 e
        exact ⟨.cons h1 q, rfl⟩
  | .ref _ :: _, _, _, _, _, e => by cases e
  | .fn _ :: _, _, _, _, _, e => by cases e
  | .scr _ :: _, _, _, _, _, e => by cases e
  | .own _ :: _, _, _, _, _, e => by cases e
  | .dic _ _ :: _, _, _, _, _, e => by cases e
theorem allD_map : ∀ ds : List PyData, allD (ds.map SV.d) = some ds
  | [] => rfl
  | d :: ds => by simp [allD, allD_map ds]
theorem Rs.nil_d {x : PyData} {v : V} {g : List Addr} (h : Rs K mg H A F (.d x) v g) : g = [] ∧ Dq K H F x v := by cases h with | d h => exact ⟨rfl, h⟩
end

/-! ### the state -/
structure Ct where
  K : PySem.W.Frag
  mg : Str → Option Value
  E0 : Hp
  A0 : List Addr
  Pr : Addr → Prop

/-- with other things that are left alone -/
def Ct.pr (C : Ct) (P : Addr → Prop) : Ct := { C with Pr := P }
def Fs (C : Ct) (A : List Addr) (G : List (List Addr)) : Addr → Prop := fun a => a ∈ A ∨ a ∈ G.flatten ∨ C.Pr a

structure Sim (C : Ct) (ρ : Rho) (S : Sto) (A : List Addr) (G : List (List Addr)) (σ : L2.St) (H : Hp) : Prop where
  pre : C.A0 <+: A
  lr : ρ.length = σ.length
  lg : G.length = ρ.length
  ls : S.length = A.length
  nd : (A ++ G.flatten).Nodup
  trk : ∀ a ∈ A ++ G.flatten, H a ≠ none
  prot : ∀ a, C.Pr a → a ∉ A ++ G.flatten ∧ H a ≠ none
  slots : ∀ (i : Nat) x, ρ[i]? = some (some x) → ∃ v g, σ[i]? = some (some v) ∧ Rs C.K C.mg H A (Fs C A G) x v g ∧ g.Sublist (G[i]?.getD [])
  sto : ∀ (n : Nat) xs, S[n]? = some xs → ∃ a vs, A[n]? = some a ∧ H a = some (.lst vs) ∧ vs.length ≤ sizeLine ∧ RsL C.K C.mg H A (Fs C A G) xs vs []
  frame : ∀ a o, C.E0 a = some o → a ∉ C.A0 → H a = some o
  fresh : ∀ a ∈ A ++ G.flatten, a ∈ C.A0 ∨ C.E0 a = none
  a0 : ∀ a ∈ C.A0, C.E0 a ≠ none

/-- what an expression may do to the heap -/
structure Ext (A : List Addr) (H : Hp) (A' : List Addr) (H' : Hp) : Prop where
  pre : A <+: A'
  new : ∀ a ∈ A', a ∈ A ∨ H a = none
  keep : ∀ a o, H a = some o → a ∉ A → H' a = some o
  there : ∀ a, H a ≠ none → H' a ≠ none
theorem Ext.refl {A : List Addr} {H : Hp} : Ext A H A H := ⟨List.prefix_refl _, fun _ h => .inl h, fun _ _ h _ => h, fun _ h => h⟩
theorem Ext.trans {A A1 A2 : List Addr} {H H1 H2 : Hp} (x : Ext A H A1 H1) (y : Ext A1 H1 A2 H2) : Ext A H A2 H2 := by
  refine ⟨x.pre.trans y.pre, fun a h => ?_, fun a o e n => ?_, fun a h => y.there a (x.there a h)⟩
  · rcases y.new a h with z | z
    · exact x.new a z
    · refine .inr ?_
      cases q : H a with
      | none => rfl
      | some o => exact absurd z (x.there a (by rw [q]; simp))
  · refine y.keep a o (x.keep a o e n) fun z => ?_
    rcases x.new a z with z | z
    · exact n z
    · rw [e] at z; cases z
theorem prefix_get {A A' : List Addr} (h : A <+: A') : ∀ (n : Nat) a, A[n]? = some a → A'[n]? = some a := fun n a e => by
  obtain ⟨t, rfl⟩ := h
  rw [List.getElem?_append_left]
  · exact e
  · exact (List.getElem?_eq_some_iff.mp e).1
/-- a heap that grows by new objects alone -/
theorem Ext.upd {A : List Addr} {H : Hp} {p : Addr} {o : HO} (h : H p = none) : Ext A H A (upd H p o) := by
  refine ⟨List.prefix_refl _, fun _ h => .inl h, fun a u e _ => ?_, fun a e => ?_⟩
  · rw [upd_ne (ne_of_none e h)]; exact e
  · unfold L2.upd; split
    · simp
    · exact e
section
variable {C : Ct} {ρ : Rho} {S S' : Sto} {A A' : List Addr} {G : List (List Addr)} {σ : L2.St} {H H' : Hp}
theorem Sim.len (I : Sim C ρ S A G σ H) : G.length = σ.length := I.lg.trans I.lr
theorem Sim.notPr (I : Sim C ρ S A G σ H) {a : Addr} (p : C.Pr a) : a ∉ A ++ G.flatten := (I.prot a p).1
theorem Sim.prTrk (I : Sim C ρ S A G σ H) {a : Addr} (p : C.Pr a) : H a ≠ none := (I.prot a p).2
theorem Sim.fsTrk (I : Sim C ρ S A G σ H) {a : Addr} (p : Fs C A G a) : H a ≠ none := by
  rcases p with p | p | p
  · exact I.trk a (List.mem_append_left _ p)
  · exact I.trk a (List.mem_append_right _ p)
  · exact I.prTrk p
/-- the slots stay through what an expression does; the store may have changed -/
theorem Sim.ext (I : Sim C ρ S A G σ H) (x : Ext A H A' H') (ls : S'.length = A'.length) (nd : A'.Nodup) (trk : ∀ a ∈ A', H' a ≠ none)
    (sto : ∀ (n : Nat) xs, S'[n]? = some xs → ∃ a vs, A'[n]? = some a ∧ H' a = some (.lst vs) ∧ vs.length ≤ sizeLine ∧ RsL C.K C.mg H' A' (Fs C A' G) xs vs []) : Sim C ρ S' A' G σ H' := by
  have kG : ∀ a ∈ G.flatten, a ∉ A := fun a h z => (List.nodup_append.mp I.nd).2.2 a z a h rfl
  have kept : ∀ a ∈ G.flatten, ∀ o, H a = some o → H' a = some o := fun a h o e => x.keep a o e (kG a h)
  have e0 : ∀ a, H a = none → C.E0 a = none := fun a h => by
    cases q : C.E0 a with
    | none => rfl
    | some o =>
      by_cases z : a ∈ C.A0
      · exact absurd h (I.trk a (List.mem_append_left _ (I.pre.subset z)))
      · rw [I.frame a o q z] at h; cases h
  refine ⟨I.pre.trans x.pre, I.lr, I.lg, ls, ?_, fun a h => ?_, fun a p => ⟨fun z => ?_, x.there a (I.prot a p).2⟩, fun i y e => ?_, sto, fun a o e n => ?_, fun a h => ?_, I.a0⟩
  · refine List.nodup_append.mpr ⟨nd, (List.nodup_append.mp I.nd).2.1, fun a h b h' e => ?_⟩
    subst e
    rcases x.new a h with z | z
    · exact kG a h' z
    · exact I.trk a (List.mem_append_right _ h') z
  · rcases List.mem_append.mp h with h | h
    · exact trk a h
    · exact x.there a (I.trk a (List.mem_append_right _ h))
  · rcases List.mem_append.mp z with z | z
    · rcases x.new a z with z | z
      · exact (I.prot a p).1 (List.mem_append_left _ z)
      · exact (I.prot a p).2 z
    · exact (I.prot a p).1 (List.mem_append_right _ z)
  · obtain ⟨v, g, e1, r, sb⟩ := I.slots i y e
    refine ⟨v, g, e1, Rs.mono (prefix_get x.pre) (fun a z => ?_) (fun a o q n => ?_) _ _ _ (fun a m o q => ?_) r, sb⟩
    · rcases z with z | z | z
      · rcases x.new a z with z | z
        · exact .inl (.inl z)
        · exact .inr z
      · exact .inl (.inr (.inl z))
      · exact .inl (.inr (.inr z))
    · exact x.keep a o q fun z => n (.inl z)
    · have m := sb.subset m
      refine kept a ?_ o q
      cases hg : G[i]? with
      | none => rw [hg] at m; cases m
      | some g => rw [hg] at m; exact List.mem_flatten.mpr ⟨g, List.mem_of_getElem? hg, m⟩
  · refine x.keep a o (I.frame a o e n) fun z => ?_
    rcases I.fresh a (List.mem_append_left _ z) with q | q
    · exact n q
    · rw [e] at q; cases q
  · rcases List.mem_append.mp h with h | h
    · rcases x.new a h with z | z
      · exact I.fresh a (List.mem_append_left _ z)
      · exact .inr (e0 a z)
    · exact I.fresh a (List.mem_append_right _ h)
theorem Sim.e0 (I : Sim C ρ S A G σ H) : ∀ a, H a = none → C.E0 a = none := fun a h => by
  cases q : C.E0 a with
  | none => rfl
  | some o =>
    by_cases z : a ∈ C.A0
    · exact absurd h (I.trk a (List.mem_append_left _ (I.pre.subset z)))
    · rw [I.frame a o q z] at h; cases h
/-- .. where the store is as it was -/
theorem Sim.grow (I : Sim C ρ S A G σ H) (x : Ext A H A H') (kp : ∀ a ∈ A, ∀ o, H a = some o → H' a = some o) : Sim C ρ S A G σ H' := by
  refine I.ext x I.ls (List.nodup_append.mp I.nd).1 (fun a h => x.there a (I.trk a (List.mem_append_left _ h))) fun n xs e => ?_
  obtain ⟨a, vs, e1, e2, l, r⟩ := I.sto n xs e
  refine ⟨a, vs, e1, kp a (List.mem_of_getElem? e1) _ e2, l, RsL.mono (fun _ _ h => h) (fun a h => .inl h) (fun a o q n => x.keep a o q fun z => n (.inl z)) _ _ _ (fun a m => by cases m) r⟩
theorem Sim.new (I : Sim C ρ S A G σ H) {p : Addr} {o : HO} (h : H p = none) : Sim C ρ S A G σ (upd H p o) := I.grow (Ext.upd h) fun a _ u e => by rw [upd_ne (ne_of_none e h)]; exact e
end

theorem Sim.prw {C : Ct} {P : Addr → Prop} {ρ : Rho} {S : Sto} {A : List Addr} {G : List (List Addr)} {σ : L2.St} {H : Hp} (I : Sim (C.pr P) ρ S A G σ H) (h : ∀ a, C.Pr a → P a) : Sim C ρ S A G σ H := by
  have hF : ∀ a, Fs C A G a → Fs (C.pr P) A G a := fun a z => z.elim .inl fun z => z.elim (fun z => .inr (.inl z)) fun z => .inr (.inr (h a z))
  refine ⟨I.pre, I.lr, I.lg, I.ls, I.nd, I.trk, fun a p => I.prot a (h a p), fun i x e => ?_, fun n xs e => ?_, I.frame, I.fresh, I.a0⟩
  · obtain ⟨v, g, e1, r, sb⟩ := I.slots i x e
    exact ⟨v, g, e1, Rs.mono (fun _ _ q => q) (fun a z => .inl (hF a z)) (fun a o q n => q) _ _ _ (fun a m o q => q) r, sb⟩
  · obtain ⟨a, vs, e1, e2, l, r⟩ := I.sto n xs e
    exact ⟨a, vs, e1, e2, l, RsL.mono (fun _ _ q => q) (fun a z => .inl (hF a z)) (fun a o q n => q) _ _ _ (fun a m o q => q) r⟩
theorem Sim.prc {C : Ct} {P : Addr → Prop} {ρ : Rho} {S : Sto} {A : List Addr} {G : List (List Addr)} {σ : L2.St} {H : Hp} (I : Sim C ρ S A G σ H) (h : ∀ a, P a → C.Pr a) : Sim (C.pr P) ρ S A G σ H := by
  have hF : ∀ a, Fs (C.pr P) A G a → Fs C A G a := fun a z => z.elim .inl fun z => z.elim (fun z => .inr (.inl z)) fun z => .inr (.inr (h a z))
  refine ⟨I.pre, I.lr, I.lg, I.ls, I.nd, I.trk, fun a p => I.prot a (h a p), fun i x e => ?_, fun n xs e => ?_, I.frame, I.fresh, I.a0⟩
  · obtain ⟨v, g, e1, r, sb⟩ := I.slots i x e
    exact ⟨v, g, e1, Rs.mono (fun _ _ q => q) (fun a z => .inl (hF a z)) (fun a o q n => q) _ _ _ (fun a m o q => q) r, sb⟩
  · obtain ⟨a, vs, e1, e2, l, r⟩ := I.sto n xs e
    exact ⟨a, vs, e1, e2, l, RsL.mono (fun _ _ q => q) (fun a z => .inl (hF a z)) (fun a o q n => q) _ _ _ (fun a m o q => q) r⟩
/-! ### what an expression hands on -/
/-- be: looked at now; fe: one's own from here on (data, a shared list's number, or a new list that nobody else has) -/
inductive Kd | be | fe
def Rk (C : Ct) (kd : Kd) (g : List Addr) (A' : List Addr) (G : List (List Addr)) (H H' : Hp) (x : SV) (v : V) : Prop :=
  match kd with
  | .be => Rs C.K C.mg H' A' (Fs C A' G) x v g ∧ ∀ a ∈ g, a ∉ A' ∧ H' a ≠ none
  | .fe => Rs C.K C.mg H' A' (fun a => Fs C A' G a ∨ a ∈ g) x v g ∧ g.Nodup ∧ ∀ a ∈ g, H a = none ∧ H' a ≠ none ∧ a ∉ A'
/-- new lists of one's own are left alone by what comes next -/
def Ct.pg (C : Ct) (kd : Kd) (g : List Addr) : Ct :=
  match kd with
  | .be => C
  | .fe => C.pr fun a => C.Pr a ∨ a ∈ g
def EPost (C : Ct) (kd : Kd) (ρ : Rho) (A : List Addr) (G : List (List Addr)) (σ : L2.St) (H : Hp) (x : SV) (S' : Sto) (v : V) (H' : Hp) : Prop :=
  ∃ A' g, Ext A H A' H' ∧ Sim (C.pg kd g) ρ S' A' G σ H' ∧ Rk C kd g A' G H H' x v
/-- an exception's class, its fields -/
def XRep (C : Ct) (H' : Hp) (c : Str) (fs : List (Str × SV)) (cls : Value) (d : Option Addr) : Prop :=
  ∃ Ca, C.mg c = some (.ref Ca) ∧ cls = .ref Ca ∧ ((fs = [] ∧ d = none) ∨ ∃ dx vs, d = some dx ∧ H' dx = some (.xd vs) ∧ vs.map (·.1) = fs.map (·.1) ∧ RsL C.K C.mg H' [] (fun _ => True) (fs.map (·.2)) (vs.map (·.2)) [])
def XPost (C : Ct) (ρ : Rho) (A : List Addr) (G : List (List Addr)) (σ : L2.St) (H : Hp) (c : Str) (fs : List (Str × SV)) (S' : Sto) (cls : Value) (d : Option Addr) (H' : Hp) : Prop :=
  ∃ A', Ext A H A' H' ∧ Sim C ρ S' A' G σ H' ∧ XRep C H' c fs cls d
def EGood {α V' : Type} (post : α → Sto → V' → Hp → Prop) (xpost : Str → List (Str × SV) → Sto → Value → Option Addr → Hp → Prop) (W : WX) (σ : L2.St) (Q : V' → Hp → Prop) : Option (Res α) → Prop
  | none => False
  | some (.ok x S') => ∀ v H', post x S' v H' → Q v H'
  | some (.exc c fs S') => ∀ cls d H', xpost c fs S' cls d H' → W cls d σ H'
/-- an expression's reading by its function -/
def tV (C : Ct) (W : WX) (kd : Kd) (f : Rho → Mo SV) : TE := fun σ H Q => ∃ P ρ S A G, (∀ a, C.Pr a → P a) ∧ Sim (C.pr P) ρ S A G σ H ∧ EGood (EPost (C.pr P) kd ρ A G σ H) (XPost C ρ A G σ H) W σ Q (f ρ S)
/-- a list of expressions, each of the same kind -/
def RkL (C : Ct) (kd : Kd) (g : List Addr) (A' : List Addr) (G : List (List Addr)) (H H' : Hp) (xs : List SV) (vs : List V) : Prop :=
  match kd with
  | .be => RsL C.K C.mg H' A' (Fs C A' G) xs vs g ∧ ∀ a ∈ g, a ∉ A' ∧ H' a ≠ none
  | .fe => RsL C.K C.mg H' A' (fun a => Fs C A' G a ∨ a ∈ g) xs vs g ∧ g.Nodup ∧ ∀ a ∈ g, H a = none ∧ H' a ≠ none ∧ a ∉ A'
def APost (C : Ct) (kd : Kd) (ρ : Rho) (A : List Addr) (G : List (List Addr)) (σ : L2.St) (H : Hp) (xs : List SV) (S' : Sto) (vs : List V) (H' : Hp) : Prop :=
  ∃ A' g, Ext A H A' H' ∧ Sim (C.pg kd g) ρ S' A' G σ H' ∧ RkL C kd g A' G H H' xs vs
def tVs (C : Ct) (W : WX) (kd : Kd) (f : Rho → Mo (List SV)) : TA := fun σ H Q => ∃ P ρ S A G, (∀ a, C.Pr a → P a) ∧ Sim (C.pr P) ρ S A G σ H ∧ EGood (APost (C.pr P) kd ρ A G σ H) (XPost C ρ A G σ H) W σ Q (f ρ S)
/-- a test -/
def BPost (C : Ct) (ρ : Rho) (A : List Addr) (G : List (List Addr)) (σ : L2.St) (H : Hp) (b : Bool) (S' : Sto) (b' : Bool) (H' : Hp) : Prop :=
  b' = b ∧ ∃ A', Ext A H A' H' ∧ Sim C ρ S' A' G σ H'
def tTs (C : Ct) (W : WX) (f : Rho → Mo Bool) : TT := fun σ H Q => ∃ P ρ S A G, (∀ a, C.Pr a → P a) ∧ Sim (C.pr P) ρ S A G σ H ∧ EGood (BPost (C.pr P) ρ A G σ H) (XPost C ρ A G σ H) W σ Q (f ρ S)

/-! ### what a statement hands on -/
structure ExtS (A : List Addr) (G : List (List Addr)) (H : Hp) (A' : List Addr) (G' : List (List Addr)) (H' : Hp) : Prop where
  pre : A <+: A'
  new : ∀ a ∈ A' ++ G'.flatten, a ∈ A ++ G.flatten ∨ H a = none
  keep : ∀ a o, H a = some o → a ∉ A ++ G.flatten → H' a = some o
  there : ∀ a, H a ≠ none → H' a ≠ none
theorem ExtS.refl {A : List Addr} {G : List (List Addr)} {H : Hp} : ExtS A G H A G H := ⟨List.prefix_refl _, fun _ h => .inl h, fun _ _ h _ => h, fun _ h => h⟩
theorem ExtS.trans {A A1 A2 : List Addr} {G G1 G2 : List (List Addr)} {H H1 H2 : Hp} (x : ExtS A G H A1 G1 H1) (y : ExtS A1 G1 H1 A2 G2 H2) : ExtS A G H A2 G2 H2 := by
  refine ⟨x.pre.trans y.pre, fun a h => ?_, fun a o e n => ?_, fun a h => y.there a (x.there a h)⟩
  · rcases y.new a h with z | z
    · exact x.new a z
    · refine .inr ?_
      cases q : H a with
      | none => rfl
      | some o => exact absurd z (x.there a (by rw [q]; simp))
  · refine y.keep a o (x.keep a o e n) fun z => ?_
    rcases x.new a z with z | z
    · exact n z
    · rw [e] at z; cases z
theorem Ext.s {A A' : List Addr} {G : List (List Addr)} {H H' : Hp} (x : Ext A H A' H') : ExtS A G H A' G H' := by
  refine ⟨x.pre, fun a h => ?_, fun a o e n => x.keep a o e fun z => n (List.mem_append_left _ z), x.there⟩
  rcases List.mem_append.mp h with h | h
  · rcases x.new a h with z | z
    · exact .inl (List.mem_append_left _ z)
    · exact .inr z
  · exact .inl (List.mem_append_right _ h)
/-- what a def leaves: the store, what is one's own in what it hands back -/
structure RSto (C : Ct) (A' g : List Addr) (S' : Sto) (H' : Hp) : Prop where
  pre : C.A0 <+: A'
  ls : S'.length = A'.length
  nd : (A' ++ g).Nodup
  trk : ∀ a ∈ A' ++ g, H' a ≠ none ∧ (a ∈ C.A0 ∨ C.E0 a = none)
  own : ∀ a ∈ g, C.E0 a = none
  sto : ∀ (n : Nat) xs, S'[n]? = some xs → ∃ a vs, A'[n]? = some a ∧ H' a = some (.lst vs) ∧ vs.length ≤ sizeLine ∧ RsL C.K C.mg H' A' (fun a => a ∈ A' ∨ a ∈ g ∨ C.Pr a) xs vs []
  frame : ∀ a o, C.E0 a = some o → a ∉ C.A0 → H' a = some o
  there : ∀ a, C.E0 a ≠ none → H' a ≠ none
def RPost (C : Ct) (x : SV) (S' : Sto) (v : V) (H' : Hp) : Prop := ∃ A' g, RSto C A' g S' H' ∧ Rs C.K C.mg H' A' (fun a => a ∈ A' ∨ a ∈ g ∨ C.Pr a) x v g
def SGood (C : Ct) (W : WX) (A : List Addr) (G : List (List Addr)) (H : Hp) (D : Ends) : Option Fl → Prop
  | none => False
  | some (.nx ρ' S') => ∀ A' G' σ' H', ExtS A G H A' G' H' → Sim C ρ' S' A' G' σ' H' → D.nx σ' H'
  | some (.bk ρ' S') => ∀ A' G' σ' H', ExtS A G H A' G' H' → Sim C ρ' S' A' G' σ' H' → D.bk σ' H'
  | some (.ct ρ' S') => ∀ A' G' σ' H', ExtS A G H A' G' H' → Sim C ρ' S' A' G' σ' H' → D.ct σ' H'
  | some (.rt x S') => ∀ v H', RPost C x S' v H' → D.rt v H'
  | some (.exc c fs ρ' S') => ∀ A' G' σ' H' cls d, ExtS A G H A' G' H' → Sim C ρ' S' A' G' σ' H' → XRep C H' c fs cls d → W cls d σ' H'
def tS (C : Ct) (W : WX) (f : Rho → Sto → Option Fl) : TS := fun D σ H => ∃ ρ S A G, Sim C ρ S A G σ H ∧ SGood C W A G H D (f ρ S)
theorem SGood.ext {C : Ct} {W : WX} {A A1 : List Addr} {G G1 : List (List Addr)} {H H1 : Hp} {D : Ends} {r : Option Fl} (x : ExtS A G H A1 G1 H1) (h : SGood C W A G H D r) : SGood C W A1 G1 H1 D r := by
  cases r with
  | none => exact h
  | some f =>
    cases f with
    | nx ρ' S' => exact fun A' G' σ' H' y s => h A' G' σ' H' (x.trans y) s
    | bk ρ' S' => exact fun A' G' σ' H' y s => h A' G' σ' H' (x.trans y) s
    | ct ρ' S' => exact fun A' G' σ' H' y s => h A' G' σ' H' (x.trans y) s
    | rt z S' => exact h
    | exc c fs ρ' S' => exact fun A' G' σ' H' cls d y s => h A' G' σ' H' cls d (x.trans y) s
end VL

end
section
set_option Elab.async false
set_option linter.all false
set_option maxRecDepth 100000
/-! VL2: expressions: names, constants, operators, comparisons, tests. -/
namespace VL
open PySem PySem.Spec PyProof.Rows L2

def bindM {α β : Type} (m : Option (Res α)) (k : α → Sto → Option (Res β)) : Option (Res β) :=
  match m with
  | none => none
  | some (.ok a S) => k a S
  | some (.exc c fs S) => some (.exc c fs S)
@[simp] theorem bindM_ok {α β : Type} (a : α) (S : Sto) (k : α → Sto → Option (Res β)) : bindM (some (.ok a S)) k = k a S := rfl
@[simp] theorem bindM_none {α β : Type} (k : α → Sto → Option (Res β)) : bindM none k = none := rfl
@[simp] theorem bindM_exc {α β : Type} (c : Str) (fs : List (Str × SV)) (S : Sto) (k : α → Sto → Option (Res β)) : bindM (some (.exc c fs S)) k = some (.exc c fs S) := rfl

theorem pe_imp {X : Cx} {e : Expr} {t t' : TE} (h : PE X e t) (i : ∀ σ H Q, t' σ H Q → t σ H Q) : PE X e t' := ⟨fun pins s σ H Q I q => h.run pins s σ H Q I (i σ H Q q)⟩
theorem pt_imp {X : Cx} {e : Expr} {t t' : TT} (h : PT X e t) (i : ∀ σ H Q, t' σ H Q → t σ H Q) : PT X e t' := ⟨fun pins s σ H Q I q => h.run pins s σ H Q I (i σ H Q q)⟩
theorem pw_imp {X : Cx} {e : Expr} {t t' : TT} (h : PW X e t) (i : ∀ σ H Q, t' σ H Q → t σ H Q) : PW X e t' := ⟨fun wh pins s σ H Q I q => h.run wh pins s σ H Q I (i σ H Q q)⟩
theorem pa_imp {X : Cx} {es : List Expr} {t t' : TA} (h : PA X es t) (i : ∀ σ H Q, t' σ H Q → t σ H Q) : PA X es t' := ⟨fun pos pins s σ H Q I q => h.run pos pins s σ H Q I (i σ H Q q)⟩
theorem ps_imp {X : Cx} {st : Stmt} {t t' : TS} (h : PS X st t) (i : ∀ D σ H, t' D σ H → t D σ H) : PS X st t' := ⟨fun pins s σ H D I q => h.run pins s σ H D I (i D σ H q)⟩
theorem pss_imp {X : Cx} {st : List Stmt} {t t' : TS} (h : PSs X st t) (i : ∀ D σ H, t' D σ H → t D σ H) : PSs X st t' := ⟨fun pins s σ H D I q => h.run pins s σ H D I (i D σ H q)⟩

section
variable {C : Ct} {W : WX} {kd ka kb : Kd} {ρ : Rho} {S S1 : Sto} {A A1 A2 : List Addr} {G : List (List Addr)} {σ : L2.St} {H H0 H1 H2 : Hp} {x y z : SV} {v u w : V} {g g' : List Addr} {xs : List SV} {vs : List V}

theorem fs_ext (x : Ext A1 H1 A2 H2) : ∀ a, Fs C A2 G a → Fs C A1 G a ∨ H1 a = none := fun a z => by
  rcases z with z | z | z
  · rcases x.new a z with z | z
    · exact .inl (.inl z)
    · exact .inr z
  · exact .inl (.inr (.inl z))
  · exact .inl (.inr (.inr z))
theorem Rk.ext (e : Ext A1 H1 A2 H2) (r : Rk C kd g A1 G H H1 x v) : Rk C kd g A2 G H H2 x v := by
  cases kd with
  | be =>
    obtain ⟨r, hg⟩ := r
    refine ⟨Rs.mono (prefix_get e.pre) (fs_ext e) (fun a o q n => e.keep a o q fun z => n (.inl z)) _ _ _ (fun a m o q => e.keep a o q (hg a m).1) r, fun a m => ⟨fun z => ?_, e.there a (hg a m).2⟩⟩
    rcases e.new a z with z | z
    · exact (hg a m).1 z
    · exact (hg a m).2 z
  | fe =>
    obtain ⟨r, nd, hg⟩ := r
    refine ⟨Rs.mono (prefix_get e.pre) (fun a z => ?_) (fun a o q n => e.keep a o q fun z => n (.inl (.inl z))) _ _ _ (fun a m o q => e.keep a o q (hg a m).2.2) r, nd, fun a m => ⟨(hg a m).1, e.there a (hg a m).2.1, fun z => ?_⟩⟩
    · rcases z with z | z
      · rcases fs_ext e a z with z | z
        · exact .inl (.inl z)
        · exact .inr z
      · exact .inl (.inr z)
    · rcases e.new a z with z | z
      · exact (hg a m).2.2 z
      · exact (hg a m).2.1 z
theorem RkL.ext (e : Ext A1 H1 A2 H2) (r : RkL C kd g A1 G H H1 xs vs) : RkL C kd g A2 G H H2 xs vs := by
  cases kd with
  | be =>
    obtain ⟨r, hg⟩ := r
    refine ⟨RsL.mono (prefix_get e.pre) (fs_ext e) (fun a o q n => e.keep a o q fun z => n (.inl z)) _ _ _ (fun a m o q => e.keep a o q (hg a m).1) r, fun a m => ⟨fun z => ?_, e.there a (hg a m).2⟩⟩
    rcases e.new a z with z | z
    · exact (hg a m).1 z
    · exact (hg a m).2 z
  | fe =>
    obtain ⟨r, nd, hg⟩ := r
    refine ⟨RsL.mono (prefix_get e.pre) (fun a z => ?_) (fun a o q n => e.keep a o q fun z => n (.inl (.inl z))) _ _ _ (fun a m o q => e.keep a o q (hg a m).2.2) r, nd, fun a m => ⟨(hg a m).1, e.there a (hg a m).2.1, fun z => ?_⟩⟩
    · rcases z with z | z
      · rcases fs_ext e a z with z | z
        · exact .inl (.inl z)
        · exact .inr z
      · exact .inl (.inr z)
    · rcases e.new a z with z | z
      · exact (hg a m).2.2 z
      · exact (hg a m).2.1 z
theorem none_back (e : Ext A H A1 H1) {a : Addr} (h : H1 a = none) : H a = none := by
  cases q : H a with
  | none => rfl
  | some o => exact absurd h (e.there a (by rw [q]; simp))
theorem Rk.from (h : ∀ a, H0 a = none → H a = none) (r : Rk C kd g A1 G H0 H1 x v) : Rk C kd g A1 G H H1 x v := by
  cases kd with
  | be => exact r
  | fe =>
    obtain ⟨r, nd, hg⟩ := r
    exact ⟨r, nd, fun a m => ⟨h a (hg a m).1, (hg a m).2⟩⟩
theorem RkL.from (h : ∀ a, H0 a = none → H a = none) (r : RkL C kd g A1 G H0 H1 xs vs) : RkL C kd g A1 G H H1 xs vs := by
  cases kd with
  | be => exact r
  | fe =>
    obtain ⟨r, nd, hg⟩ := r
    exact ⟨r, nd, fun a m => ⟨h a (hg a m).1, (hg a m).2⟩⟩
theorem EPost.trans (e : Ext A H A1 H1) (p : EPost C kd ρ A1 G σ H1 x S v H2) : EPost C kd ρ A G σ H x S v H2 := by
  obtain ⟨A2, g, e2, I, r⟩ := p
  exact ⟨A2, g, e.trans e2, I, r.from fun a q => none_back e q⟩
theorem APost.trans (e : Ext A H A1 H1) (p : APost C kd ρ A1 G σ H1 xs S vs H2) : APost C kd ρ A G σ H xs S vs H2 := by
  obtain ⟨A2, g, e2, I, r⟩ := p
  exact ⟨A2, g, e.trans e2, I, r.from fun a q => none_back e q⟩
theorem XPost.trans {c : Str} {fs : List (Str × SV)} {cls : Value} {d : Option Addr} (e : Ext A H A1 H1) (p : XPost C ρ A1 G σ H1 c fs S cls d H2) : XPost C ρ A G σ H c fs S cls d H2 := by
  obtain ⟨A2, e2, I, r⟩ := p
  exact ⟨A2, e.trans e2, I, r⟩
theorem BPost.trans {b b' : Bool} (e : Ext A H A1 H1) (p : BPost C ρ A1 G σ H1 b S b' H2) : BPost C ρ A G σ H b S b' H2 := by
  obtain ⟨q, A2, e2, I⟩ := p
  exact ⟨q, A2, e.trans e2, I⟩
theorem pg_sub {kd : Kd} {a : Addr} (h : C.Pr a) : (C.pg kd g).Pr a := by
  cases kd with
  | be => exact h
  | fe => exact .inl h
/-- the state alone -/
theorem Sim.pgw (I : Sim (C.pg kd g) ρ S A G σ H) : Sim C ρ S A G σ H := by
  cases kd with
  | be => exact I
  | fe => exact I.prw fun a h => .inl h
theorem Sim.pg0 (I : Sim C ρ S A G σ H) : Sim (C.pg kd []) ρ S A G σ H := by
  cases kd with
  | be => exact I
  | fe => exact I.prc fun a h => h.elim id fun m => by cases m
/-- the heap as it is -/
theorem EPost.same (I : Sim C ρ S A G σ H) (r : Rk C kd [] A G H H x v) : EPost C kd ρ A G σ H x S v H := ⟨A, [], Ext.refl, I.pg0, r⟩
/-- a new object that is left alone -/
theorem Sim.newP (I : Sim C ρ S A G σ H) {p : Addr} {o : HO} (h : H p = none) : Sim (C.pr fun a => C.Pr a ∨ a = p) ρ S A G σ (upd H p o) := by
  have J : Sim C ρ S A G σ (upd H p o) := I.new h
  have hF : ∀ a, Fs (C.pr fun a => C.Pr a ∨ a = p) A G a → Fs C A G a ∨ H a = none := fun a z => by
    rcases z with z | z | z | z
    · exact .inl (.inl z)
    · exact .inl (.inr (.inl z))
    · exact .inl (.inr (.inr z))
    · exact .inr (by rw [z]; exact h)
  have hk : ∀ a o', H a = some o' → upd H p o a = some o' := fun a o' e => by rw [upd_ne (ne_of_none e h)]; exact e
  refine ⟨J.pre, J.lr, J.lg, J.ls, J.nd, J.trk, fun a q => ?_, fun i x e => ?_, fun n xs e => ?_, J.frame, J.fresh, J.a0⟩
  · rcases q with q | q
    · exact J.prot a q
    · subst q
      exact ⟨fun z => I.trk a z h, by rw [upd_same]; simp⟩
  · obtain ⟨v, g, e1, r, sb⟩ := I.slots i x e
    exact ⟨v, g, e1, Rs.mono (fun _ _ q => q) hF (fun a o q n => hk a o q) _ _ _ (fun a m o q => hk a o q) r, sb⟩
  · obtain ⟨a, vs, e1, e2, l, r⟩ := I.sto n xs e
    exact ⟨a, vs, e1, hk _ _ e2, l, RsL.mono (fun _ _ q => q) hF (fun a o q n => hk a o q) _ _ _ (fun a m o q => hk a o q) r⟩
/-- data of any kind -/
theorem Rk.dat {d : PyData} (h : Dq C.K H1 (Fs C A1 G) d v) : Rk C kd [] A1 G H H1 (.d d) v := by
  cases kd with
  | be => exact ⟨.d h, fun a m => by cases m⟩
  | fe => exact ⟨.d (Dq.mono (fun a z => z.elim .inl fun m => by cases m) (fun a o q n => q) _ _ h), List.nodup_nil, fun a m => by cases m⟩
theorem Rk.undat {d : PyData} (h : Rk C kd g A1 G H H1 (.d d) v) : Dq C.K H1 (Fs C A1 G) d v := by
  cases kd with
  | be =>
    obtain ⟨r, _⟩ := h
    exact r.nil_d.2
  | fe =>
    obtain ⟨r, _⟩ := h
    exact Dq.mono (fun a z => .inl (.inl z)) (fun a o q n => q) _ _ r.nil_d.2
theorem Rk.int {i : Int} (h : Rk C kd g A1 G H H1 (.d (.int i)) v) : v = .int i := by cases h.undat; rfl
theorem Rk.bl {i : Bool} (h : Rk C kd g A1 G H H1 (.d (.bool i)) v) : v = .bl i := by cases h.undat; rfl
theorem Rk.str {i : Str} (h : Rk C kd g A1 G H H1 (.d (.str i)) v) : v = .str i := by cases h.undat; rfl
theorem Rk.non (h : Rk C kd g A1 G H H1 (.d .none) v) : v = .non := by cases h.undat; rfl
/-- from one's own to looked at -/
theorem Rk.be (h : Rk C .fe g A1 G H H1 x v) : Rk C .be g A1 G H H1 x v := by
  obtain ⟨r, nd, hg⟩ := h
  exact ⟨Rs.mono (fun _ _ q => q) (fun a z => .inl (.inl z)) (fun a o q n => q) _ _ _ (fun a m o q => q) r, fun a m => ⟨(hg a m).2.2, (hg a m).2.1⟩⟩
theorem RkL.be (h : RkL C .fe g A1 G H H1 xs vs) : RkL C .be g A1 G H H1 xs vs := by
  obtain ⟨r, nd, hg⟩ := h
  exact ⟨RsL.mono (fun _ _ q => q) (fun a z => .inl (.inl z)) (fun a o q n => q) _ _ _ (fun a m o q => q) r, fun a m => ⟨(hg a m).2.2, (hg a m).2.1⟩⟩
theorem EPost.be (h : EPost C .fe ρ A G σ H x S v H1) : EPost C kd ρ A G σ H x S v H1 := by
  cases kd with
  | fe => exact h
  | be =>
    obtain ⟨A', g, e, I, r⟩ := h
    exact ⟨A', g, e, I.pgw, r.be⟩
end

section
variable {α β V1 V2 : Type} {C : Ct} {W : WX} {ρ : Rho} {S : Sto} {A : List Addr} {G : List (List Addr)} {σ : L2.St} {H : Hp}
theorem EGood.step {post : β → Sto → V2 → Hp → Prop} {xpost : Str → List (Str × SV) → Sto → Value → Option Addr → Hp → Prop} {post1 : α → Sto → V1 → Hp → Prop} {xpost1 : Str → List (Str × SV) → Sto → Value → Option Addr → Hp → Prop}
    {Q : V2 → Hp → Prop} {Q1 : V1 → Hp → Prop} {m : Option (Res α)} {k : α → Sto → Option (Res β)} (q : EGood post xpost W σ Q (bindM m k)) (hx : ∀ c fs S' cls d H', xpost1 c fs S' cls d H' → xpost c fs S' cls d H')
    (h : ∀ x S', EGood post xpost W σ Q (k x S') → ∀ v H', post1 x S' v H' → Q1 v H') : EGood post1 xpost1 W σ Q1 m := by
  cases m with
  | none => exact q
  | some r =>
    cases r with
    | ok x S' => exact h x S' q
    | exc c fs S' => exact fun cls d H' p => q cls d H' (hx _ _ _ _ _ _ p)
theorem EGood.post {post post1 : α → Sto → V1 → Hp → Prop} {xpost xpost1 : Str → List (Str × SV) → Sto → Value → Option Addr → Hp → Prop} {Q : V1 → Hp → Prop} {m : Option (Res α)} (q : EGood post xpost W σ Q m)
    (hp : ∀ x S' v H', post1 x S' v H' → post x S' v H') (hx : ∀ c fs S' cls d H', xpost1 c fs S' cls d H' → xpost c fs S' cls d H') : EGood post1 xpost1 W σ Q m := by
  cases m with
  | none => exact q
  | some r =>
    cases r with
    | ok x S' => exact fun v H' p => q v H' (hp _ _ _ _ p)
    | exc c fs S' => exact fun cls d H' p => q cls d H' (hx _ _ _ _ _ _ p)
end
section
variable {C : Ct} {P P1 : Addr → Prop} {kd ka kb : Kd} {ρ : Rho} {S S1 : Sto} {A A1 A2 : List Addr} {G : List (List Addr)} {σ : L2.St} {H H0 H1 H2 : Hp} {x y z : SV} {v u w : V} {g g' : List Addr} {xs : List SV} {vs : List V}
theorem Rk.prw (r : Rk (C.pr P1) kd g A1 G H H1 x v) (h : ∀ a, P a → P1 a) : Rk (C.pr P) kd g A1 G H H1 x v := by
  have hF : ∀ a, Fs (C.pr P) A1 G a → Fs (C.pr P1) A1 G a := fun a z => z.elim .inl fun z => z.elim (fun z => .inr (.inl z)) fun z => .inr (.inr (h a z))
  cases kd with
  | be => exact ⟨Rs.mono (fun _ _ q => q) (fun a z => .inl (hF a z)) (fun a o q n => q) _ _ _ (fun a m o q => q) r.1, r.2⟩
  | fe => exact ⟨Rs.mono (fun _ _ q => q) (fun a z => .inl (z.elim (fun z => .inl (hF a z)) .inr)) (fun a o q n => q) _ _ _ (fun a m o q => q) r.1, r.2⟩
theorem RkL.prw (r : RkL (C.pr P1) kd g A1 G H H1 xs vs) (h : ∀ a, P a → P1 a) : RkL (C.pr P) kd g A1 G H H1 xs vs := by
  have hF : ∀ a, Fs (C.pr P) A1 G a → Fs (C.pr P1) A1 G a := fun a z => z.elim .inl fun z => z.elim (fun z => .inr (.inl z)) fun z => .inr (.inr (h a z))
  cases kd with
  | be => exact ⟨RsL.mono (fun _ _ q => q) (fun a z => .inl (hF a z)) (fun a o q n => q) _ _ _ (fun a m o q => q) r.1, r.2⟩
  | fe => exact ⟨RsL.mono (fun _ _ q => q) (fun a z => .inl (z.elim (fun z => .inl (hF a z)) .inr)) (fun a o q n => q) _ _ _ (fun a m o q => q) r.1, r.2⟩
theorem Ct.pr_pr : (C.pr P).pr P1 = C.pr P1 := rfl
/-- what comes next leaves the new lists alone -/
theorem EPost.next (p : EPost (C.pr P) ka ρ A G σ H x S1 v H1) : ∃ A1 g P1, Ext A H A1 H1 ∧ (∀ a, P a → P1 a) ∧ Sim (C.pr P1) ρ S1 A1 G σ H1 ∧ Rk (C.pr P) ka g A1 G H H1 x v ∧ ∀ a ∈ g, ka = .fe → P1 a := by
  obtain ⟨A1, g, e, I, r⟩ := p
  cases ka with
  | be => exact ⟨A1, g, P, e, fun a h => h, I, r, fun a m q => by cases q⟩
  | fe => exact ⟨A1, g, fun a => P a ∨ a ∈ g, e, fun a h => .inl h, I, r, fun a m _ => .inr m⟩
theorem EPost.prw (p : EPost (C.pr P1) kd ρ A G σ H x S v H1) (h : ∀ a, P a → P1 a) : EPost (C.pr P) kd ρ A G σ H x S v H1 := by
  obtain ⟨A1, g, e, I, r⟩ := p
  refine ⟨A1, g, e, ?_, r.prw h⟩
  cases kd with
  | be => exact (show Sim ((C.pr P1).pr P) ρ S A1 G σ H1 from Sim.prc I h)
  | fe => exact (show Sim (((C.pr P1).pr fun a => P1 a ∨ a ∈ g).pr fun a => P a ∨ a ∈ g) ρ S A1 G σ H1 from Sim.prc I fun a z => z.elim (fun z => .inl (h a z)) .inr)
theorem APost.prw (p : APost (C.pr P1) kd ρ A G σ H xs S vs H1) (h : ∀ a, P a → P1 a) : APost (C.pr P) kd ρ A G σ H xs S vs H1 := by
  obtain ⟨A1, g, e, I, r⟩ := p
  refine ⟨A1, g, e, ?_, r.prw h⟩
  cases kd with
  | be => exact (show Sim ((C.pr P1).pr P) ρ S A1 G σ H1 from Sim.prc I h)
  | fe => exact (show Sim (((C.pr P1).pr fun a => P1 a ∨ a ∈ g).pr fun a => P a ∨ a ∈ g) ρ S A1 G σ H1 from Sim.prc I fun a z => z.elim (fun z => .inl (h a z)) .inr)
theorem BPost.prw {b b' : Bool} (p : BPost (C.pr P1) ρ A G σ H b S b' H1) (h : ∀ a, P a → P1 a) : BPost (C.pr P) ρ A G σ H b S b' H1 := by
  obtain ⟨q, A1, e, I⟩ := p
  exact ⟨q, A1, e, (show Sim ((C.pr P1).pr P) ρ S A1 G σ H1 from Sim.prc I h)⟩
end
section
variable {X : Cx} {C : Ct} {W : WX} {kd ka kb : Kd} {e a b c : Expr} {pos : Pos} {f fa fb fc : Rho → Mo SV}
theorem be_of (h : PE X e (tV C W .fe f)) : PE X e (tV C W kd f) := by
  refine pe_imp h fun σ H Q ⟨P, ρ, S, A, G, hP, I, q⟩ => ⟨P, ρ, S, A, G, hP, I, ?_⟩
  cases e : f ρ S with
  | none => rw [e] at q; exact q
  | some r =>
    rw [e] at q
    cases r with
    | ok x S' => exact fun v H' p => q v H' p.be
    | exc c fs S' => exact q
/-! ### names and constants -/
def eVar (i : Nat) : Rho → Mo SV := fun ρ S => match ρ[i]? with
  | some (some x) => some (.ok x S)
  | _ => none
/-- .. that is no list of one's own -/
def noOwn : SV → Bool
  | .own _ => false
  | .dic _ _ => false
  | _ => true
def eVarV (i : Nat) : Rho → Mo SV := fun ρ S => match ρ[i]? with
  | some (some x) => if noOwn x then some (.ok x S) else none
  | _ => none
theorem Rs.noOwn {K : PySem.W.Frag} {mg : Str → Option Value} {H : Hp} {A : List Addr} {F : Addr → Prop} {x : SV} {v : V} {g : List Addr} (r : Rs K mg H A F x v g) (h : noOwn x = true) : g = [] := by
  cases r with
  | d _ => rfl
  | ref _ => rfl
  | fn _ => rfl
  | scr _ _ _ => rfl
  | scrK _ _ => rfl
  | own _ _ _ => cases h
  | dic _ _ _ _ => cases h
theorem Rk.noOwn {A1 : List Addr} {G : List (List Addr)} {H H1 : Hp} {x : SV} {v : V} {g : List Addr} (r : Rs C.K C.mg H1 A1 (Fs C A1 G) x v g) (h : VL.noOwn x = true) : Rk C kd [] A1 G H H1 x v := by
  obtain rfl := r.noOwn h
  cases kd with
  | be => exact ⟨r, fun a m => by cases m⟩
  | fe => exact ⟨Rs.mono (fun _ _ q => q) (fun a z => z.elim .inl fun m => by cases m) (fun a o q n => q) _ _ _ (fun a m o q => q) r, List.nodup_nil, fun a m => by cases m⟩
theorem getD_mem {G : List (List Addr)} {i : Nat} {a : Addr} (h : a ∈ G[i]?.getD []) : a ∈ G.flatten := by
  cases q : G[i]? with
  | none => rw [q] at h; cases h
  | some g => rw [q] at h; exact List.mem_flatten.mpr ⟨g, List.mem_of_getElem? q, h⟩
theorem v_var {i : Nat} (h : PE X e (tVar i)) : PE X e (tV C W .be (eVar i)) := by
  refine pe_imp h fun σ H Q ⟨P, ρ, S, A, G, hP, I, q⟩ => ?_
  unfold eVar at q
  split at q
  · rename_i x hx
    obtain ⟨v, g, e1, r, sb⟩ := I.slots i x hx
    exact ⟨v, e1, q v H ⟨A, _, Ext.refl, I, r, fun a m => ⟨fun z => (List.nodup_append.mp I.nd).2.2 a z a (getD_mem (sb.subset m)) rfl, I.trk a (List.mem_append_right _ (getD_mem (sb.subset m)))⟩⟩⟩
  · exact q.elim
theorem v_varV {i : Nat} (h : PE X e (tVar i)) : PE X e (tV C W kd (eVarV i)) := by
  refine pe_imp h fun σ H Q ⟨P, ρ, S, A, G, hP, I, q⟩ => ?_
  unfold eVarV at q
  split at q
  · rename_i x hx
    obtain ⟨v, g, e1, r, sb⟩ := I.slots i x hx
    split at q
    · rename_i hn
      exact ⟨v, e1, q v H (EPost.same I (Rk.noOwn r hn))⟩
    · exact q.elim
  · exact q.elim
/-- a constant without a place in the heap -/
def eCon (x : PyData) : Rho → Mo SV := fun _ S => some (.ok (.d x) S)
theorem v_con {x : PyData} {v : V} (h : PE X e (tC v)) (r : ∀ (H : Hp) (F : Addr → Prop), Dq C.K H F x v) : PE X e (tV C W kd (eCon x)) := by
  refine pe_imp h fun σ H Q ⟨P, ρ, S, A, G, hP, I, q⟩ => ?_
  exact q v H (EPost.same I (Rk.dat (r _ _)))
theorem v_int {i : Int} {j pos} : PE X (.Constant (.int i) j pos) (tV C W kd (eCon (.int i))) := v_con pe_int fun _ _ => .int i
theorem v_bl {i : Bool} {j pos} : PE X (.Constant (.bool i) j pos) (tV C W kd (eCon (.bool i))) := v_con pe_bl fun _ _ => .bl i
theorem v_non {j pos} : PE X (.Constant .none j pos) (tV C W kd (eCon .none)) := v_con pe_non fun _ _ => .non
theorem v_str {i : Str} {j pos} : PE X (.Constant (.str i) j pos) (tV C W kd (eCon (.str i))) := v_con pe_str fun _ _ => .str i
theorem v_glob {x : Str} {y : PyData} {v : V} {u : Value} (hg : Gl X x) (hm : X.mg x = some u) (r : RelV v u) (rd : ∀ (H : Hp) (F : Addr → Prop), Dq C.K H F y v) (hd : (x == ("__debug__" : Str)) = false := by decide) : PE X (.Name x pos) (tV C W kd (eCon y)) := v_con (pe_glob hg hm r hd) rd
/-- a def of the module as a value -/
def eFn (x : Str) : Rho → Mo SV := fun _ S => some (.ok (.fn x) S)
theorem v_fn {x : Str} {f : Addr} (hc : C.mg = X.mg) (hg : Gl X x) (hm : X.mg x = some (.ref f)) (hd : (x == ("__debug__" : Str)) = false := by decide) : PE X (.Name x pos) (tV C W kd (eFn x)) := by
  refine pe_imp (pe_glob (v := .ref f) hg hm rfl hd) fun σ H Q ⟨P, ρ, S, A, G, hP, I, q⟩ => ?_
  exact q _ H (EPost.same I (Rk.noOwn (g := []) (.fn (show C.mg x = some (.ref f) by rw [hc]; exact hm)) rfl))

/-! ### operators of two values -/
def eBin (g : Sto → SV → SV → Option SV) (fa fb : Rho → Mo SV) : Rho → Mo SV := fun ρ S => bindM (fa ρ S) fun x S1 => bindM (fb ρ S1) fun y S2 => (g S2 x y).map fun z => .ok z S2
/-- what an operation's rule must do -/
def OpOk (K : PySem.W.Frag) (ka kb kd : Kd) (g : Sto → SV → SV → Option SV) (r : R2) : Prop :=
  ∀ (C : Ct) (ρ : Rho) (S : Sto) (A : List Addr) (G : List (List Addr)) (σ : L2.St) (H0 H1 H : Hp) (x y z : SV) (v u : V) (gx gy : List Addr) (Q : VK), C.K = K → Sim C ρ S A G σ H → Rk C ka gx A G H0 H x v → Rk C kb gy A G H1 H y u → g S x y = some z →
    (∀ w H', EPost C kd ρ A G σ H z S w H' → Q w H') → r v u H Q
theorem tV_two {g : Sto → SV → SV → Option SV} {r : R2} (h : OpOk C.K ka kb kd g r) : ∀ σ H Q, tV C W kd (eBin g fa fb) σ H Q → tOp r (tV C W ka fa) (tV C W kb fb) σ H Q := by
  intro σ H Q ⟨P, ρ, S, A, G, hP, I, q⟩
  refine ⟨P, ρ, S, A, G, hP, I, EGood.step q (fun _ _ _ _ _ _ z => z) fun x S1 q v H1 p => ?_⟩
  obtain ⟨A1, g1, P1, e1, hP1, I1, k1, _⟩ := p.next
  refine ⟨P1, ρ, S1, A1, G, fun a z => hP1 a (hP a z), I1, EGood.step q (fun _ _ _ _ _ _ z => z.trans e1) fun y S2 q u H2 p => ?_⟩
  obtain ⟨A2, g2, e2, I2, k2⟩ := p
  cases eg : g S2 x y with
  | none => rw [eg] at q; exact q.elim
  | some z =>
    rw [eg] at q
    have I2' : Sim (C.pr P) ρ S2 A2 G σ H2 := (show Sim ((C.pr P1).pr P) ρ S2 A2 G σ H2 from Sim.prc I2.pgw hP1)
    exact h (C.pr P) ρ S2 A2 G σ H H1 H2 x y z v u g1 g2 Q rfl I2' (k1.ext e2) (k2.prw hP1) eg fun w H' p => q w H' (p.trans (e1.trans e2))
theorem v_op {op : Operator} {g : Sto → SV → SV → Option SV} {r : R2} (ho : OpR X (binaryOp op) r) (h : OpOk C.K ka kb kd g r) (ha : PE X a (tV C W ka fa)) (hb : PE X b (tV C W kb fb)) : PE X (.BinOp a op b pos) (tV C W kd (eBin g fa fb)) := pe_imp (pe_op ho ha hb) (tV_two h)
theorem v_cmp {op : CmpOp} {g : Sto → SV → SV → Option SV} {r : R2} (ho : OpR X (compareOp op) r) (h : OpOk C.K ka kb kd g r) (ha : PE X a (tV C W ka fa)) (hb : PE X b (tV C W kb fb)) (hm : behindInMarks op b = false) : PE X (.Compare a [op] [b] pos) (tV C W kd (eBin g fa fb)) := pe_imp (pe_cmpR ho ha hb hm) (tV_two h)
/-- .. of one -/
def eUn (g : Sto → SV → Option SV) (fa : Rho → Mo SV) : Rho → Mo SV := fun ρ S => bindM (fa ρ S) fun x S1 => (g S1 x).map fun z => .ok z S1
def UnOk (K : PySem.W.Frag) (ka kd : Kd) (g : Sto → SV → Option SV) (r : V → Hp → VK → Prop) : Prop :=
  ∀ (C : Ct) (ρ : Rho) (S : Sto) (A : List Addr) (G : List (List Addr)) (σ : L2.St) (H0 H : Hp) (x z : SV) (v : V) (gx : List Addr) (Q : VK), C.K = K → Sim C ρ S A G σ H → Rk C ka gx A G H0 H x v → g S x = some z →
    (∀ w H', EPost C kd ρ A G σ H z S w H' → Q w H') → r v H Q
theorem tV_one {g : Sto → SV → Option SV} {r : V → Hp → VK → Prop} (h : UnOk C.K ka kd g r) : ∀ σ H Q, tV C W kd (eUn g fa) σ H Q → tUn r (tV C W ka fa) σ H Q := by
  intro σ H Q ⟨P, ρ, S, A, G, hP, I, q⟩
  refine ⟨P, ρ, S, A, G, hP, I, EGood.step q (fun _ _ _ _ _ _ z => z) fun x S1 q v H1 p => ?_⟩
  obtain ⟨A1, g1, e1, I1, k1⟩ := p
  cases eg : g S1 x with
  | none => rw [eg] at q; exact q.elim
  | some z =>
    rw [eg] at q
    exact h (C.pr P) ρ S1 A1 G σ H H1 x z v g1 Q rfl I1.pgw k1 eg fun w H' p => q w H' (p.trans e1)
theorem v_un {op : UnaryOp} {g : Sto → SV → Option SV} {r : V → Hp → VK → Prop} (ho : UnR X (unaryOp op) r) (h : UnOk C.K ka kd g r) (ha : PE X a (tV C W ka fa)) : PE X (.UnaryOp op a pos) (tV C W kd (eUn g fa)) := pe_imp (pe_un ho ha) (tV_one h)
end
end VL

end
section
set_option Elab.async false
set_option linter.all false
set_option maxRecDepth 100000
/-! VL3: looking at lists and tuples; arithmetic, comparisons, tests. -/
namespace VL
open PySem PySem.Spec PyProof.Rows L2

/-- a list that may be told by its items -/
def lst? (S : Sto) : SV → Option (List SV)
  | .own xs => some xs
  | .d (.list ds) => some (ds.map .d)
  | .ref n => S[n]?
  | _ => none
/-- .. or a tuple, or the script -/
def seq? (S : Sto) : SV → Option (List SV)
  | .d (.tuple ds) => some (ds.map .d)
  | .scr ns => some (ns.map fun n => .d (.int n))
  | x => lst? S x
def tup? : SV → Option (List PyData)
  | .d (.tuple ds) => some ds
  | _ => none
/-- data -/
def dat? (S : Sto) : SV → Option PyData
  | .d x => some x
  | .own xs => (allD xs).map .list
  | .ref n => (S[n]?.bind allD).map .list
  | _ => none
theorem RsL.noOwn {K : PySem.W.Frag} {mg : Str → Option Value} {H : Hp} {A : List Addr} {F : Addr → Prop} : ∀ {xs : List SV} {vs : List V} {g : List Addr}, RsL K mg H A F xs vs g → xs.all VL.noOwn = true → g = []
  | [], _, _, r, _ => by cases r; rfl
  | x :: xs, _, _, r, h => by
    cases r with
    | cons r1 r2 =>
      simp only [List.all_cons, Bool.and_eq_true] at h
      rw [r1.noOwn h.1, RsL.noOwn r2 h.2]
      rfl
section
variable {C : Ct} {kd ka kb : Kd} {ρ : Rho} {S : Sto} {A : List Addr} {G : List (List Addr)} {σ : L2.St} {H H0 H1 H2 : Hp} {x y z : SV} {v u w : V} {xs ys : List SV} {vs us : List V} {g g' : List Addr}
theorem RkL.get {i : Nat} (r : RkL C .be g A G H H1 xs vs) (h : xs[i]? = some x) : ∃ v g', vs[i]? = some v ∧ Rk C .be g' A G H H1 x v := by
  obtain ⟨r, hg⟩ := r
  induction xs generalizing vs g i with
  | nil => simp at h
  | cons y ys ih =>
    cases r with
    | cons r1 r2 =>
      cases i with
      | zero =>
        simp at h
        subst h
        exact ⟨_, _, rfl, r1, fun a m => hg a (List.mem_append_left _ m)⟩
      | succ i => simpa using ih (by simpa using h) r2 fun a m => hg a (List.mem_append_right _ m)
theorem RkL.len (r : RkL C kd g A G H H1 xs vs) : vs.length = xs.length := by
  cases kd with
  | be => exact r.1.length
  | fe => exact r.1.length
theorem RkL.get' {i : Nat} (r : RkL C .be g A G H H1 xs vs) (h : vs[i]? = some v) : ∃ x g', xs[i]? = some x ∧ Rk C .be g' A G H H1 x v := by
  have l := r.len
  have hi : i < vs.length := (List.getElem?_eq_some_iff.mp h).1
  obtain ⟨v', g', e, q⟩ := r.get (i := i) (x := xs[i]'(by omega)) (List.getElem?_eq_getElem _)
  rw [h] at e
  cases e
  exact ⟨_, _, List.getElem?_eq_getElem _, q⟩
theorem RkL.dats {ds : List PyData} (r : DqL C.K H1 (Fs C A G) ds vs) : RkL C kd [] A G H H1 (ds.map SV.d) vs := by
  cases kd with
  | be => exact ⟨.ofD r, fun a m => by cases m⟩
  | fe => exact ⟨.ofD (DqL.mono (fun a z => z.elim .inl fun m => by cases m) (fun a o q n => q) _ _ r), List.nodup_nil, fun a m => by cases m⟩
theorem RkL.undat {ds : List PyData} (r : RkL C kd g A G H H1 xs vs) (h : allD xs = some ds) : DqL C.K H1 (Fs C A G) ds vs := by
  cases kd with
  | be => exact (r.1.toD h).1
  | fe => exact DqL.mono (fun a z => .inl (.inl z)) (fun a o q n => q) _ _ (r.1.toD h).1
theorem Rk.asBe (r : Rk C kd g A G H H1 x v) : Rk C .be g A G H H1 x v := by
  cases kd with
  | be => exact r
  | fe => exact r.be
/-- one's own, where it is no list of one's own -/
theorem Rk.fe_of (r : Rk C ka g A G H H1 x v) (h : VL.noOwn x = true) : Rk C kd [] A G H0 H1 x v := by
  have r := r.asBe
  exact Rk.noOwn r.1 h
/-- a list in the heap -/
theorem Rk.lst (I : Sim C ρ S A G σ H) (r : Rk C kd g A G H0 H x v) (h : lst? S x = some xs) : ∃ a vs g', v = .ref a ∧ H a = some (.lst vs) ∧ vs.length ≤ sizeLine ∧ RkL C .be g' A G H H xs vs := by
  obtain ⟨r1, hg⟩ := r.asBe
  cases r1 with
  | d r2 =>
    cases r2 with
    | lst e n l q =>
      simp only [lst?, Option.some.injEq] at h
      subst h
      exact ⟨_, _, _, rfl, e, l, RkL.dats q⟩
    | _ => cases h
  | ref e =>
    obtain ⟨a, vs, e1, e2, l, q⟩ := I.sto _ _ h
    rw [e] at e1
    cases e1
    exact ⟨_, _, _, rfl, e2, l, q, fun a m => by cases m⟩
  | fn _ => cases h
  | scr _ _ _ => cases h
  | scrK _ _ => cases h
  | own e l q =>
    simp only [lst?, Option.some.injEq] at h
    subst h
    exact ⟨_, _, _, rfl, e, l, q, fun a m => hg a (List.mem_cons_of_mem _ m)⟩
  | dic _ _ _ _ => cases h
theorem DqL.ofInts {F : Addr → Prop} : ∀ ns : List Int, DqL C.K H F (ns.map PyData.int) (ns.map V.int)
  | [] => .nil
  | n :: ns => .cons (.int n) (DqL.ofInts ns)
theorem Rk.seq (I : Sim C ρ S A G σ H) (r : Rk C kd g A G H0 H x v) (h : seq? S x = some xs) : ∃ a vs g', v = .ref a ∧ (SqL C.K H a vs ∨ SqT C.K H a vs) ∧ vs.length ≤ sizeLine ∧ RkL C .be g' A G H H xs vs := by
  have go : lst? S x = some xs → ∃ a vs g', v = .ref a ∧ (SqL C.K H a vs ∨ SqT C.K H a vs) ∧ vs.length ≤ sizeLine ∧ RkL C .be g' A G H H xs vs := fun h => by
    obtain ⟨a, vs, g', e, e2, l, q⟩ := r.lst I h
    exact ⟨a, vs, g', e, .inl (.of e2), l, q⟩
  unfold seq? at h
  split at h
  · rename_i ds
    simp only [Option.some.injEq] at h
    subst h
    cases r.undat with
    | tup e n l q => exact ⟨_, _, _, rfl, .inr (.of e), l, RkL.dats q⟩
    | ctup e l q => exact ⟨_, _, _, rfl, .inr (SqT.const e H), l, RkL.dats q⟩
  · rename_i ns
    simp only [Option.some.injEq] at h
    subst h
    obtain ⟨r, hg⟩ := r.asBe
    cases r with
    | scr e n l =>
      refine ⟨_, _, [], rfl, .inl (.inl (.inr ⟨_, e⟩)), by simpa using l, ?_⟩
      have := RkL.dats (C := C) (kd := .be) (A := A) (G := G) (H := H) (DqL.ofInts (C := C) (H := H) (F := Fs C A G) ns)
      rw [List.map_map] at this
      exact this
    | scrK e l =>
      refine ⟨_, _, [], rfl, .inl (SqL.const e H), by simpa using l, ?_⟩
      have := RkL.dats (C := C) (kd := .be) (A := A) (G := G) (H := H) (DqL.ofInts (C := C) (H := H) (F := Fs C A G) ns)
      rw [List.map_map] at this
      exact this
  · exact go h
theorem Rk.tup {ds : List PyData} (r : Rk C kd g A G H0 H (.d (.tuple ds)) v) : ∃ a vs, v = .ref a ∧ SqT C.K H a vs ∧ vs.length ≤ sizeLine ∧ DqL C.K H (Fs C A G) ds vs := by
  cases r.undat with
  | tup e n l q => exact ⟨_, _, rfl, .of e, l, q⟩
  | ctup e l q => exact ⟨_, _, rfl, SqT.const e H, l, q⟩
theorem Rk.dp {d : PyData} (I : Sim C ρ S A G σ H) (r : Rk C kd g A G H0 H x v) (h : dat? S x = some d) : Dp C.K H v d := by
  have go : ∀ xs ds, lst? S x = some xs → allD xs = some ds → Dp C.K H v (.list ds) := fun xs ds h h2 => by
    obtain ⟨a, vs, g', rfl, e, l, q⟩ := r.lst I h
    exact .lst (.of e) (DqL.dp _ _ (q.undat h2))
  unfold dat? at h
  split at h
  · simp only [Option.some.injEq] at h
    subst h
    exact Dq.dp _ _ r.undat
  · rename_i xs
    simp only [Option.map_eq_some_iff] at h
    obtain ⟨ds, h, rfl⟩ := h
    exact go xs ds rfl h
  · rename_i n
    simp only [Option.map_eq_some_iff, Option.bind_eq_some_iff] at h
    obtain ⟨ds, ⟨xs, h1, h2⟩, rfl⟩ := h
    exact go xs ds h1 h2
  · cases h

/-! new objects -/
theorem notFs (I : Sim C ρ S A G σ H) {p : Addr} (h : H p = none) : ¬ Fs C A G p := fun z => I.fsTrk z h
/-- a new tuple of data -/
theorem EPost.tup {ds : List PyData} {p : Addr} (I : Sim C ρ S A G σ H) (r : DqL C.K H (Fs C A G) ds vs) (l : vs.length ≤ sizeLine) (h : H p = none) : EPost C kd ρ A G σ H (.d (.tuple ds)) S (.ref p) (upd H p (.tup vs)) := by
  refine ⟨A, [], Ext.upd h, (I.new h).pg0, Rk.dat (.tup upd_same (notFs I h) l (DqL.mono (fun a q => .inl q) (fun a o q n => ?_) _ _ r))⟩
  rw [upd_ne (ne_of_none q h)]
  exact q
theorem Rk.newOwn {p : Addr} (I : Sim C ρ S A G σ H) (r : RkL C .fe g A G H1 H xs vs) (l : vs.length ≤ sizeLine) (h : H p = none) (hb : ∀ a, H a = none → H1 a = none) : Rk C .fe (p :: g) A G H1 (upd H p (.lst vs)) (.own xs) (.ref p) := by
  obtain ⟨r, nd, hg⟩ := r
  have pg : p ∉ g := fun m => (hg p m).2.1 h
  refine ⟨.own upd_same l (RsL.mono (fun _ _ q => q) (fun a z => ?_) (fun a o q n => ?_) _ _ _ (fun a m o q => ?_) r), List.nodup_cons.mpr ⟨pg, nd⟩, fun a m => ?_⟩
  · rcases z with z | z
    · exact .inl (.inl z)
    · rcases List.mem_cons.mp z with z | z
      · exact .inr (z ▸ h)
      · exact .inl (.inr z)
  · rw [upd_ne (ne_of_none q h)]; exact q
  · rw [upd_ne (ne_of_none q h)]; exact q
  · rcases List.mem_cons.mp m with e | m
    · subst e
      exact ⟨hb _ h, by rw [upd_same]; simp, fun z => I.trk _ (List.mem_append_left _ z) h⟩
    · refine ⟨(hg a m).1, ?_, (hg a m).2.2⟩
      rw [upd_ne (show a ≠ p from fun e => pg (by rw [← e]; exact m))]
      exact (hg a m).2.1
/-- a new list, one's own, of items of one's own -/
theorem EPost.own {p : Addr} {A' : List Addr} (e : Ext A H1 A' H) (I : Sim (C.pg .fe g) ρ S A' G σ H) (r : RkL C .fe g A' G H1 H xs vs) (l : vs.length ≤ sizeLine) (h : H p = none) : EPost C kd ρ A G σ H1 (.own xs) S (.ref p) (upd H p (.lst vs)) := by
  refine EPost.be ⟨A', p :: g, e.trans (Ext.upd h), ?_, Rk.newOwn I.pgw r l h fun a q => none_back e q⟩
  have J := Sim.newP (o := .lst vs) I h
  exact (show Sim (((C.pg .fe g).pr fun a => (C.pg .fe g).Pr a ∨ a = p).pr fun a => C.Pr a ∨ a ∈ p :: g) ρ S A' G σ _ from Sim.prc J fun a z => by
    rcases z with z | z
    · exact .inl (.inl z)
    · rcases List.mem_cons.mp z with z | z
      · exact .inr z
      · exact .inl (.inr z))
/-- .. of items that are no lists of one's own -/
theorem EPost.lst {p : Addr} (I : Sim C ρ S A G σ H) (r : RkL C .be g A G H1 H xs vs) (ho : xs.all noOwn = true) (l : vs.length ≤ sizeLine) (h : H p = none) : EPost C kd ρ A G σ H (.own xs) S (.ref p) (upd H p (.lst vs)) := by
  obtain ⟨r, _⟩ := r
  obtain rfl := RsL.noOwn r ho
  exact EPost.own Ext.refl I.pg0 ⟨RsL.mono (fun _ _ q => q) (fun a z => z.elim .inl fun m => by cases m) (fun a o q n => q) _ _ _ (fun a m => by cases m) r, List.nodup_nil, fun a m => by cases m⟩ l h
end

/-! ### arithmetic -/
def mulOk (i j : Int) : Bool := decide (i.natAbs.log2 + j.natAbs.log2 < 100000000)
def divOk (i j : Int) : Bool := decide (j ≠ 0) && !(Builtin.divisionGoesByPylong i j)
def gAdd (S : Sto) (x y : SV) : Option SV :=
  match x, y with
  | .d (.int i), .d (.int j) => some (.d (.int (i + j)))
  | .d (.str a), .d (.str b) => if a.length + b.length ≤ sizeLine then some (.d (.str (a ++ b))) else none
  | .d (.tuple xs), .d (.tuple ys) => if xs.length + ys.length ≤ sizeLine then some (.d (.tuple (xs ++ ys))) else none
  | x, y => (lst? S x).bind fun xs => (lst? S y).bind fun ys => if xs.all noOwn && ys.all noOwn && decide (xs.length + ys.length ≤ sizeLine) then some (.own (xs ++ ys)) else none
def gSub (_ : Sto) (x y : SV) : Option SV :=
  match x, y with
  | .d (.int i), .d (.int j) => some (.d (.int (i - j)))
  | _, _ => none
/-- within 63 bits (no wide literal behind a subtraction: the kernel counts it down) -/
def smI (i : Int) : Bool := decide (i.natAbs < 4611686018427387904)
theorem smI_lt {i : Int} (h : smI i = true) : -(2 ^ 63) ≤ i ∧ i < 2 ^ 63 := by
  have h := of_decide_eq_true h
  have e : (2 : Int) ^ 63 = 9223372036854775808 := by decide
  rw [e]
  omega
def gMul (S : Sto) (x y : SV) : Option SV :=
  match x, y with
  | .d (.int i), .d (.int j) => if mulOk i j then some (.d (.int (i * j))) else none
  | x, .d (.int k) => (lst? S x).bind fun xs => if xs.all noOwn && smI k && decide (xs.length * k.toNat ≤ sizeLine) then some (.own (List.replicate k.toNat xs).flatten) else none
  | _, _ => none
def gFdiv (_ : Sto) (x y : SV) : Option SV :=
  match x, y with
  | .d (.int i), .d (.int j) => if divOk i j then some (.d (.int (i.fdiv j))) else none
  | _, _ => none
def gMod (_ : Sto) (x y : SV) : Option SV :=
  match x, y with
  | .d (.int i), .d (.int j) => if j ≠ 0 then some (.d (.int (i.fmod j))) else none
  | _, _ => none
def gPow (_ : Sto) (x y : SV) : Option SV :=
  match x, y with
  | .d (.int i), .d (.int j) => if 0 ≤ j ∧ j ≤ 1000000 ∧ i.natAbs < 2 ^ 64 then some (.d (.int (i ^ j.toNat))) else none
  | _, _ => none
def gNeg (_ : Sto) (x : SV) : Option SV :=
  match x with
  | .d (.int i) => some (.d (.int (-i)))
  | _ => none
theorem mulOk.ok {i j : Int} (h : mulOk i j = true) : IntMulOk i j := by
  have b : ∀ x : Int, Builtin.Int.intBits x ≤ x.natAbs.log2 + 1 := fun x => by
    unfold Builtin.Int.intBits
    split <;> omega
  have h1 := b i
  have h2 := b j
  have h3 : i.natAbs.log2 + j.natAbs.log2 < 100000000 := of_decide_eq_true h
  have e : bitsLine = 134217728 := by decide
  unfold IntMulOk
  intro z
  rw [Bool.and_eq_true] at z
  have z2 := z.2
  unfold Builtin.Int.intTooBig at z2
  have z3 := of_decide_eq_true z2
  rw [e] at z3
  omega
section
variable {X : Cx} {C : Ct} {W : WX} {kd ka kb : Kd} {e a b c : Expr} {pos : Pos} {f fa fb fc : Rho → Mo SV}
abbrev rAddV (K : PySem.W.Frag) : R2 := fun x y H Q => rI0 (fun i j => .int (i + j)) x y H Q ∨ (∃ i j, x = .str i ∧ y = .str j ∧ i.length + j.length ≤ sizeLine ∧ Q (.str (i ++ j)) H) ∨ rCatA K x y H Q ∨ rCat x y H Q
theorem ok_add {K : PySem.W.Frag} : OpOk K ka kb kd gAdd (rAddV K) := by
  intro C ρ S A G σ H0 H1 H x y z v u gx gy Q hK I rx ry h q
  subst hK
  unfold gAdd at h
  split at h
  · rename_i i j
    cases h
    exact .inl ⟨i, j, rx.int, ry.int, q _ H (EPost.same I (Rk.dat (.int _)))⟩
  · rename_i a b
    split at h
    · rename_i hl
      cases h
      exact .inr (.inl ⟨a, b, rx.str, ry.str, hl, q _ H (EPost.same I (Rk.dat (.str _)))⟩)
    · cases h
  · rename_i xs ys
    split at h
    · rename_i hl
      cases h
      obtain ⟨a, vs, rfl, hs, l1, r1⟩ := rx.tup
      obtain ⟨b, us, rfl, ht, l2, r2⟩ := ry.tup
      have e1 := r1.length
      have e2 := r2.length
      refine .inr (.inr (.inl ⟨a, b, vs, us, rfl, rfl, hs, ht, by omega, fun e => ?_, fun _ e => ?_, fun _ _ p hp => q _ _ (EPost.tup I (r1.app r2) (by rw [List.length_append]; omega) hp)⟩))
      · have : xs = [] := List.eq_nil_of_length_eq_zero (by rw [← e1, e]; rfl)
        subst this
        exact q _ H (EPost.same I (Rk.fe_of ry rfl))
      · have : ys = [] := List.eq_nil_of_length_eq_zero (by rw [← e2, e]; rfl)
        subst this
        rw [List.append_nil] at q
        exact q _ H (EPost.same I (Rk.fe_of rx rfl))
    · cases h
  · simp only [Option.bind_eq_some_iff] at h
    obtain ⟨xs, hx, ys, hy, h⟩ := h
    split at h
    · rename_i hc
      cases h
      simp only [Bool.and_eq_true, decide_eq_true_eq] at hc
      obtain ⟨a, vs, ga, rfl, ha, l1, r1⟩ := rx.lst I hx
      obtain ⟨b, us, gb, rfl, hb, l2, r2⟩ := ry.lst I hy
      refine .inr (.inr (.inr ⟨a, b, vs, us, rfl, rfl, ha, hb, by rw [r1.len, r2.len]; exact hc.2, fun p hp => q _ _ (EPost.lst (g := ga ++ gb) (H1 := H) I ?_ ?_ ?_ hp)⟩))
      · exact (show RkL C .be (ga ++ gb) A G H H (xs ++ ys) (vs ++ us) from ⟨r1.1.app r2.1, fun a m => (List.mem_append.mp m).elim (r1.2 a) (r2.2 a)⟩)
      · rw [List.all_append, hc.1.1, hc.1.2]; rfl
      · rw [List.length_append, r1.len, r2.len]; exact hc.2
    · cases h
theorem op_addV : OpR X (binaryOp .Add) (rAddV X.K) := op_add.or (op_add_str.or (op_catA.or op_cat))
theorem v_add (hk : C.K = X.K) (ha : PE X a (tV C W ka fa)) (hb : PE X b (tV C W kb fb)) : PE X (.BinOp a .Add b pos) (tV C W kd (eBin gAdd fa fb)) := v_op op_addV (hk ▸ ok_add) ha hb
theorem v_sub (ha : PE X a (tV C W ka fa)) (hb : PE X b (tV C W kb fb)) : PE X (.BinOp a .Sub b pos) (tV C W kd (eBin gSub fa fb)) := v_op op_sub (fun C ρ S A G σ H0 H1 H x y z v u gx gy Q hK I rx ry h q => by
  unfold gSub at h
  split at h
  · rename_i i j
    cases h
    exact ⟨i, j, rx.int, ry.int, q _ H (EPost.same I (Rk.dat (.int _)))⟩
  · cases h) ha hb
theorem op_mulI : OpR X (binaryOp .Mult) (rI IntMulOk fun i j => .int (i * j)) := opI fun _ _ _ _ _ _ _ hc q => mul_int q hc
theorem RsL.rep {K : PySem.W.Frag} {mg : Str → Option Value} {H : Hp} {A : List Addr} {F : Addr → Prop} {xs : List SV} {vs : List V} (r : RsL K mg H A F xs vs []) : ∀ n : Nat, RsL K mg H A F (List.replicate n xs).flatten (List.replicate n vs).flatten []
  | 0 => .nil
  | n + 1 => by
    rw [List.replicate_succ, List.replicate_succ, List.flatten_cons, List.flatten_cons]
    exact r.app (RsL.rep r n)
theorem v_mul (ha : PE X a (tV C W ka fa)) (hb : PE X b (tV C W kb fb)) : PE X (.BinOp a .Mult b pos) (tV C W kd (eBin gMul fa fb)) := v_op (op_mulI.or op_rep) (fun C ρ S A G σ H0 H1 H x y z v u gx gy Q hK I rx ry h q => by
  unfold gMul at h
  split at h
  · rename_i i j
    split at h
    · rename_i hm
      cases h
      exact .inl ⟨i, j, rx.int, ry.int, mulOk.ok hm, q _ H (EPost.same I (Rk.dat (.int _)))⟩
    · cases h
  · rename_i k _
    simp only [Option.bind_eq_some_iff] at h
    obtain ⟨xs, hx, h⟩ := h
    split at h
    · rename_i hc
      cases h
      simp only [Bool.and_eq_true, decide_eq_true_eq] at hc
      obtain ⟨a, vs, ga, rfl, ha, l1, r1⟩ := rx.lst I hx
      have hl := r1.len
      refine .inr ⟨a, k, vs, rfl, ry.int, ha, (smI_lt hc.1.2).1, (smI_lt hc.1.2).2, by rw [hl]; exact hc.2, fun p hp => q _ _ ?_⟩
      obtain ⟨r1, n1⟩ := r1
      obtain rfl := r1.noOwn hc.1.1
      refine EPost.lst (g := []) (H1 := H) I ⟨r1.rep k.toNat, fun a m => by cases m⟩ ?_ ?_ hp
      · rw [List.all_flatten]
        simp only [List.all_eq_true, List.mem_replicate]
        rintro l ⟨_, rfl⟩
        intro y hy
        exact List.all_eq_true.mp hc.1.1 y hy
      · simp only [List.length_flatten, List.map_replicate, List.sum_replicate_nat]
        rw [Nat.mul_comm, hl]
        exact hc.2
    · cases h
  · cases h) ha hb
theorem op_fdivP : OpR X (binaryOp .FloorDiv) (rI (fun i j => j ≠ 0 ∧ Builtin.divisionGoesByPylong i j = false) fun i j => .int (i.fdiv j)) := opI fun _ _ _ _ _ _ _ hc q => floordiv_int hc.1 q (.inl hc.2)
theorem v_fdiv (ha : PE X a (tV C W ka fa)) (hb : PE X b (tV C W kb fb)) : PE X (.BinOp a .FloorDiv b pos) (tV C W kd (eBin gFdiv fa fb)) := v_op op_fdivP (fun C ρ S A G σ H0 H1 H x y z v u gx gy Q hK I rx ry h q => by
  unfold gFdiv at h
  split at h
  · rename_i i j
    split at h
    · rename_i hm
      cases h
      simp only [divOk, Bool.and_eq_true, decide_eq_true_eq, Bool.not_eq_true'] at hm
      exact ⟨i, j, rx.int, ry.int, hm, q _ H (EPost.same I (Rk.dat (.int _)))⟩
    · cases h
  · cases h) ha hb
theorem v_mod (ha : PE X a (tV C W ka fa)) (hb : PE X b (tV C W kb fb)) : PE X (.BinOp a .Mod b pos) (tV C W kd (eBin gMod fa fb)) := v_op op_modN (fun C ρ S A G σ H0 H1 H x y z v u gx gy Q hK I rx ry h q => by
  unfold gMod at h
  split at h
  · rename_i i j
    split at h
    · rename_i hm
      cases h
      exact ⟨i, j, rx.int, ry.int, hm, q _ H (EPost.same I (Rk.dat (.int _)))⟩
    · cases h
  · cases h) ha hb
theorem v_pow (ha : PE X a (tV C W ka fa)) (hb : PE X b (tV C W kb fb)) : PE X (.BinOp a .Pow b pos) (tV C W kd (eBin gPow fa fb)) := v_op op_pow (fun C ρ S A G σ H0 H1 H x y z v u gx gy Q hK I rx ry h q => by
  unfold gPow at h
  split at h
  · rename_i i j
    split at h
    · rename_i hm
      cases h
      exact ⟨i, j, rx.int, ry.int, hm, q _ H (EPost.same I (Rk.dat (.int _)))⟩
    · cases h
  · cases h) ha hb
theorem v_neg (ha : PE X a (tV C W ka fa)) : PE X (.UnaryOp .USub a pos) (tV C W kd (eUn gNeg fa)) := v_un un_neg (fun C ρ S A G σ H0 H x z v gx Q hK I rx h q => by
  unfold gNeg at h
  split at h
  · rename_i i
    cases h
    exact ⟨i, rx.int, q _ H (EPost.same I (Rk.dat (.int _)))⟩
  · cases h) ha

/-! ### comparisons -/
/-- a comparison by its answer -/
def cB (g : Sto → SV → SV → Option Bool) : Sto → SV → SV → Option SV := fun S x y => (g S x y).map fun b => .d (.bool b)
def CmpOk (K : PySem.W.Frag) (ka kb : Kd) (g : Sto → SV → SV → Option Bool) (r : R2) : Prop :=
  ∀ (C : Ct) (ρ : Rho) (S : Sto) (A : List Addr) (G : List (List Addr)) (σ : L2.St) (H0 H1 H : Hp) (x y : SV) (b : Bool) (v u : V) (gx gy : List Addr) (Q : VK), C.K = K → Sim C ρ S A G σ H → Rk C ka gx A G H0 H x v → Rk C kb gy A G H1 H y u → g S x y = some b →
    Q (.bl b) H → r v u H Q
theorem CmpOk.op {K : PySem.W.Frag} {ka kb kd : Kd} {g : Sto → SV → SV → Option Bool} {r : R2} (h : CmpOk K ka kb g r) : OpOk K ka kb kd (cB g) r := by
  intro C ρ S A G σ H0 H1 H x y z v u gx gy Q hK I rx ry e q
  unfold cB at e
  simp only [Option.map_eq_some_iff] at e
  obtain ⟨b, e, rfl⟩ := e
  exact h C ρ S A G σ H0 H1 H x y b v u gx gy Q hK I rx ry e (q _ H (EPost.same I (Rk.dat (.bl _))))
/-- an order of two ints, or of alike data -/
def gLt (_ : Sto) (x y : SV) : Option Bool :=
  match x, y with
  | .d (.int i), .d (.int j) => some (decide (i < j))
  | .d (.tuple xs), .d (.tuple ys) => if PySem.W.alike (.tuple xs) (.tuple ys) && SeqAt.shaped (.tuple xs) then some (PySem.W.dataLt (.tuple xs) (.tuple ys)) else none
  | _, _ => none
def gLe (_ : Sto) (x y : SV) : Option Bool :=
  match x, y with
  | .d (.int i), .d (.int j) => some (decide (i ≤ j))
  | _, _ => none
def gGt (_ : Sto) (x y : SV) : Option Bool :=
  match x, y with
  | .d (.int i), .d (.int j) => some (decide (j < i))
  | _, _ => none
def gGe (_ : Sto) (x y : SV) : Option Bool :=
  match x, y with
  | .d (.int i), .d (.int j) => some (decide (j ≤ i))
  | _, _ => none
def gEq (S : Sto) (x y : SV) : Option Bool := (dat? S x).bind fun d => (dat? S y).bind fun e => if SeqAt.shaped d && SeqAt.shaped e then some (PyData.eqv d e) else none
def gNe (S : Sto) (x y : SV) : Option Bool := (dat? S x).bind fun d => (dat? S y).bind fun e => if SeqAt.shaped d && SeqAt.shaped e then some (!PyData.eqv d e) else none
def isNone : SV → Bool
  | .d .none => true
  | _ => false
def gIsN (_ : Sto) (x y : SV) : Option Bool := if isNone y then some (isNone x) else none
def gNotN (_ : Sto) (x y : SV) : Option Bool := if isNone y then some (!isNone x) else none
def gIn (S : Sto) (x y : SV) : Option Bool := (dat? S x).bind fun d => (dat? S y).bind fun e => match e with
  | .list ds => if SeqAt.shaped d && SeqAt.shaped (.list ds) then some (ds.any fun z => PyData.eqv z d) else none
  | _ => none
def gNotIn (S : Sto) (x y : SV) : Option Bool := (dat? S x).bind fun d => (dat? S y).bind fun e => match e with
  | .list ds => if SeqAt.shaped d && SeqAt.shaped (.list ds) then some (!ds.any fun z => PyData.eqv z d) else none
  | _ => none
/-- a comparison as a value -/
theorem v_cmpB {X : Cx} {C : Ct} {W : WX} {kd ka kb : Kd} {a b : Expr} {pos : Pos} {fa fb : Rho → Mo SV} {op : CmpOp} {g : Sto → SV → SV → Option Bool} {r : R2} (ho : OpR X (compareOp op) r) (h : CmpOk C.K ka kb g r) (ha : PE X a (tV C W ka fa)) (hb : PE X b (tV C W kb fb)) (hm : behindInMarks op b = false) : PE X (.Compare a [op] [b] pos) (tV C W kd (eBin (cB g) fa fb)) := v_cmp ho h.op ha hb hm
/-- a < b of alike data -/
def rLtD (K : PySem.W.Frag) : R2 := fun x y H Q => ∃ d e, Dp K H x d ∧ Dp K H y e ∧ PySem.W.alike d e = true ∧ d ≠ .none ∧ SeqAt.shaped d = true ∧ Q (.bl (PySem.W.dataLt d e)) H
theorem op_ltD (hu : X.A.units + 64 < cLine) : OpR X (compareOp .Lt) (rLtD X.K) := by
  intro pins s σ H x y v u Q I rx ry h
  obtain ⟨d, e, hd, he, al, nn, sd, q⟩ := h
  obtain ⟨as, r1⟩ := Dp.reads I d x v hd rx
  obtain ⟨bs, r2⟩ := Dp.reads I e y u he ry
  exact PySem.W.rcLt_alike d e X.A s v u as bs r1 r2 al nn (SeqAt.room_of_shaped sd hu) _ _ _ _ ⟨.bl _, H, I, rfl, q⟩
theorem c_lt {K : PySem.W.Frag} : CmpOk K ka kb gLt (fun x y H Q => rI0 (fun i j => .bl (decide (i < j))) x y H Q ∨ rLtD K x y H Q) := (fun C ρ S A G σ H0 H1 H x y b v u gx gy Q hK I rx ry h q => by
  subst hK
  unfold gLt at h
  split at h
  · rename_i i j
    cases h
    exact .inl ⟨i, j, rx.int, ry.int, q⟩
  · split at h
    · rename_i hc
      cases h
      simp only [Bool.and_eq_true] at hc
      exact .inr ⟨_, _, Dq.dp _ _ rx.undat, Dq.dp _ _ ry.undat, hc.1, (by intro z; cases z), hc.2, q⟩
    · cases h
  · cases h)
theorem v_lt (hk : C.K = X.K) (hu : X.A.units + 64 < cLine) (ha : PE X a (tV C W ka fa)) (hb : PE X b (tV C W kb fb)) : PE X (.Compare a [.Lt] [b] pos) (tV C W kd (eBin (cB gLt) fa fb)) := v_cmpB (op_lt.or (op_ltD hu)) (hk ▸ c_lt) ha hb (nomark _)
theorem c_le {K : PySem.W.Frag} : CmpOk K ka kb gLe (rI0 fun i j => .bl (decide (i ≤ j))) := (fun C ρ S A G σ H0 H1 H x y b v u gx gy Q hK I rx ry h q => by
  subst hK
  unfold gLe at h
  split at h
  · rename_i i j
    cases h
    exact ⟨i, j, rx.int, ry.int, q⟩
  · cases h)
theorem v_le (ha : PE X a (tV C W ka fa)) (hb : PE X b (tV C W kb fb)) : PE X (.Compare a [.LtE] [b] pos) (tV C W kd (eBin (cB gLe) fa fb)) := v_cmpB (op_le) (c_le (K := C.K)) ha hb (nomark _)
theorem c_gt {K : PySem.W.Frag} : CmpOk K ka kb gGt (rI0 fun i j => .bl (decide (j < i))) := (fun C ρ S A G σ H0 H1 H x y b v u gx gy Q hK I rx ry h q => by
  subst hK
  unfold gGt at h
  split at h
  · rename_i i j
    cases h
    exact ⟨i, j, rx.int, ry.int, q⟩
  · cases h)
theorem v_gt (ha : PE X a (tV C W ka fa)) (hb : PE X b (tV C W kb fb)) : PE X (.Compare a [.Gt] [b] pos) (tV C W kd (eBin (cB gGt) fa fb)) := v_cmpB (op_gt) (c_gt (K := C.K)) ha hb (nomark _)
theorem c_ge {K : PySem.W.Frag} : CmpOk K ka kb gGe (rI0 fun i j => .bl (decide (j ≤ i))) := (fun C ρ S A G σ H0 H1 H x y b v u gx gy Q hK I rx ry h q => by
  subst hK
  unfold gGe at h
  split at h
  · rename_i i j
    cases h
    exact ⟨i, j, rx.int, ry.int, q⟩
  · cases h)
theorem v_ge (ha : PE X a (tV C W ka fa)) (hb : PE X b (tV C W kb fb)) : PE X (.Compare a [.GtE] [b] pos) (tV C W kd (eBin (cB gGe) fa fb)) := v_cmpB (op_ge) (c_ge (K := C.K)) ha hb (nomark _)
theorem c_eq {K : PySem.W.Frag} : CmpOk K ka kb gEq (rEqD K) := (fun C ρ S A G σ H0 H1 H x y b v u gx gy Q hK I rx ry h q => by
  subst hK
  unfold gEq at h
  simp only [Option.bind_eq_some_iff] at h
  obtain ⟨d, hd, e, he, h⟩ := h
  split at h
  · rename_i hc
    cases h
    simp only [Bool.and_eq_true] at hc
    exact ⟨d, e, rx.dp I hd, ry.dp I he, hc.1, hc.2, q⟩
  · cases h)
theorem v_eq (hk : C.K = X.K) (hu : X.A.units + 64 < cLine) (ha : PE X a (tV C W ka fa)) (hb : PE X b (tV C W kb fb)) : PE X (.Compare a [.Eq] [b] pos) (tV C W kd (eBin (cB gEq) fa fb)) := v_cmpB (op_eqD hu) (hk ▸ c_eq) ha hb (nomark _)
theorem c_ne {K : PySem.W.Frag} : CmpOk K ka kb gNe (rNeD K) := (fun C ρ S A G σ H0 H1 H x y b v u gx gy Q hK I rx ry h q => by
  subst hK
  unfold gNe at h
  simp only [Option.bind_eq_some_iff] at h
  obtain ⟨d, hd, e, he, h⟩ := h
  split at h
  · rename_i hc
    cases h
    simp only [Bool.and_eq_true] at hc
    exact ⟨d, e, rx.dp I hd, ry.dp I he, hc.1, hc.2, q⟩
  · cases h)
theorem v_ne (hk : C.K = X.K) (hu : X.A.units + 64 < cLine) (ha : PE X a (tV C W ka fa)) (hb : PE X b (tV C W kb fb)) : PE X (.Compare a [.NotEq] [b] pos) (tV C W kd (eBin (cB gNe) fa fb)) := v_cmpB (op_neD hu) (hk ▸ c_ne) ha hb (nomark _)
theorem Rk.isNone {g A : List Addr} {G : List (List Addr)} {H H' : Hp} {x : SV} {v : V} (r : Rk C kd g A G H H' x v) : decide (v = .non) = VL.isNone x := by
  obtain ⟨r1, _⟩ := r.asBe
  cases r1 with
  | d r2 => cases r2 <;> simp [VL.isNone]
  | _ => simp [VL.isNone]
theorem isNone_of {x : SV} (h : isNone x = true) : x = .d .none := by
  unfold isNone at h
  split at h
  · rfl
  · cases h
theorem c_isN {K : PySem.W.Frag} : CmpOk K ka kb gIsN (fun x y H Q => y = .non ∧ Q (.bl (decide (x = .non))) H) := (fun C ρ S A G σ H0 H1 H x y b v u gx gy Q hK I rx ry h q => by
  subst hK
  unfold gIsN at h
  split at h
  · rename_i hn
    cases h
    obtain rfl := isNone_of hn
    refine ⟨ry.non, ?_⟩
    rw [rx.isNone]
    exact q
  · cases h)
theorem v_isN (ha : PE X a (tV C W ka fa)) (hb : PE X b (tV C W kb fb)) : PE X (.Compare a [.Is] [b] pos) (tV C W kd (eBin (cB gIsN) fa fb)) := v_cmpB (op_isN) (c_isN (K := C.K)) ha hb (nomark _)
theorem c_notN {K : PySem.W.Frag} : CmpOk K ka kb gNotN (fun x y H Q => y = .non ∧ Q (.bl (!decide (x = .non))) H) := (fun C ρ S A G σ H0 H1 H x y b v u gx gy Q hK I rx ry h q => by
  subst hK
  unfold gNotN at h
  split at h
  · rename_i hn
    cases h
    obtain rfl := isNone_of hn
    refine ⟨ry.non, ?_⟩
    rw [rx.isNone]
    exact q
  · cases h)
theorem v_notN (ha : PE X a (tV C W ka fa)) (hb : PE X b (tV C W kb fb)) : PE X (.Compare a [.IsNot] [b] pos) (tV C W kd (eBin (cB gNotN) fa fb)) := v_cmpB (op_notN) (c_notN (K := C.K)) ha hb (nomark _)
theorem c_in {K : PySem.W.Frag} : CmpOk K ka kb gIn (rInD K) := (fun C ρ S A G σ H0 H1 H x y b v u gx gy Q hK I rx ry h q => by
  subst hK
  unfold gIn at h
  simp only [Option.bind_eq_some_iff] at h
  obtain ⟨d, hd, e, he, h⟩ := h
  split at h
  · split at h
    · rename_i hc
      cases h
      simp only [Bool.and_eq_true] at hc
      exact ⟨d, _, rx.dp I hd, ry.dp I he, hc.1, hc.2, q⟩
    · cases h
  · cases h)
theorem v_in (hk : C.K = X.K) (hu : X.A.units + 65 < cLine) (ha : PE X a (tV C W ka fa)) (hb : PE X b (tV C W kb fb)) (hm : behindInMarks .In b = false) : PE X (.Compare a [.In] [b] pos) (tV C W kd (eBin (cB gIn) fa fb)) := v_cmpB (op_inD hu) (hk ▸ c_in) ha hb hm
theorem c_notIn {K : PySem.W.Frag} : CmpOk K ka kb gNotIn (rNotInD K) := (fun C ρ S A G σ H0 H1 H x y b v u gx gy Q hK I rx ry h q => by
  subst hK
  unfold gNotIn at h
  simp only [Option.bind_eq_some_iff] at h
  obtain ⟨d, hd, e, he, h⟩ := h
  split at h
  · split at h
    · rename_i hc
      cases h
      simp only [Bool.and_eq_true] at hc
      exact ⟨d, _, rx.dp I hd, ry.dp I he, hc.1, hc.2, q⟩
    · cases h
  · cases h)
theorem v_notIn (hk : C.K = X.K) (hu : X.A.units + 65 < cLine) (ha : PE X a (tV C W ka fa)) (hb : PE X b (tV C W kb fb)) (hm : behindInMarks .NotIn b = false) : PE X (.Compare a [.NotIn] [b] pos) (tV C W kd (eBin (cB gNotIn) fa fb)) := v_cmpB (op_notInD hu) (hk ▸ c_notIn) ha hb hm
end
end VL

end
section
set_option Elab.async false
set_option linter.all false
set_option maxRecDepth 100000
/-! VL4: tests, and, or, if; subscripts and slices; displays; argument lists; calls of built-ins. -/
namespace VL
open PySem PySem.Spec PyProof.Rows L2

/-! ### tests -/
def truth (S : Sto) (x : SV) : Option Bool :=
  match x with
  | .d .none => some false
  | .d (.bool b) => some b
  | .d (.int i) => some (i != 0)
  | x => (seq? S x).map fun xs => !xs.isEmpty
def bVal (f : Rho → Mo SV) : Rho → Mo Bool := fun ρ S => bindM (f ρ S) fun x S1 => (truth S1 x).map fun b => .ok b S1
def bAnd (f g : Rho → Mo Bool) : Rho → Mo Bool := fun ρ S => bindM (f ρ S) fun b S1 => if b then g ρ S1 else some (.ok false S1)
def bOr (f g : Rho → Mo Bool) : Rho → Mo Bool := fun ρ S => bindM (f ρ S) fun b S1 => if b then some (.ok true S1) else g ρ S1
def bNot (f : Rho → Mo Bool) : Rho → Mo Bool := fun ρ S => bindM (f ρ S) fun b S1 => some (.ok (!b) S1)
/-- as values (all but the last a bool) -/
def eAnd (f g : Rho → Mo SV) : Rho → Mo SV := fun ρ S => bindM (f ρ S) fun x S1 => match x with
  | .d (.bool b) => if b then g ρ S1 else some (.ok (.d (.bool false)) S1)
  | _ => none
def eOr (f g : Rho → Mo SV) : Rho → Mo SV := fun ρ S => bindM (f ρ S) fun x S1 => match x with
  | .d (.bool b) => if b then some (.ok (.d (.bool true)) S1) else g ρ S1
  | _ => none
def eNot (f : Rho → Mo SV) : Rho → Mo SV := fun ρ S => bindM (f ρ S) fun x S1 => match x with
  | .d (.bool b) => some (.ok (.d (.bool (!b))) S1)
  | _ => none
def eIf (c : Rho → Mo Bool) (f g : Rho → Mo SV) : Rho → Mo SV := fun ρ S => bindM (c ρ S) fun b S1 => if b then f ρ S1 else g ρ S1

section
variable {X : Cx} {C : Ct} {W : WX} {kd ka kb kc : Kd} {e a b c : Expr} {pos : Pos} {rest : List Expr} {f fa fb fc : Rho → Mo SV} {p q r : Rho → Mo Bool}
theorem Rk.truth {g : List Addr} {ρ : Rho} {S : Sto} {A : List Addr} {G : List (List Addr)} {σ : L2.St} {H0 H : Hp} {x : SV} {v : V} {k : Bool} (I : Sim C ρ S A G σ H) (rx : Rk C ka g A G H0 H x v) (h : VL.truth S x = some k) : TruV C.K v H k := by
  unfold VL.truth at h
  split at h
  · cases h; rw [rx.non]; rfl
  · cases h; rw [rx.bl]; rfl
  · cases h; rw [rx.int]; rfl
  · simp only [Option.map_eq_some_iff] at h
    obtain ⟨xs, h, rfl⟩ := h
    obtain ⟨a, vs, g', rfl, hs, l, r⟩ := rx.seq I h
    have e : xs.isEmpty = vs.isEmpty := by
      have := r.len
      cases xs <;> cases vs <;> simp_all
    rw [e]
    rcases hs with hs | hs
    · exact .inl ⟨_, hs, rfl⟩
    · exact .inr (.inl ⟨_, hs, rfl⟩)
theorem b_val (hk : C.K = X.K) (ha : PE X e (tV C W ka f)) (he : ∀ whole, isTrue e X.env whole = (do let v ← whole; standAt e.pos; holding [v] (truthy v)) := by intro _; rfl) : PT X e (tTs C W (bVal f)) := by
  refine pt_imp (pt_truth ha he) fun σ H Q ⟨P, ρ, S, A, G, hP, I, q⟩ => ⟨P, ρ, S, A, G, hP, I, EGood.step q (fun _ _ _ _ _ _ z => z) fun x S1 q v H1 p__ => ?_⟩
  obtain ⟨A1, g1, e1, J1, k1⟩ := p__
  have I1 := J1.pgw
  cases eg : truth S1 x with
  | none => rw [eg] at q; exact q.elim
  | some k =>
    rw [eg] at q
    exact ⟨k, hk ▸ (show TruV (C.pr P).K v H1 k from k1.truth I1 eg), q k H1 ⟨rfl, A1, e1, I1⟩⟩
def bB (f : Rho → Mo SV) : Rho → Mo Bool := fun ρ S => bindM (f ρ S) fun x S1 => match x with
  | .d (.bool b) => some (.ok b S1)
  | _ => none
theorem tV_test (ta : TE) (h : ∀ σ H Q, tV C W kd f σ H Q → ta σ H Q) : ∀ σ H Q, tTs C W (bB f) σ H Q → tTest ta σ H Q := by
  intro σ H Q ⟨P, ρ, S, A, G, hP, I, q⟩
  refine h σ H _ ⟨P, ρ, S, A, G, hP, I, EGood.step q (fun _ _ _ _ _ _ z => z) fun x S1 q v H1 p__ => ?_⟩
  obtain ⟨A1, g1, e1, J1, k1⟩ := p__
  have I1 := J1.pgw
  split at q
  · rename_i b
    exact ⟨b, k1.bl, q b H1 ⟨rfl, A1, e1, I1⟩⟩
  · exact q.elim
/-- a comparison as a test, by its operation -/
theorem t_cmp {op : CmpOp} {g : Sto → SV → SV → Option Bool} {r : R2} (ho : OpR X (compareOp op) r) (h : CmpOk C.K ka kb g r) (ha : PE X a (tV C W ka fa)) (hb : PE X b (tV C W kb fb)) (hm : behindInMarks op b = false) : PT X (.Compare a [op] [b] pos) (tTs C W (bB (eBin (cB g) fa fb))) :=
  pt_imp (pt_cmpR ho ha hb hm) (tV_test (kd := .fe) _ (tV_two h.op))
theorem b_and1 (h : PT X a (tTs C W p)) : PW X (.BoolOp .And [a] pos) (tTs C W p) := pw_and1 h
theorem b_or1 (h : PT X a (tTs C W p)) : PW X (.BoolOp .Or [a] pos) (tTs C W p) := pw_or1 h
theorem b_and (ha : PT X a (tTs C W p)) (hb : PW X (.BoolOp .And (b :: rest) pos) (tTs C W q)) : PW X (.BoolOp .And (a :: b :: rest) pos) (tTs C W (bAnd p q)) := by
  refine pw_imp (pw_and ha hb) fun σ H Q ⟨P, ρ, S, A, G, hP, I, h⟩ => ⟨P, ρ, S, A, G, hP, I, EGood.step h (fun _ _ _ _ _ _ z => z) fun k S1 h v H1 ⟨ev, A1, e1, I1⟩ => ?_⟩
  subst ev
  cases v with
  | true => exact ⟨P, ρ, S1, A1, G, hP, I1, EGood.post h (fun _ _ _ _ z => z.trans e1) fun _ _ _ _ _ _ z => z.trans e1⟩
  | false => exact h _ _ ⟨rfl, A1, e1, I1⟩
theorem b_or (ha : PT X a (tTs C W p)) (hb : PW X (.BoolOp .Or (b :: rest) pos) (tTs C W q)) : PW X (.BoolOp .Or (a :: b :: rest) pos) (tTs C W (bOr p q)) := by
  refine pw_imp (pw_or ha hb) fun σ H Q ⟨P, ρ, S, A, G, hP, I, h⟩ => ⟨P, ρ, S, A, G, hP, I, EGood.step h (fun _ _ _ _ _ _ z => z) fun k S1 h v H1 ⟨ev, A1, e1, I1⟩ => ?_⟩
  subst ev
  cases v with
  | false => exact ⟨P, ρ, S1, A1, G, hP, I1, EGood.post h (fun _ _ _ _ z => z.trans e1) fun _ _ _ _ _ _ z => z.trans e1⟩
  | true => exact h _ _ ⟨rfl, A1, e1, I1⟩
theorem b_not (ha : PT X a (tTs C W p)) : PT X (.UnaryOp .Not a pos) (tTs C W (bNot p)) := by
  refine pt_imp (pt_not ha) fun σ H Q ⟨P, ρ, S, A, G, hP, I, h⟩ => ⟨P, ρ, S, A, G, hP, I, EGood.step h (fun _ _ _ _ _ _ z => z) fun k S1 h v H1 ⟨ev, A1, e1, I1⟩ => ?_⟩
  subst ev
  exact h _ _ ⟨rfl, A1, e1, I1⟩
theorem v_one {op} (h : PE X a (tV C W kd f)) : PE X (.BoolOp op [a] pos) (tV C W kd f) := pe_one h
theorem v_and (ha : PE X a (tV C W ka fa)) (hb : PE X (.BoolOp .And (b :: rest) pos) (tV C W kd fb)) : PE X (.BoolOp .And (a :: b :: rest) pos) (tV C W kd (eAnd fa fb)) := by
  refine pe_imp (pe_and ha hb) fun σ H Q ⟨P, ρ, S, A, G, hP, I, h⟩ => ⟨P, ρ, S, A, G, hP, I, EGood.step h (fun _ _ _ _ _ _ z => z) fun x S1 h v H1 p__ => ?_⟩
  obtain ⟨A1, g1, e1, J1, k1⟩ := p__
  have I1 := J1.pgw
  split at h
  · rename_i k
    refine ⟨k, k1.bl, ?_⟩
    cases k with
    | true => exact ⟨P, ρ, S1, A1, G, hP, I1, EGood.post h (fun _ _ _ _ z => z.trans e1) fun _ _ _ _ _ _ z => z.trans e1⟩
    | false => exact h _ _ ⟨A1, [], e1, I1.pg0, Rk.dat (.bl _)⟩
  · exact h.elim
theorem v_or (ha : PE X a (tV C W ka fa)) (hb : PE X (.BoolOp .Or (b :: rest) pos) (tV C W kd fb)) : PE X (.BoolOp .Or (a :: b :: rest) pos) (tV C W kd (eOr fa fb)) := by
  refine pe_imp (pe_or ha hb) fun σ H Q ⟨P, ρ, S, A, G, hP, I, h⟩ => ⟨P, ρ, S, A, G, hP, I, EGood.step h (fun _ _ _ _ _ _ z => z) fun x S1 h v H1 p__ => ?_⟩
  obtain ⟨A1, g1, e1, J1, k1⟩ := p__
  have I1 := J1.pgw
  split at h
  · rename_i k
    refine ⟨k, k1.bl, ?_⟩
    cases k with
    | false => exact ⟨P, ρ, S1, A1, G, hP, I1, EGood.post h (fun _ _ _ _ z => z.trans e1) fun _ _ _ _ _ _ z => z.trans e1⟩
    | true => exact h _ _ ⟨A1, [], e1, I1.pg0, Rk.dat (.bl _)⟩
  · exact h.elim
theorem v_not (ha : PE X a (tV C W ka fa)) : PE X (.UnaryOp .Not a pos) (tV C W kd (eNot fa)) := by
  refine pe_imp (pe_not ha) fun σ H Q ⟨P, ρ, S, A, G, hP, I, h⟩ => ⟨P, ρ, S, A, G, hP, I, EGood.step h (fun _ _ _ _ _ _ z => z) fun x S1 h v H1 p__ => ?_⟩
  obtain ⟨A1, g1, e1, J1, k1⟩ := p__
  have I1 := J1.pgw
  split at h
  · rename_i k
    exact ⟨k, k1.bl, h _ _ ⟨A1, [], e1, I1.pg0, Rk.dat (.bl _)⟩⟩
  · exact h.elim
theorem v_if (hc : PT X c (tTs C W p)) (ha : PE X a (tV C W kd fa)) (hb : PE X b (tV C W kd fb)) : PE X (.IfExp c a b pos) (tV C W kd (eIf p fa fb)) := by
  refine pe_imp (pe_ifExp hc ha hb) fun σ H Q ⟨P, ρ, S, A, G, hP, I, h⟩ => ⟨P, ρ, S, A, G, hP, I, EGood.step h (fun _ _ _ _ _ _ z => z) fun k S1 h v H1 ⟨ev, A1, e1, I1⟩ => ?_⟩
  subst ev
  cases v with
  | true => exact ⟨P, ρ, S1, A1, G, hP, I1, EGood.post h (fun _ _ _ _ z => z.trans e1) fun _ _ _ _ _ _ z => z.trans e1⟩
  | false => exact ⟨P, ρ, S1, A1, G, hP, I1, EGood.post h (fun _ _ _ _ z => z.trans e1) fun _ _ _ _ _ _ z => z.trans e1⟩
/-- a chain of two comparisons -/
def eChain (g g' : Sto → SV → SV → Option Bool) (fa fb fc : Rho → Mo SV) : Rho → Mo SV := fun ρ S => bindM (fa ρ S) fun x S1 => bindM (fb ρ S1) fun y S2 => match g S2 x y with
  | some true => bindM (fc ρ S2) fun z S3 => (g' S3 y z).map fun w => .ok (.d (.bool w)) S3
  | some false => some (.ok (.d (.bool false)) S2)
  | none => none
theorem tV_chain {g g' : Sto → SV → SV → Option Bool} {r r' : R2} (h : CmpOk C.K ka kb g r) (h' : CmpOk C.K kb kc g' r') : ∀ σ H Q, tV C W kd (eChain g g' fa fb fc) σ H Q → tChain r r' (tV C W ka fa) (tV C W kb fb) (tV C W kc fc) σ H Q := by
  intro σ H Q ⟨P, ρ, S, A, G, hP, I, q⟩
  refine ⟨P, ρ, S, A, G, hP, I, EGood.step q (fun _ _ _ _ _ _ z => z) fun x S1 q v H1 p => ?_⟩
  obtain ⟨A1, g1, P1, e1, hP1, I1, k1, _⟩ := p.next
  refine ⟨P1, ρ, S1, A1, G, fun a z => hP1 a (hP a z), I1, EGood.step q (fun _ _ _ _ _ _ z => z.trans e1) fun y S2 q u H2 p => ?_⟩
  obtain ⟨A2, g2, P2, e2, hP2, I2, k2, _⟩ := p.next
  have I2' : Sim (C.pr P) ρ S2 A2 G σ H2 := (show Sim ((C.pr P2).pr P) ρ S2 A2 G σ H2 from Sim.prc I2 fun a z => hP2 a (hP1 a z))
  have k2' := k2.prw hP1
  cases eg : g S2 x y with
  | none => rw [eg] at q; exact q.elim
  | some k =>
    rw [eg] at q
    refine h (C.pr P) ρ S2 A2 G σ H H1 H2 x y k v u g1 g2 _ rfl I2' (k1.ext e2) k2' eg ⟨k, rfl, ?_⟩
    cases k with
    | false => exact q _ _ ⟨A2, [], e1.trans e2, I2'.pg0, Rk.dat (.bl _)⟩
    | true =>
      refine ⟨P2, ρ, S2, A2, G, fun a z => hP2 a (hP1 a (hP a z)), I2, EGood.step q (fun _ _ _ _ _ _ z => z.trans (e1.trans e2)) fun z S4 q t4 H4 p => ?_⟩
      obtain ⟨A4, g4, e4, J4, k4⟩ := p
      have I4' : Sim (C.pr P) ρ S4 A4 G σ H4 := (show Sim ((C.pr P2).pr P) ρ S4 A4 G σ H4 from Sim.prc J4.pgw fun a z => hP2 a (hP1 a z))
      cases eg' : g' S4 y z with
      | none => rw [eg'] at q; exact q.elim
      | some w' =>
        rw [eg'] at q
        exact h' (C.pr P) ρ S4 A4 G σ H1 H2 H4 y z w' u t4 g2 g4 Q rfl I4' (k2'.ext e4) (k4.prw fun a z => hP2 a (hP1 a z)) eg' (q _ _ ⟨A4, [], e1.trans (e2.trans e4), I4'.pg0, Rk.dat (.bl _)⟩)
theorem v_chain {op op' : CmpOp} {g g' : Sto → SV → SV → Option Bool} {r r' : R2} (ho : OpR X (compareOp op) r) (ho' : OpR X (compareOp op') r') (h : CmpOk C.K ka kb g r) (h' : CmpOk C.K kb kc g' r') (ha : PE X a (tV C W ka fa)) (hb : PE X b (tV C W kb fb)) (hc : PE X c (tV C W kc fc))
    (hm : lastMarks [op, op'] [b, c] = false := by with_unfolding_all rfl) : PE X (.Compare a [op, op'] [b, c] pos) (tV C W kd (eChain g g' fa fb fc)) := pe_imp (pe_chain ho ho' ha hb hc hm) (tV_chain h h')
theorem t_chain {op op' : CmpOp} {g g' : Sto → SV → SV → Option Bool} {r r' : R2} (ho : OpR X (compareOp op) r) (ho' : OpR X (compareOp op') r') (h : CmpOk C.K ka kb g r) (h' : CmpOk C.K kb kc g' r') (ha : PE X a (tV C W ka fa)) (hb : PE X b (tV C W kb fb)) (hc : PE X c (tV C W kc fc))
    (hm : lastMarks [op, op'] [b, c] = false := by with_unfolding_all rfl) : PT X (.Compare a [op, op'] [b, c] pos) (tTs C W (bB (eChain g g' fa fb fc))) := pt_imp (pt_chain ho ho' ha hb hc hm) (tV_test (kd := .fe) _ (tV_chain h h'))
end

/-! ### subscripts -/
def ixL {α : Type} (xs : List α) (i : Int) : Option α := atI xs i
/-- an item; no list of one's own -/
def gIx (S : Sto) (x y : SV) : Option SV :=
  match x, y with
  | .d (.str z), .d (.int i) => if z.length ≤ sizeLine then (atI z.cps.toList i).map fun c => .d (.str ⟨#[c]⟩) else none
  | x, .d (.int i) => (seq? S x).bind fun xs => (atI xs i).bind fun z => if noOwn z then some z else none
  | _, _ => none
/-- an item that is looked at -/
def gIxB (S : Sto) (x y : SV) : Option SV :=
  match y with
  | .d (.int i) => (seq? S x).bind fun xs => atI xs i
  | _ => none
section
variable {X : Cx} {C : Ct} {W : WX} {kd ka kb : Kd} {e a b c : Expr} {pos : Pos} {f fa fb fc : Rho → Mo SV}
theorem RkL.at {g A : List Addr} {G : List (List Addr)} {H H1 : Hp} {xs : List SV} {vs : List V} {x : SV} {i : Int} (r : RkL C .be g A G H H1 xs vs) (h : atI xs i = some x) : ∃ v g', atI vs i = some v ∧ Rk C .be g' A G H H1 x v := by
  unfold atI at h ⊢
  rw [r.len]
  cases e : ixN xs.length i with
  | none => rw [e] at h; cases h
  | some j =>
    rw [e] at h
    exact r.get h
theorem ok_ix {K : PySem.W.Frag} : OpOk K ka kb kd gIx (rIx K) := by
  intro C ρ S A G σ H0 H1 H x y z v u gx gy Q hK I rx ry h q
  subst hK
  unfold gIx at h
  split at h
  · rename_i t i
    split at h
    · rename_i hl
      simp only [Option.map_eq_some_iff] at h
      obtain ⟨c, hc, rfl⟩ := h
      exact .inr (.inr ⟨t, i, c, rx.str, ry.int, hl, hc, q _ H (EPost.same I (Rk.dat (.str _)))⟩)
    · cases h
  · rename_i i _
    simp only [Option.bind_eq_some_iff] at h
    obtain ⟨xs, hx, w, hw, h⟩ := h
    split at h
    · rename_i hn
      cases h
      obtain ⟨a, vs, ga, rfl, hs, l, r⟩ := rx.seq I hx
      obtain ⟨t, gt, ht, rt⟩ := r.at hw
      have fin : Q t H := q _ H (EPost.same I (Rk.fe_of rt hn))
      rcases hs with hs | hs
      · exact .inl ⟨a, vs, i, t, rfl, ry.int, hs, ht, fin⟩
      · exact .inr (.inl ⟨a, vs, i, t, rfl, ry.int, hs, ht, fin⟩)
    · cases h
  · cases h
theorem ok_ixB {K : PySem.W.Frag} : OpOk K ka kb .be gIxB (rIx K) := by
  intro C ρ S A G σ H0 H1 H x y z v u gx gy Q hK I rx ry h q
  subst hK
  unfold gIxB at h
  split at h
  · rename_i i
    simp only [Option.bind_eq_some_iff] at h
    obtain ⟨xs, hx, hw⟩ := h
    obtain ⟨a, vs, ga, rfl, hs, l, r⟩ := rx.seq I hx
    obtain ⟨t, gt, ht, rt⟩ := r.at hw
    have fin : Q t H := q _ H ⟨A, gt, Ext.refl, I, rt⟩
    rcases hs with hs | hs
    · exact .inl ⟨a, vs, i, t, rfl, ry.int, hs, ht, fin⟩
    · exact .inr (.inl ⟨a, vs, i, t, rfl, ry.int, hs, ht, fin⟩)
  · cases h
theorem v_ix (hk : C.K = X.K) (ha : PE X a (tV C W ka fa)) (hb : PE X b (tV C W kb fb)) (hs : PlainIx b) : PE X (.Subscript a b pos) (tV C W kd (eBin gIx fa fb)) := pe_imp (pe_ix ix_seq ha hb hs) (tV_two (hk ▸ ok_ix))
theorem v_ixB (hk : C.K = X.K) (ha : PE X a (tV C W ka fa)) (hb : PE X b (tV C W kb fb)) (hs : PlainIx b) : PE X (.Subscript a b pos) (tV C W .be (eBin gIxB fa fb)) := pe_imp (pe_ix ix_seq ha hb hs) (tV_two (hk ▸ ok_ixB))
/-! slices -/
def cutL {α : Type} (xs : List α) (lo hi : Option Int) : List α := (xs.drop (HT.sIx xs.length 0 lo)).take (HT.sIx xs.length xs.length hi - HT.sIx xs.length 0 lo)
def pNone : Rho → Mo (Option Int) := fun _ S => some (.ok none S)
def pSome (f : Rho → Mo SV) : Rho → Mo (Option Int) := fun ρ S => bindM (f ρ S) fun x S1 => match x with
  | .d (.int i) => some (.ok (some i) S1)
  | _ => none
def OPost (C : Ct) (ρ : Rho) (A : List Addr) (G : List (List Addr)) (σ : L2.St) (H : Hp) (b : Option Int) (S' : Sto) (b' : Option Int) (H' : Hp) : Prop := b' = b ∧ ∃ A', Ext A H A' H' ∧ Sim C ρ S' A' G σ H'
def tO (C : Ct) (W : WX) (f : Rho → Mo (Option Int)) : TO := fun σ H Q => ∃ P ρ S A G, (∀ a, C.Pr a → P a) ∧ Sim (C.pr P) ρ S A G σ H ∧ EGood (OPost (C.pr P) ρ A G σ H) (XPost C ρ A G σ H) W σ Q (f ρ S)
theorem po_imp {e : Option Expr} {t t' : TO} (h : PO X e t) (i : ∀ σ H Q, t' σ H Q → t σ H Q) : PO X e t' := ⟨fun pins s σ H Q I q => h.run pins s σ H Q I (i σ H Q q)⟩
theorem o_none : PO X none (tO C W pNone) := po_imp po_none fun σ H Q ⟨P, ρ, S, A, G, hP, I, q⟩ => q none H ⟨rfl, A, Ext.refl, I⟩
theorem o_some (h : PE X e (tV C W ka f)) : PO X (some e) (tO C W (pSome f)) := by
  refine po_imp (po_some h) fun σ H Q ⟨P, ρ, S, A, G, hP, I, q⟩ => ⟨P, ρ, S, A, G, hP, I, EGood.step q (fun _ _ _ _ _ _ z => z) fun x S1 q v H1 p__ => ?_⟩
  obtain ⟨A1, g1, e1, J1, k1⟩ := p__
  have I1 := J1.pgw
  split at q
  · rename_i i
    exact ⟨i, k1.int, q _ H1 ⟨rfl, A1, e1, I1⟩⟩
  · exact q.elim
def gSl (S : Sto) (x : SV) (lo hi : Option Int) : Option SV :=
  match x with
  | .d (.tuple ds) => some (.d (.tuple (cutL ds lo hi)))
  | .d (.str z) => if z.length ≤ sizeLine then some (.d (.str (Txt.slice z lo hi))) else none
  | .scr ns => some (.own ((cutL ns lo hi).map fun n => .d (.int n)))
  | x => (lst? S x).bind fun xs => if xs.all noOwn then some (.own (cutL xs lo hi)) else none
def eSl (f : Rho → Mo SV) (lo hi : Rho → Mo (Option Int)) : Rho → Mo SV := fun ρ S => bindM (f ρ S) fun x S1 => bindM (lo ρ S1) fun l S2 => bindM (hi ρ S2) fun h S3 => (gSl S3 x l h).map fun z => .ok z S3
theorem cutL_length {α : Type} (xs : List α) (lo hi : Option Int) : (cutL xs lo hi).length ≤ xs.length := by
  unfold cutL
  rw [List.length_take, List.length_drop]
  omega
theorem DqL.cut {K : PySem.W.Frag} {H : Hp} {F : Addr → Prop} {ds : List PyData} {vs : List V} (r : DqL K H F ds vs) (lo hi : Option Int) : DqL K H F (cutL ds lo hi) (cutV vs lo hi) := by
  unfold cutL cutV
  rw [r.length]
  exact (r.drop _).take _
theorem RsL.drop {K : PySem.W.Frag} {mg : Str → Option Value} {H : Hp} {A : List Addr} {F : Addr → Prop} : ∀ {xs : List SV} {vs : List V} (n : Nat), RsL K mg H A F xs vs [] → RsL K mg H A F (xs.drop n) (vs.drop n) []
  | _, _, 0, r => r
  | [], _, n + 1, r => by cases r; exact .nil
  | x :: xs, _, n + 1, r => by
    generalize hg : ([] : List Addr) = g at r
    cases r with
    | cons r1 r2 =>
      have := List.append_eq_nil_iff.mp hg.symm
      obtain ⟨rfl, rfl⟩ := this
      exact RsL.drop n r2
theorem RsL.take {K : PySem.W.Frag} {mg : Str → Option Value} {H : Hp} {A : List Addr} {F : Addr → Prop} : ∀ {xs : List SV} {vs : List V} (n : Nat), RsL K mg H A F xs vs [] → RsL K mg H A F (xs.take n) (vs.take n) []
  | _, _, 0, r => .nil
  | [], _, n + 1, r => by cases r; exact .nil
  | x :: xs, _, n + 1, r => by
    generalize hg : ([] : List Addr) = g at r
    cases r with
    | cons r1 r2 =>
      have := List.append_eq_nil_iff.mp hg.symm
      obtain ⟨rfl, rfl⟩ := this
      exact .cons (g := []) (g' := []) r1 (RsL.take n r2)
theorem v_sl (hk : C.K = X.K) {lo hi : Option Expr} {p2 : Pos} {fl fh : Rho → Mo (Option Int)} (ha : PE X a (tV C W ka fa)) (hl : PO X lo (tO C W fl)) (hh : PO X hi (tO C W fh)) : PE X (.Subscript a (.Slice lo hi none p2) pos) (tV C W kd (eSl fa fl fh)) := by
  refine pe_imp (pe_slice (sl_tupA.or (sl_list.or C8.sl_txt)) ha hl hh) fun σ H Q ⟨P, ρ, S, A, G, hP, I, q⟩ => ⟨P, ρ, S, A, G, hP, I, EGood.step q (fun _ _ _ _ _ _ z => z) fun x S1 q v H1 p__ => ?_⟩
  obtain ⟨A1, g1, P1, e1, hP1, I1, k1, _⟩ := p__.next
  refine ⟨P1, ρ, S1, A1, G, fun a z => hP1 a (hP a z), I1, EGood.step q (fun _ _ _ _ _ _ z => z.trans e1) fun lo S2 q2 lo' H2 ⟨el, A2, e2, I2⟩ => ?_⟩
  subst el
  refine ⟨P1, ρ, S2, A2, G, fun a z => hP1 a (hP a z), I2, EGood.step q2 (fun _ _ _ _ _ _ z => z.trans (e1.trans e2)) fun hi S3 q3 hi' H3 ⟨eh, A3, e3, I3'⟩ => ?_⟩
  subst eh
  have I3 : Sim (C.pr P) ρ S3 A3 G σ H3 := (show Sim ((C.pr P1).pr P) ρ S3 A3 G σ H3 from Sim.prc I3' hP1)
  have rx := (k1.ext e2).ext e3
  clear q q2
  cases eg : gSl S3 x lo' hi' with
  | none => rw [eg] at q3; exact q3.elim
  | some z =>
    rw [eg] at q3
    have fin : ∀ w H', EPost (C.pr P) kd ρ A3 G σ H3 z S3 w H' → Q w H' := fun w H' p => q3 w H' (p.trans (e1.trans (e2.trans e3)))
    clear q3
    have lists : ∀ xs, lst? S3 x = some xs → xs.all noOwn = true → z = .own (cutL xs lo' hi') → ∃ a vs, v = .ref a ∧ SqL X.K H3 a vs ∧ ∀ p, H3 p = none → Q (.ref p) (upd H3 p (.lst (cutV vs lo' hi'))) := fun xs hx hn hz => by
      obtain ⟨a, vs, ga, rfl, e, l, r⟩ := rx.lst I3 hx
      refine ⟨a, vs, rfl, .of e, fun p hp => fin _ _ ?_⟩
      subst hz
      have hlen := r.len
      obtain ⟨r, _⟩ := r
      obtain rfl := r.noOwn hn
      refine EPost.lst (g := []) (H1 := H3) I3 ⟨?_, fun a m => by cases m⟩ ?_ (Nat.le_trans (cutV_length _ _ _) l) hp
      · unfold cutL cutV
        rw [hlen]
        exact (r.drop _).take _
      · refine List.all_eq_true.mpr fun y hy => List.all_eq_true.mp hn y ?_
        unfold cutL at hy
        exact List.mem_of_mem_drop (List.mem_of_mem_take hy)
    unfold gSl at eg
    split at eg
    · rename_i ds
      cases eg
      obtain ⟨a, vs, rfl, hs, l, r⟩ := rx.tup
      refine .inl ⟨a, vs, rfl, hk ▸ hs, fun hw => ?_, fun hw p hp => fin _ _ (EPost.tup I3 (r.cut _ _) (Nat.le_trans (cutV_length _ _ _) l) hp)⟩
      have e : cutL ds lo' hi' = ds := by
        unfold cutL
        rw [← r.length, hw.1, hw.2, List.drop_zero, Nat.sub_zero, r.length]
        exact List.take_length
      rw [e] at fin
      exact fin _ _ (EPost.same I3 (Rk.fe_of rx rfl))
    · rename_i t
      split at eg
      · rename_i hz
        cases eg
        exact .inr (.inr ⟨t, rx.str, hz, fin _ _ (EPost.same I3 (Rk.dat (.str _)))⟩)
      · cases eg
    · rename_i ns
      cases eg
      obtain ⟨r0, hg⟩ := rx.asBe
      cases r0 with
      | scr e n l =>
        refine .inr (.inl ⟨_, _, rfl, .inl (.inr ⟨_, e⟩), fun p hp => fin _ _ ?_⟩)
        have hc : cutV (ns.map V.int) lo' hi' = (cutL ns lo' hi').map V.int := by
          unfold cutV cutL
          rw [List.length_map, ← List.map_drop, ← List.map_take]
        rw [hc]
        refine EPost.lst (g := []) (H1 := H3) I3 ⟨?_, fun a m => by cases m⟩ (by simp [List.all_map, noOwn]) ?_ hp
        · have := RsL.ofD (K := C.K) (mg := C.mg) (A := A3) (DqL.ofInts (C := C) (H := H3) (F := Fs (C.pr P) A3 G) (cutL ns lo' hi'))
          rw [List.map_map] at this
          exact this
        · rw [List.length_map]
          exact Nat.le_trans (cutL_length _ _ _) l
      | scrK e l =>
        refine .inr (.inl ⟨_, _, rfl, hk ▸ SqL.const e H3, fun p hp => fin _ _ ?_⟩)
        have hc : cutV (ns.map V.int) lo' hi' = (cutL ns lo' hi').map V.int := by
          unfold cutV cutL
          rw [List.length_map, ← List.map_drop, ← List.map_take]
        rw [hc]
        refine EPost.lst (g := []) (H1 := H3) I3 ⟨?_, fun a m => by cases m⟩ (by simp [List.all_map, noOwn]) ?_ hp
        · have := RsL.ofD (K := C.K) (mg := C.mg) (A := A3) (DqL.ofInts (C := C) (H := H3) (F := Fs (C.pr P) A3 G) (cutL ns lo' hi'))
          rw [List.map_map] at this
          exact this
        · rw [List.length_map]
          exact Nat.le_trans (cutL_length _ _ _) l
    · simp only [Option.bind_eq_some_iff] at eg
      obtain ⟨xs, hx, eg⟩ := eg
      split at eg
      · rename_i hn
        cases eg
        exact .inr (.inl (lists xs hx hn rfl))
      · cases eg
end
end VL

end
section
set_option Elab.async false
set_option linter.all false
set_option maxRecDepth 100000
/-! VL5: displays, argument lists, calls of built-ins. -/
namespace VL
open PySem PySem.Spec PyProof.Rows L2

/-! ### from a list of one's own to data -/
mutual
def datO : SV → Option PyData
  | .d x => some x
  | .own xs => (datOs xs).map .list
  | .dic _ _ => none
  | .ref _ => none
  | .fn _ => none
  | .scr _ => none
def datOs : List SV → Option (List PyData)
  | [] => some []
  | x :: xs => (datO x).bind fun d => (datOs xs).map (d :: ·)
end
/-- what may be handed on for good -/
def frz (x : SV) : Option SV := if noOwn x then some x else (datO x).map .d
def frzs : List SV → Option (List SV)
  | [] => some []
  | x :: xs => (frz x).bind fun y => (frzs xs).map (y :: ·)
section
variable {K : PySem.W.Frag} {mg : Str → Option Value} {H : Hp} {A : List Addr} {F F1 : Addr → Prop}
mutual
theorem Rs.datO (hF : ∀ a, F a → F1 a) : ∀ (x : SV) (v : V) (g : List Addr) (d : PyData), Rs K mg H A F1 x v g → VL.datO x = some d → (∀ a ∈ g, ¬ F a) → Dq K H F d v
  | .d x, _, _, _, r, h, _ => by
    cases r with
    | d r =>
      simp only [VL.datO, Option.some.injEq] at h
      subst h
      exact Dq.mono (fun a z => .inl (hF a z)) (fun a o q n => q) _ _ r
  | .own xs, _, _, _, r, h, n => by
    cases r with
    | own e l r =>
      simp only [VL.datO, Option.map_eq_some_iff] at h
      obtain ⟨ds, h, rfl⟩ := h
      exact .lst e (n _ List.mem_cons_self) l (RsL.datO hF xs _ _ ds r h fun a m => n a (List.mem_cons_of_mem _ m))
  | .ref _, _, _, _, _, h, _ => by simp [VL.datO] at h
  | .dic _ _, _, _, _, _, h, _ => by simp [VL.datO] at h
  | .fn _, _, _, _, _, h, _ => by simp [VL.datO] at h
  | .scr _, _, _, _, _, h, _ => by simp [VL.datO] at h
theorem RsL.datO (hF : ∀ a, F a → F1 a) : ∀ (xs : List SV) (vs : List V) (g : List Addr) (ds : List PyData), RsL K mg H A F1 xs vs g → VL.datOs xs = some ds → (∀ a ∈ g, ¬ F a) → DqL K H F ds vs
  | [], _, _, _, r, h, _ => by
    cases r
    simp only [VL.datOs, Option.some.injEq] at h
    subst h
    exact .nil
  | x :: xs, _, _, _, r, h, n => by
    cases r with
    | cons r1 r2 =>
      simp only [VL.datOs, Option.bind_eq_some_iff, Option.map_eq_some_iff] at h
      obtain ⟨d, h1, ds, h2, rfl⟩ := h
      exact .cons (Rs.datO hF x _ _ d r1 h1 fun a m => n a (List.mem_append_left _ m)) (RsL.datO hF xs _ _ ds r2 h2 fun a m => n a (List.mem_append_right _ m))
end
end
section
variable {C : Ct} {kd ka kb : Kd} {ρ : Rho} {S : Sto} {A A' : List Addr} {G : List (List Addr)} {σ : L2.St} {H H0 H1 H2 : Hp} {x y z : SV} {v u w : V} {xs ys : List SV} {vs us : List V} {g : List Addr}
/-- what is one's own is neither the store's, nor a slot's, nor left alone by others -/
theorem fe_not (I : Sim (C.pg .fe g) ρ S A' G σ H) {a : Addr} (h : Rk C .fe g A' G H0 H x v) (m : a ∈ g) (hp : ∀ a ∈ g, ¬ C.Pr a) : ¬ Fs C A' G a := fun z => by
  have q : (C.pg .fe g).Pr a := .inr m
  have n := (I.prot a q).1
  rcases z with z | z | z
  · exact n (List.mem_append_left _ z)
  · exact n (List.mem_append_right _ z)
  · exact hp a m z
theorem RkL.datO {ds : List PyData} (r : RkL C .fe g A' G H0 H xs vs) (hg : ∀ a ∈ g, ¬ Fs C A' G a) (h : VL.datOs xs = some ds) : DqL C.K H (Fs C A' G) ds vs := RsL.datO (fun a z => .inl z) _ _ _ _ r.1 h hg
theorem Rk.datO {d : PyData} (r : Rk C .fe g A' G H0 H x v) (hg : ∀ a ∈ g, ¬ Fs C A' G a) (h : VL.datO x = some d) : Dq C.K H (Fs C A' G) d v := Rs.datO (fun a z => .inl z) _ _ _ _ r.1 h hg
theorem Rk.frz (r : Rk C .fe g A' G H0 H x v) (hg : ∀ a ∈ g, ¬ Fs C A' G a) (h : VL.frz x = some y) : Rs C.K C.mg H A' (Fs C A' G) y v [] := by
  unfold VL.frz at h
  split at h
  · rename_i hn
    cases h
    obtain ⟨r, nd, hg'⟩ := r
    obtain rfl := r.noOwn hn
    exact Rs.mono (fun _ _ q => q) (fun a z => .inl (.inl z)) (fun a o q n => q) _ _ _ (fun a m => by cases m) r
  · simp only [Option.map_eq_some_iff] at h
    obtain ⟨d, h, rfl⟩ := h
    exact .d (r.datO hg h)
theorem RkL.uncons (r : RkL C .fe g A G H0 H (x :: xs) vs) : ∃ v us g1 g2, vs = v :: us ∧ g = g1 ++ g2 ∧ Rk C .fe g1 A G H0 H x v ∧ RkL C .fe g2 A G H0 H xs us := by
  obtain ⟨r, nd, hg⟩ := r
  cases r with
  | cons r1 r2 =>
    rename_i v us g1 g2
    have n := List.nodup_append.mp nd
    refine ⟨v, us, g1, g2, rfl, rfl, ⟨?_, n.1, fun a m => hg a (List.mem_append_left _ m)⟩, ⟨?_, n.2.1, fun a m => hg a (List.mem_append_right _ m)⟩⟩
    · exact Rs.mono (fun _ _ q => q) (fun a z => z.elim (fun z => .inl (.inl z)) fun z => .inl (.inr (List.mem_append_left _ z))) (fun a o q n => q) _ _ _ (fun a m o q => q) r1
    · exact RsL.mono (fun _ _ q => q) (fun a z => z.elim (fun z => .inl (.inl z)) fun z => .inl (.inr (List.mem_append_right _ z))) (fun a o q n => q) _ _ _ (fun a m o q => q) r2
theorem RkL.frz (r : RkL C .fe g A' G H0 H xs vs) (hg : ∀ a ∈ g, ¬ Fs C A' G a) (h : VL.frzs xs = some ys) : RsL C.K C.mg H A' (Fs C A' G) ys vs [] := by
  induction xs generalizing vs ys g with
  | nil =>
    simp only [VL.frzs, Option.some.injEq] at h
    subst h
    obtain ⟨r, _⟩ := r
    cases r
    exact .nil
  | cons x xs ih =>
    simp only [VL.frzs, Option.bind_eq_some_iff, Option.map_eq_some_iff] at h
    obtain ⟨y, hy, zs, hz, rfl⟩ := h
    obtain ⟨v, us, g1, g2, rfl, rfl, r1, r2⟩ := r.uncons
    exact .cons (g := []) (g' := []) (r1.frz (fun a m => hg a (List.mem_append_left _ m)) hy) (ih r2 (fun a m => hg a (List.mem_append_right _ m)) hz)
end

/-! ### argument lists -/
def aNil : Rho → Mo (List SV) := fun _ S => some (.ok [] S)
def aCons (f : Rho → Mo SV) (g : Rho → Mo (List SV)) : Rho → Mo (List SV) := fun ρ S => bindM (f ρ S) fun x S1 => bindM (g ρ S1) fun xs S2 => some (.ok (x :: xs) S2)
section
variable {X : Cx} {C : Ct} {W : WX} {kd ka kb : Kd} {e a b c : Expr} {es : List Expr} {pos : Pos} {f fa fb : Rho → Mo SV} {fs : Rho → Mo (List SV)}
theorem a_nil : PA X [] (tVs C W kd aNil) := pa_imp pa_nil fun σ H Q ⟨P, ρ, S, A, G, hP, I, q⟩ => q [] H ⟨A, [], Ext.refl, I.pg0, by
  cases kd with
  | be => exact ⟨.nil, fun a m => by cases m⟩
  | fe => exact ⟨.nil, List.nodup_nil, fun a m => by cases m⟩⟩
theorem a_cons (ha : PE X e (tV C W kd f)) (hr : PA X es (tVs C W kd fs)) (hs : starEach (e :: es) X.env = (false, eval e X.env) :: starEach es X.env := by rfl) : PA X (e :: es) (tVs C W kd (aCons f fs)) := by
  refine pa_imp (pa_cons ha hr hs) fun σ H Q ⟨P, ρ, S, A, G, hP, I, q⟩ => ⟨P, ρ, S, A, G, hP, I, EGood.step q (fun _ _ _ _ _ _ z => z) fun x S1 q v H1 p => ?_⟩
  obtain ⟨A1, g1, e1, J1, k1⟩ := p
  cases kd with
  | be =>
    refine ⟨P, ρ, S1, A1, G, hP, J1, EGood.step q (fun _ _ _ _ _ _ z => z.trans e1) fun xs S2 q us H2 p => ?_⟩
    obtain ⟨A2, g2, e2, J2, k2⟩ := p
    have k1 := k1.ext e2
    exact q _ _ ⟨A2, g1 ++ g2, e1.trans e2, J2, .cons k1.1 k2.1, fun a m => (List.mem_append.mp m).elim (k1.2 a) (k2.2 a)⟩
  | fe =>
    refine ⟨fun a => P a ∨ a ∈ g1, ρ, S1, A1, G, fun a z => .inl (hP a z), J1, EGood.step q (fun _ _ _ _ _ _ z => z.trans e1) fun xs S2 q us H2 p => ?_⟩
    obtain ⟨A2, g2, e2, J2, k2⟩ := p
    have hF : ∀ a, (Fs (C.pr P) A2 G a ∨ a ∈ g1 ++ g2) ↔ (Fs (C.pr fun a => P a ∨ a ∈ g1) A2 G a ∨ a ∈ g2) := fun a => by
      constructor
      · rintro ((z | z | z) | z)
        · exact .inl (.inl z)
        · exact .inl (.inr (.inl z))
        · exact .inl (.inr (.inr (.inl z)))
        · exact (List.mem_append.mp z).elim (fun z => .inl (.inr (.inr (.inr z)))) .inr
      · rintro ((z | z | z | z) | z)
        · exact .inl (.inl z)
        · exact .inl (.inr (.inl z))
        · exact .inl (.inr (.inr z))
        · exact .inr (List.mem_append_left _ z)
        · exact .inr (List.mem_append_right _ z)
    refine q _ _ ⟨A2, g1 ++ g2, e1.trans e2, ?_, .cons ?_ ?_, ?_, ?_⟩
    · exact (show Sim (((C.pr fun a => P a ∨ a ∈ g1).pr fun a => (P a ∨ a ∈ g1) ∨ a ∈ g2).pr fun a => P a ∨ a ∈ g1 ++ g2) ρ S2 A2 G σ H2 from Sim.prc J2 fun a z => z.elim (fun z => .inl (.inl z)) fun z => (List.mem_append.mp z).elim (fun z => .inl (.inr z)) .inr)
    · refine Rs.mono (prefix_get e2.pre) (fun a z => ?_) (fun a o q n => e2.keep a o q fun z => n (.inl (.inl z))) _ _ _ (fun a m o q => e2.keep a o q (k1.2.2 a m).2.2) k1.1
      rcases z with z | z
      · rcases fs_ext e2 a z with z | z
        · exact .inl (.inl z)
        · exact .inr z
      · rcases List.mem_append.mp z with z | z
        · exact .inl (.inr z)
        · exact .inr (k2.2.2 a z).1
    · exact RsL.mono (fun _ _ q => q) (fun a z => .inl ((hF a).mp z)) (fun a o q n => q) _ _ _ (fun a m o q => q) k2.1
    · refine List.nodup_append.mpr ⟨k1.2.1, k2.2.1, fun a h b h' e => ?_⟩
      subst e
      exact (k1.2.2 a h).2.1 (k2.2.2 a h').1
    · intro a m
      rcases List.mem_append.mp m with m | m
      · refine ⟨(k1.2.2 a m).1, e2.there a (k1.2.2 a m).2.1, fun z => ?_⟩
        rcases e2.new a z with z | z
        · exact (k1.2.2 a m).2.2 z
        · exact (k1.2.2 a m).2.1 z
      · exact ⟨none_back e1 (k2.2.2 a m).1, (k2.2.2 a m).2⟩
/-- no new thing is the store's or a slot's -/
theorem new_not {P : Addr → Prop} {ρ : Rho} {S S1 : Sto} {A A1 : List Addr} {G : List (List Addr)} {σ : L2.St} {H H1 : Hp} {g : List Addr} (I : Sim (C.pr P) ρ S A G σ H) {xs : List SV} {vs : List V} (r : RkL (C.pr P) .fe g A1 G H H1 xs vs) : ∀ a ∈ g, ¬ Fs (C.pr P) A1 G a := fun a m z => by
  obtain ⟨h0, _, hA⟩ := r.2.2 a m
  rcases z with z | z | z
  · exact hA z
  · exact I.trk a (List.mem_append_right _ z) h0
  · exact I.prTrk z h0
theorem new_not1 {P : Addr → Prop} {ρ : Rho} {S S1 : Sto} {A A1 : List Addr} {G : List (List Addr)} {σ : L2.St} {H H1 : Hp} {g : List Addr} (I : Sim (C.pr P) ρ S A G σ H) {x : SV} {v : V} (r : Rk (C.pr P) .fe g A1 G H H1 x v) : ∀ a ∈ g, ¬ Fs (C.pr P) A1 G a := fun a m z => by
  obtain ⟨h0, _, hA⟩ := r.2.2 a m
  rcases z with z | z | z
  · exact hA z
  · exact I.trk a (List.mem_append_right _ z) h0
  · exact I.prTrk z h0
/-! ### displays -/
def eTup (fs : Rho → Mo (List SV)) : Rho → Mo SV := fun ρ S => bindM (fs ρ S) fun xs S1 => if xs.length ≤ sizeLine then (datOs xs).map fun ds => .ok (.d (.tuple ds)) S1 else none
def eLst (fs : Rho → Mo (List SV)) : Rho → Mo SV := fun ρ S => bindM (fs ρ S) fun xs S1 => if xs.length ≤ sizeLine then some (.ok (.own xs) S1) else none
theorem v_tup {x1} (h : PA X es (tVs C W .fe fs)) : PE X (.Tuple es x1 pos) (tV C W kd (eTup fs)) := by
  refine pe_imp (pe_tup h) fun σ H Q ⟨P, ρ, S, A, G, hP, I, q⟩ => ⟨P, ρ, S, A, G, hP, I, EGood.step q (fun _ _ _ _ _ _ z => z) fun xs S1 q vs H1 p => ?_⟩
  obtain ⟨A1, g1, e1, J1, k1⟩ := p
  split at q
  · rename_i hl
    cases ed : datOs xs with
    | none => rw [ed] at q; exact q.elim
    | some ds =>
      rw [ed] at q
      have r := k1.datO (new_not (S1 := S1) I k1) ed
      refine ⟨by rw [k1.len]; exact hl, fun p hp => q _ _ (EPost.trans e1 (EPost.tup J1.pgw r (by rw [k1.len]; exact hl) hp))⟩
  · exact q.elim
theorem v_lst (h : PA X es (tVs C W .fe fs)) : PE X (.List es pos) (tV C W kd (eLst fs)) := by
  refine pe_imp (pe_lst h) fun σ H Q ⟨P, ρ, S, A, G, hP, I, q⟩ => ⟨P, ρ, S, A, G, hP, I, EGood.step q (fun _ _ _ _ _ _ z => z) fun xs S1 q vs H1 p => ?_⟩
  obtain ⟨A1, g1, e1, J1, k1⟩ := p
  split at q
  · rename_i hl
    exact ⟨by rw [k1.len]; exact hl, fun p hp => q _ _ (EPost.own e1 J1 k1 (by rw [k1.len]; exact hl) hp)⟩
  · exact q.elim

/-! ### calls of built-ins by values -/
def eCal (g : Sto → List SV → Option SV) (fs : Rho → Mo (List SV)) : Rho → Mo SV := fun ρ S => bindM (fs ρ S) fun xs S1 => (g S1 xs).map fun z => .ok z S1
def CalOk (K : PySem.W.Frag) (ka kd : Kd) (g : Sto → List SV → Option SV) (r : List V → Hp → VK → Prop) : Prop :=
  ∀ (C : Ct) (ρ : Rho) (S : Sto) (A : List Addr) (G : List (List Addr)) (σ : L2.St) (H0 H : Hp) (xs : List SV) (z : SV) (vs : List V) (gx : List Addr) (Q : VK), C.K = K → Sim C ρ S A G σ H → RkL C ka gx A G H0 H xs vs → g S xs = some z →
    (∀ w H', EPost C kd ρ A G σ H z S w H' → Q w H') → r vs H Q
theorem tV_cal {g : Sto → List SV → Option SV} {r : List V → Hp → VK → Prop} (h : CalOk C.K ka kd g r) : ∀ σ H Q, tV C W kd (eCal g fs) σ H Q → tCB r (tVs C W ka fs) σ H Q := by
  intro σ H Q ⟨P, ρ, S, A, G, hP, I, q⟩
  refine ⟨P, ρ, S, A, G, hP, I, EGood.step q (fun _ _ _ _ _ _ z => z) fun xs S1 q vs H1 p => ?_⟩
  obtain ⟨A1, g1, e1, J1, k1⟩ := p
  cases eg : g S1 xs with
  | none => rw [eg] at q; exact q.elim
  | some z =>
    rw [eg] at q
    exact h (C.pr P) ρ S1 A1 G σ H H1 xs z vs g1 Q rfl J1.pgw k1 eg fun w H' p => q w H' (p.trans e1)
theorem v_calB {id : String} {x : Str} {p : Pos} {g : Sto → List SV → Option SV} {r : List V → Hp → VK → Prop} (hc : CallR X (.builtin id) r) (h : CalOk C.K ka kd g r) (hg : Gl X x) (hm : X.mg x = none) (hv : bootBuiltins x = some (.builtin id)) (ha : PA X (e :: es) (tVs C W ka fs)) (hn : x ≠ "__name__" := by decide) (hdb : (x == ("__debug__" : Str)) = false := by decide)
    (he : starEach (e :: es) X.env = (false, eval e X.env) :: starEach es X.env := by rfl) (hpl : (backTo pos (starEach es X.env)).any (·.1) = false := by rfl) : PE X (.Call (.Name x p) (e :: es) [] pos) (tV C W kd (eCal g fs)) := pe_imp (pe_callB hc hg hm hv ha hn hdb he hpl) (tV_cal h)
theorem v_calT {T : String} {x : Str} {p : Pos} {g : Sto → List SV → Option SV} {r : List V → Hp → VK → Prop} (hc : CallR X (.type T) r) (h : CalOk C.K ka kd g r) (hg : Gl X x) (hm : X.mg x = none) (hv : bootBuiltins x = some (.type T)) (ha : PA X (e :: es) (tVs C W ka fs)) (hn : x ≠ "__name__" := by decide) (hdb : (x == ("__debug__" : Str)) = false := by decide)
    (he : starEach (e :: es) X.env = (false, eval e X.env) :: starEach es X.env := by rfl) (hpl : (backTo pos (starEach es X.env)).any (·.1) = false := by rfl) : PE X (.Call (.Name x p) (e :: es) [] pos) (tV C W kd (eCal g fs)) := pe_imp (pe_callTy hc hg hm hv ha hn hdb he hpl) (tV_cal h)
end
section
variable {X : Cx} {C : Ct} {W : WX} {kd ka kb : Kd}
theorem RkL.one {g A : List Addr} {G : List (List Addr)} {H0 H : Hp} {x : SV} {vs : List V} (r : RkL C ka g A G H0 H [x] vs) : ∃ v, vs = [v] ∧ Rk C .be g A G H0 H x v := by
  have r : RkL C .be g A G H0 H [x] vs := by
    cases ka with
    | be => exact r
    | fe => exact r.be
  obtain ⟨r, hg⟩ := r
  cases r with
  | cons r1 r2 => cases r2; rw [List.append_nil] at hg ⊢; exact ⟨_, rfl, r1, hg⟩
theorem RkL.two {g A : List Addr} {G : List (List Addr)} {H0 H : Hp} {x y : SV} {vs : List V} (r : RkL C ka g A G H0 H [x, y] vs) : ∃ v u g1 g2, vs = [v, u] ∧ Rk C .be g1 A G H0 H x v ∧ Rk C .be g2 A G H0 H y u := by
  have r : RkL C .be g A G H0 H [x, y] vs := by
    cases ka with
    | be => exact r
    | fe => exact r.be
  obtain ⟨r, hg⟩ := r
  cases r with
  | cons r1 r2 =>
    cases r2 with
    | cons r2 r3 =>
      cases r3
      exact ⟨_, _, _, _, rfl, ⟨r1, fun a m => hg a (List.mem_append_left _ m)⟩, r2, fun a m => hg a (List.mem_append_right _ (List.mem_append_left _ m))⟩
/-- len -/
def gLen (S : Sto) (xs : List SV) : Option SV :=
  match xs with
  | [.d (.str z)] => if z.length ≤ sizeLine then some (.d (.int z.length)) else none
  | [x] => (seq? S x).map fun ys => .d (.int ys.length)
  | _ => none
theorem ok_len {K : PySem.W.Frag} : CalOk K ka kd gLen (fun xs H Q => ∃ x n, xs = [x] ∧ LenV K x H n ∧ Q (.int n) H) := by
  intro C ρ S A G σ H0 H xs z vs gx Q hK I r h q
  subst hK
  unfold gLen at h
  split at h
  · rename_i t
    split at h
    · rename_i hl
      cases h
      obtain ⟨v, rfl, r1⟩ := r.one
      exact ⟨v, _, rfl, by rw [r1.str]; exact ⟨hl, rfl⟩, q _ H (EPost.same I (Rk.dat (.int _)))⟩
    · cases h
  · rename_i x _
    simp only [Option.map_eq_some_iff] at h
    obtain ⟨ys, hy, rfl⟩ := h
    obtain ⟨v, rfl, r1⟩ := r.one
    obtain ⟨a, vs, ga, rfl, hs, l, r2⟩ := r1.seq I hy
    refine ⟨_, vs.length, rfl, ?_, by rw [r2.len]; exact q _ H (EPost.same I (Rk.dat (.int _)))⟩
    rcases hs with hs | hs
    · exact .inl ⟨_, hs, rfl⟩
    · exact .inr ⟨_, hs, rfl⟩
  · cases h
/-- abs of an int -/
def gAbs (_ : Sto) (xs : List SV) : Option SV :=
  match xs with
  | [.d (.int i)] => some (.d (.int (if i < 0 then -i else i)))
  | _ => none
theorem ok_abs {K : PySem.W.Frag} : CalOk K ka kd gAbs (fun xs H Q => ∃ i, xs = [.int i] ∧ Q (.int (if i < 0 then -i else i)) H) := by
  intro C ρ S A G σ H0 H xs z vs gx Q hK I r h q
  unfold gAbs at h
  split at h
  · cases h
    obtain ⟨v, rfl, r1⟩ := r.one
    exact ⟨_, by rw [r1.int], q _ H (EPost.same I (Rk.dat (.int _)))⟩
  · cases h
/-- max, min of two ints -/
def gMax2 (_ : Sto) (xs : List SV) : Option SV :=
  match xs with
  | [.d (.int i), .d (.int j)] => some (.d (.int (if j > i then j else i)))
  | _ => none
def gMin2 (_ : Sto) (xs : List SV) : Option SV :=
  match xs with
  | [.d (.int i), .d (.int j)] => some (.d (.int (if j < i then j else i)))
  | _ => none
theorem ok_max2 {K : PySem.W.Frag} : CalOk K ka kd gMax2 (fun xs H Q => ∃ i j, xs = [.int i, .int j] ∧ Q (.int (if j > i then j else i)) H) := by
  intro C ρ S A G σ H0 H xs z vs gx Q hK I r h q
  unfold gMax2 at h
  split at h
  · cases h
    obtain ⟨v, u, g1, g2, rfl, r1, r2⟩ := r.two
    exact ⟨_, _, by rw [r1.int, r2.int], q _ H (EPost.same I (Rk.dat (.int _)))⟩
  · cases h
theorem ok_min2 {K : PySem.W.Frag} : CalOk K ka kd gMin2 (fun xs H Q => ∃ i j, xs = [.int i, .int j] ∧ Q (.int (if j < i then j else i)) H) := by
  intro C ρ S A G σ H0 H xs z vs gx Q hK I r h q
  unfold gMin2 at h
  split at h
  · cases h
    obtain ⟨v, u, g1, g2, rfl, r1, r2⟩ := r.two
    exact ⟨_, _, by rw [r1.int, r2.int], q _ H (EPost.same I (Rk.dat (.int _)))⟩
  · cases h
/-- int of an int or a bool -/
def gInt (_ : Sto) (xs : List SV) : Option SV :=
  match xs with
  | [.d (.int i)] => some (.d (.int i))
  | [.d (.bool b)] => some (.d (.int (if b then 1 else 0)))
  | _ => none
theorem ok_int {K : PySem.W.Frag} : CalOk K ka kd gInt (fun xs H Q => (∃ i, xs = [.int i] ∧ Q (.int i) H) ∨ ∃ k, xs = [.bl k] ∧ Q (.int (if k then 1 else 0)) H) := by
  intro C ρ S A G σ H0 H xs z vs gx Q hK I r h q
  unfold gInt at h
  split at h
  · cases h
    obtain ⟨v, rfl, r1⟩ := r.one
    exact .inl ⟨_, by rw [r1.int], q _ H (EPost.same I (Rk.dat (.int _)))⟩
  · cases h
    obtain ⟨v, rfl, r1⟩ := r.one
    exact .inr ⟨_, by rw [r1.bl], q _ H (EPost.same I (Rk.dat (.int _)))⟩
  · cases h
/-- list(x): a new list -/
def gList (S : Sto) (xs : List SV) : Option SV :=
  match xs with
  | [x] => (seq? S x).bind fun ys => if ys.all noOwn then some (.own ys) else none
  | _ => none
theorem ok_list {K : PySem.W.Frag} : CalOk K ka kd gList (fun xs H Q => ∃ p ys, xs = [.ref p] ∧ (SqL K H p ys ∨ SqT K H p ys) ∧ ∀ l, H l = none → Q (.ref l) (upd H l (.lst ys))) := by
  intro C ρ S A G σ H0 H xs z vs gx Q hK I r h q
  subst hK
  unfold gList at h
  split at h
  · simp only [Option.bind_eq_some_iff] at h
    obtain ⟨ys, hy, h⟩ := h
    split at h
    · rename_i hn
      cases h
      obtain ⟨v, rfl, r1⟩ := r.one
      obtain ⟨a, vs, ga, rfl, hs, l, r2⟩ := r1.seq I hy
      exact ⟨a, vs, rfl, hs, fun p hp => q _ _ (EPost.lst I r2 hn l hp)⟩
    · cases h
  · cases h
/-- tuple(x): a new tuple of a list's data; a tuple is itself -/
def gTuple (S : Sto) (xs : List SV) : Option SV :=
  match xs with
  | [.d (.tuple ds)] => some (.d (.tuple ds))
  | [x] => (lst? S x).bind fun ys => (allD ys).map fun ds => .d (.tuple ds)
  | _ => none
theorem ok_tuple {K : PySem.W.Frag} : CalOk K ka kd gTuple (fun xs H Q => ∃ a ys, xs = [.ref a] ∧ ((SqL K H a ys ∧ ∀ l, H l = none → Q (.ref l) (upd H l (.tup ys))) ∨ (SqT K H a ys ∧ Q (.ref a) H))) := by
  intro C ρ S A G σ H0 H xs z vs gx Q hK I r h q
  subst hK
  unfold gTuple at h
  split at h
  · cases h
    obtain ⟨v, rfl, r1⟩ := r.one
    obtain ⟨a, vs, rfl, hs, l, _⟩ := r1.tup
    exact ⟨a, vs, rfl, .inr ⟨hs, q _ H (EPost.same I (Rk.fe_of r1 rfl))⟩⟩
  · simp only [Option.bind_eq_some_iff, Option.map_eq_some_iff] at h
    obtain ⟨ys, hy, ds, hd, rfl⟩ := h
    obtain ⟨v, rfl, r1⟩ := r.one
    obtain ⟨a, vs, ga, rfl, hs, l, r2⟩ := r1.lst I hy
    exact ⟨a, vs, rfl, .inl ⟨.of hs, fun p hp => q _ _ (EPost.tup I (r2.undat hd) l hp)⟩⟩
  · cases h
/-- all, any of bools -/
def bools : List SV → Option (List Bool)
  | [] => some []
  | .d (.bool b) :: r => (bools r).map (b :: ·)
  | _ :: _ => none
def ints? : List SV → Option (List Int)
  | [] => some []
  | .d (.int b) :: r => (ints? r).map (b :: ·)
  | _ :: _ => none
theorem RsL.bools {K : PySem.W.Frag} {mg : Str → Option Value} {H : Hp} {A : List Addr} {F : Addr → Prop} : ∀ {xs : List SV} {vs : List V} {g : List Addr} {bs : List Bool}, RsL K mg H A F xs vs g → VL.bools xs = some bs → vs = bs.map V.bl
  | [], _, _, _, r, h => by cases r; cases h; rfl
  | .d (.bool b) :: xs, _, _, _, r, h => by
    cases r with
    | cons r1 r2 =>
      simp only [VL.bools, Option.map_eq_some_iff] at h
      obtain ⟨bs, h, rfl⟩ := h
      cases r1 with
      | d r1 => cases r1; rw [RsL.bools r2 h]; rfl
  | .d .none :: _, _, _, _, _, h => by cases h
  | .d (.int _) :: _, _, _, _, _, h => by cases h
  | .d (.str _) :: _, _, _, _, _, h => by cases h
  | .d (.list _) :: _, _, _, _, _, h => by cases h
  | .d (.tuple _) :: _, _, _, _, _, h => by cases h
  | .d (.dict _) :: _, _, _, _, _, h => by cases h
  | .ref _ :: _, _, _, _, _, h => by cases h
  | .fn _ :: _, _, _, _, _, h => by cases h
  | .scr _ :: _, _, _, _, _, h => by cases h
  | .own _ :: _, _, _, _, _, h => by cases h
  | .dic _ _ :: _, _, _, _, _, h => by cases h
theorem RsL.ints {K : PySem.W.Frag} {mg : Str → Option Value} {H : Hp} {A : List Addr} {F : Addr → Prop} : ∀ {xs : List SV} {vs : List V} {g : List Addr} {bs : List Int}, RsL K mg H A F xs vs g → VL.ints? xs = some bs → vs = bs.map V.int
  | [], _, _, _, r, h => by cases r; cases h; rfl
  | .d (.int b) :: xs, _, _, _, r, h => by
    cases r with
    | cons r1 r2 =>
      simp only [VL.ints?, Option.map_eq_some_iff] at h
      obtain ⟨bs, h, rfl⟩ := h
      cases r1 with
      | d r1 => cases r1; rw [RsL.ints r2 h]; rfl
  | .d .none :: _, _, _, _, _, h => by cases h
  | .d (.bool _) :: _, _, _, _, _, h => by cases h
  | .d (.str _) :: _, _, _, _, _, h => by cases h
  | .d (.list _) :: _, _, _, _, _, h => by cases h
  | .d (.tuple _) :: _, _, _, _, _, h => by cases h
  | .d (.dict _) :: _, _, _, _, _, h => by cases h
  | .ref _ :: _, _, _, _, _, h => by cases h
  | .fn _ :: _, _, _, _, _, h => by cases h
  | .scr _ :: _, _, _, _, _, h => by cases h
  | .own _ :: _, _, _, _, _, h => by cases h
  | .dic _ _ :: _, _, _, _, _, h => by cases h
def gAll (S : Sto) (xs : List SV) : Option SV :=
  match xs with
  | [x] => (lst? S x).bind fun ys => (bools ys).map fun bs => .d (.bool (bs.all id))
  | _ => none
def gAny (S : Sto) (xs : List SV) : Option SV :=
  match xs with
  | [x] => (lst? S x).bind fun ys => (bools ys).map fun bs => .d (.bool (bs.any id))
  | _ => none
def gSum (S : Sto) (xs : List SV) : Option SV :=
  match xs with
  | [x] => (lst? S x).bind fun ys => (ints? ys).map fun bs => .d (.int bs.sum)
  | _ => none
theorem ok_all {K : PySem.W.Frag} : CalOk K ka kd gAll (rAll K) := by
  intro C ρ S A G σ H0 H xs z vs gx Q hK I r h q
  subst hK
  unfold gAll at h
  split at h
  · simp only [Option.bind_eq_some_iff, Option.map_eq_some_iff] at h
    obtain ⟨ys, hy, bs, hb, rfl⟩ := h
    obtain ⟨v, rfl, r1⟩ := r.one
    obtain ⟨a, vs, ga, rfl, hs, l, r2⟩ := r1.lst I hy
    obtain rfl := RsL.bools r2.1 hb
    exact ⟨a, bs, rfl, .of hs, q _ H (EPost.same I (Rk.dat (.bl _)))⟩
  · cases h
theorem ok_any {K : PySem.W.Frag} : CalOk K ka kd gAny (rAny K) := by
  intro C ρ S A G σ H0 H xs z vs gx Q hK I r h q
  subst hK
  unfold gAny at h
  split at h
  · simp only [Option.bind_eq_some_iff, Option.map_eq_some_iff] at h
    obtain ⟨ys, hy, bs, hb, rfl⟩ := h
    obtain ⟨v, rfl, r1⟩ := r.one
    obtain ⟨a, vs, ga, rfl, hs, l, r2⟩ := r1.lst I hy
    obtain rfl := RsL.bools r2.1 hb
    exact ⟨a, bs, rfl, .of hs, q _ H (EPost.same I (Rk.dat (.bl _)))⟩
  · cases h
theorem ok_sum {K : PySem.W.Frag} : CalOk K ka kd gSum (rSum K) := by
  intro C ρ S A G σ H0 H xs z vs gx Q hK I r h q
  subst hK
  unfold gSum at h
  split at h
  · simp only [Option.bind_eq_some_iff, Option.map_eq_some_iff] at h
    obtain ⟨ys, hy, bs, hb, rfl⟩ := h
    obtain ⟨v, rfl, r1⟩ := r.one
    obtain ⟨a, vs, ga, rfl, hs, l, r2⟩ := r1.lst I hy
    obtain rfl := RsL.ints r2.1 hb
    exact ⟨a, bs, rfl, .of hs, q _ H (EPost.same I (Rk.dat (.int _)))⟩
  · cases h
/-- isinstance of built-in classes -/
def tyOf : SV → Option String
  | .d .none => some "NoneType"
  | .d (.bool _) => some "bool"
  | .d (.int _) => some "int"
  | .d (.str _) => some "str"
  | .d (.list _) => some "list"
  | .d (.tuple _) => some "tuple"
  | .own _ => some "list"
  | .ref _ => some "list"
  | _ => none
def isB (t c : String) : Bool := t == c || (t == "bool" && c == "int")
/-- the classes that are asked for here -/
def knownTy (c : String) : Bool := ["int", "bool", "str", "tuple", "list"].contains c
theorem kit_is {t c : String} (ht : ["NoneType", "bool", "int", "str", "list", "tuple"].contains t = true) (hc : knownTy c = true) : kitB t c = some (isB t c) := by
  have h1 : ∀ t ∈ ["NoneType", "bool", "int", "str", "list", "tuple"], ∀ c ∈ ["int", "bool", "str", "tuple", "list"], kitB t c = some (isB t c) := by decide +kernel
  exact h1 t (by simpa using ht) c (by simpa [knownTy] using hc)
def eIsi (f : Rho → Mo SV) (c : String) : Rho → Mo SV := fun ρ S => bindM (f ρ S) fun x S1 => (tyOf x).map fun t => .ok (.d (.bool (isB t c))) S1
theorem Rk.ty {C : Ct} {ρ : Rho} {S : Sto} {g A : List Addr} {G : List (List Addr)} {σ : L2.St} {H0 H : Hp} {x : SV} {v : V} {t : String} (I : Sim C ρ S A G σ H) (hn : ∀ n, x = .ref n → (S[n]?).isSome) (r : Rk C ka g A G H0 H x v) (h : VL.tyOf x = some t) : TyX C.K H v (.type t) ∧ ["NoneType", "bool", "int", "str", "list", "tuple"].contains t = true := by
  obtain ⟨r1, _⟩ := r.asBe
  cases r1 with
  | d r2 =>
    cases r2 with
    | non => cases h; exact ⟨.base .non, by decide⟩
    | bl b => cases h; exact ⟨.base (.bl b), by decide⟩
    | int i => cases h; exact ⟨.base (.int i), by decide⟩
    | str z => cases h; exact ⟨.base (.str z), by decide⟩
    | lst e _ _ _ => cases h; exact ⟨.base (.lst e), by decide⟩
    | tup e _ _ _ => cases h; exact ⟨.base (.tup e), by decide⟩
    | ctup e _ _ =>
      cases h
      refine ⟨?_, by decide⟩
      rcases e with e | ⟨o, its, n, e1, e2, _⟩
      · rcases e with e | ⟨o, e⟩ <;> cases e
      · exact .kTuple e1 e2
  | @ref n a e =>
    cases h
    have := hn n rfl
    cases q : S[n]? with
    | none => rw [q] at this; cases this
    | some xs =>
      obtain ⟨a', vs, e1, e2, _, _⟩ := I.sto n xs q
      rw [e] at e1
      cases e1
      exact ⟨.base (.lst e2), by decide⟩
  | fn _ => cases h
  | scr e _ _ => cases h
  | scrK _ _ => cases h
  | own e _ _ => cases h; exact ⟨.base (.lst e), by decide⟩
  | dic _ _ _ _ => cases h
end
section
variable {X : Cx} {C : Ct} {W : WX} {kd ka kb : Kd} {e a b c : Expr} {es : List Expr} {pos : Pos} {f fa fb : Rho → Mo SV} {fs : Rho → Mo (List SV)}
def refOk (S : Sto) : SV → Bool
  | .ref n => (S[n]?).isSome
  | _ => true
/-- isinstance(x, c) for one of the classes c -/
def eIsi1 (f : Rho → Mo SV) (cs : List String) : Rho → Mo SV := fun ρ S => bindM (f ρ S) fun x S1 => if refOk S1 x then (tyOf x).map fun t => .ok (.d (.bool (cs.any (isB t)))) S1 else none
theorem refOk.ref {S : Sto} {x : SV} (h : refOk S x = true) : ∀ n, x = .ref n → (S[n]?).isSome := fun n e => by subst e; exact h
theorem v_isi {T : String} {p p1 : Pos} {x1 : Str} (hk : C.K = X.K) (hT : knownTy T = true) (hg : Gl X "isinstance") (hm : X.mg "isinstance" = none) (ha : PE X a (tV C W ka f)) (hg1 : Gl X x1) (hm1 : X.mg x1 = none) (hv1 : bootBuiltins x1 = some (.type T)) (hn1 : x1 ≠ "__name__" := by decide) (hd1 : (x1 == ("__debug__" : Str)) = false := by decide)
    (hs1 : starEach [a, .Name x1 p1] X.env = (false, eval a X.env) :: starEach [.Name x1 p1] X.env := by rfl) (hs2 : starEach [.Name x1 p1] X.env = (false, eval (.Name x1 p1) X.env) :: starEach [] X.env := by rfl) (hpl : (backTo pos (starEach [.Name x1 p1] X.env)).any (·.1) = false := by rfl) :
    PE X (.Call (.Name "isinstance" p) [a, .Name x1 p1] [] pos) (tV C W kd (eIsi1 f [T])) := by
  refine pe_imp (pe_callB call_isi hg hm (by decide +kernel) (pa_cons ha (pa_cons (pe_bltn (v := .ty T) hg1 hm1 hv1 rfl hn1 hd1) pa_nil hs2) hs1) (by decide) (by decide) hs1 hpl) fun σ H Q ⟨P, ρ, S, A, G, hP, I, q⟩ => ⟨P, ρ, S, A, G, hP, I, EGood.step q (fun _ _ _ _ _ _ z => z) fun x S1 q v H1 p => ?_⟩
  obtain ⟨A1, g1, e1, J1, k1⟩ := p
  split at q
  · rename_i hr
    cases et : tyOf x with
    | none => rw [et] at q; exact q.elim
    | some t =>
      rw [et] at q
      obtain ⟨ty, ht⟩ := k1.ty J1.pgw (refOk.ref hr) et
      refine ⟨v, .ty T, .type t, .type T, isB t T, rfl, .ty T, hk ▸ ty, kit_ty (kit_is ht hT), ?_⟩
      have e : isB t T = [T].any (isB t) := by simp
      rw [e]
      exact q _ _ ⟨A1, [], e1, J1.pgw.pg0, Rk.dat (.bl _)⟩
  · exact q.elim
theorem v_isi2 {T T2 : String} {p p1 p2 p3 : Pos} {kk : Nat} {x1 x2 : Str} (hk : C.K = X.K) (hT : knownTy T = true) (hT2 : knownTy T2 = true) (hg : Gl X "isinstance") (hm : X.mg "isinstance" = none) (ha : PE X a (tV C W ka f))
    (hg1 : Gl X x1) (hm1 : X.mg x1 = none) (hv1 : bootBuiltins x1 = some (.type T)) (hg2 : Gl X x2) (hm2 : X.mg x2 = none) (hv2 : bootBuiltins x2 = some (.type T2)) (hn1 : x1 ≠ "__name__" := by decide) (hd1 : (x1 == ("__debug__" : Str)) = false := by decide) (hn2 : x2 ≠ "__name__" := by decide) (hd2 : (x2 == ("__debug__" : Str)) = false := by decide)
    (hs1 : starEach [a, .Tuple [.Name x1 p1, .Name x2 p2] kk p3] X.env = (false, eval a X.env) :: starEach [.Tuple [.Name x1 p1, .Name x2 p2] kk p3] X.env := by rfl) (hs2 : starEach [.Tuple [.Name x1 p1, .Name x2 p2] kk p3] X.env = (false, eval (.Tuple [.Name x1 p1, .Name x2 p2] kk p3) X.env) :: starEach [] X.env := by rfl) (hpl : (backTo pos (starEach [.Tuple [.Name x1 p1, .Name x2 p2] kk p3] X.env)).any (·.1) = false := by rfl)
    (hs3 : starEach [.Name x1 p1, .Name x2 p2] X.env = (false, eval (.Name x1 p1) X.env) :: starEach [.Name x2 p2] X.env := by rfl) (hs4 : starEach [.Name x2 p2] X.env = (false, eval (.Name x2 p2) X.env) :: starEach [] X.env := by rfl) :
    PE X (.Call (.Name "isinstance" p) [a, .Tuple [.Name x1 p1, .Name x2 p2] kk p3] [] pos) (tV C W kd (eIsi1 f [T, T2])) := by
  refine pe_imp (pe_callB call_isiT hg hm (by decide +kernel) (pa_cons ha (pa_cons (pe_tup (pa_cons (pe_bltn (v := .ty T) hg1 hm1 hv1 rfl hn1 hd1) (pa_cons (pe_bltn (v := .ty T2) hg2 hm2 hv2 rfl hn2 hd2) pa_nil hs4) hs3)) pa_nil hs2) hs1) (by decide) (by decide) hs1 hpl)
    fun σ H Q ⟨P, ρ, S, A, G, hP, I, q⟩ => ⟨P, ρ, S, A, G, hP, I, EGood.step q (fun _ _ _ _ _ _ z => z) fun x S1 q v H1 p => ?_⟩
  obtain ⟨A1, g1, e1, J1, k1⟩ := p
  split at q
  · rename_i hr
    cases et : tyOf x with
    | none => rw [et] at q; exact q.elim
    | some t =>
      rw [et] at q
      refine ⟨by show 2 ≤ sizeLine; decide, fun tp hp => ?_⟩
      have ex : Ext A1 H1 A1 (upd H1 tp (.tup [.ty T, .ty T2])) := Ext.upd hp
      obtain ⟨ty, ht⟩ := (k1.ext ex).ty (J1.pgw.new hp) (refOk.ref hr) et
      refine ⟨v, tp, [.ty T, .ty T2], .type t, [.type T, .type T2], [T, T2].any (isB t), rfl, upd_same, .cons (.ty T) (.cons (.ty T2) .nil), hk ▸ ty, ?_, q _ _ ⟨A1, [], e1.trans ex, (J1.pgw.new hp).pg0, Rk.dat (.bl _)⟩⟩
      simp only [List.any_cons, List.any_nil, Bool.or_false]
      refine kitAny_cons (kit_ty (kit_is ht hT)) (fun e => ?_) (fun e => by rw [e]; rfl)
      rw [e, Bool.false_or]
      refine kitAny_cons (kit_ty (kit_is ht hT2)) (fun e => ?_) (fun e => e)
      rw [e]
      rfl
  · exact q.elim
end
end VL

end
section
set_option Elab.async false
set_option linter.all false
set_option maxRecDepth 100000
/-! VL6: slots stored, targets, what is walked, comprehensions. -/
namespace VL
open PySem PySem.Spec PyProof.Rows L2

section
variable {C : Ct} {ρ : Rho} {S S' : Sto} {A A' : List Addr} {G : List (List Addr)} {σ : L2.St} {H H' : Hp} {x : SV} {v : V} {g : List Addr} {i : Nat}
theorem flatten_set_sub {G : List (List Addr)} {i : Nat} {g : List Addr} {a : Addr} (h : a ∈ (G.set i g).flatten) : a ∈ G.flatten ∨ a ∈ g := by
  obtain ⟨l, hl, ha⟩ := List.mem_flatten.mp h
  rcases List.mem_or_eq_of_mem_set hl with hl | rfl
  · exact .inl (List.mem_flatten.mpr ⟨l, hl, ha⟩)
  · exact .inr ha
theorem nodup_set (hn : (A ++ G.flatten).Nodup) (hg : g.Nodup) (hd : ∀ a ∈ g, a ∉ A ∧ ∀ j l, j ≠ i → G[j]? = some l → a ∉ l) : (A ++ (G.set i g).flatten).Nodup := by
  by_cases hi : i < G.length
  · have e : (G.set i g) = G.take i ++ g :: G.drop (i + 1) := List.set_eq_take_append_cons_drop .. |>.trans (by rw [if_pos hi])
    have e0 : G = G.take i ++ G[i] :: G.drop (i + 1) := by rw [List.getElem_cons_drop, List.take_append_drop]
    rw [e, List.flatten_append, List.flatten_cons]
    rw [e0, List.flatten_append, List.flatten_cons] at hn
    have ht : ∀ a ∈ g, a ∉ (G.take i).flatten := fun a m z => by
      obtain ⟨l, hl, ha⟩ := List.mem_flatten.mp z
      obtain ⟨j, hj, rfl⟩ := List.getElem_of_mem hl
      rw [List.length_take] at hj
      exact (hd a m).2 j _ (by omega) (by rw [List.getElem_take]; exact List.getElem?_eq_getElem _) ha
    have hr : ∀ a ∈ g, a ∉ (G.drop (i + 1)).flatten := fun a m z => by
      obtain ⟨l, hl, ha⟩ := List.mem_flatten.mp z
      obtain ⟨j, hj, rfl⟩ := List.getElem_of_mem hl
      rw [List.length_drop] at hj
      exact (hd a m).2 (i + 1 + j) _ (by omega) (by rw [List.getElem_drop]; exact List.getElem?_eq_getElem _) ha
    have n1 := List.nodup_append.mp hn
    have n2 := List.nodup_append.mp n1.2.1
    have n3 := List.nodup_append.mp n2.2.1
    refine List.nodup_append.mpr ⟨n1.1, List.nodup_append.mpr ⟨n2.1, List.nodup_append.mpr ⟨hg, n3.2.1, fun a h b h' e => ?_⟩, fun a h b h' e => ?_⟩, fun a h b h' e => ?_⟩
    · subst e; exact hr a h h'
    · subst e
      rcases List.mem_append.mp h' with h' | h'
      · exact ht a h' h
      · exact n2.2.2 a h a (List.mem_append_right _ h') rfl
    · subst e
      rcases List.mem_append.mp h' with h' | h'
      · exact n1.2.2 a h a (List.mem_append_left _ h') rfl
      · rcases List.mem_append.mp h' with h' | h'
        · exact (hd a h').1 h
        · exact n1.2.2 a h a (List.mem_append_right _ (List.mem_append_right _ h')) rfl
  · rw [List.set_eq_of_length_le (by omega)]
    exact hn
/-- .. by what is one's own: I the state in which it is left alone -/
theorem Sim.put (I : Sim (C.pr fun a => C.Pr a ∨ a ∈ g) ρ S A G σ H) (r : Rs C.K C.mg H A (fun a => Fs C A G a ∨ a ∈ g) x v g) (hg : g.Nodup) (h0 : ∀ a ∈ g, C.E0 a = none) (hp : ∀ a ∈ g, ¬ C.Pr a) : Sim C (ρ.set i (some x)) S A (G.set i g) (σ.set i (some v)) H := by
  have hgn : ∀ a ∈ g, a ∉ A ++ G.flatten ∧ H a ≠ none := fun a m => I.prot a (.inr m)
  have hF : ∀ a, Fs C A (G.set i g) a → Fs (C.pr fun a => C.Pr a ∨ a ∈ g) A G a := fun a z => by
    rcases z with z | z | z
    · exact .inl z
    · rcases flatten_set_sub z with z | z
      · exact .inr (.inl z)
      · exact .inr (.inr (.inr z))
    · exact .inr (.inr (.inl z))
  have hFx : ∀ a, Fs C A (G.set i g) a → Fs C A G a ∨ a ∈ g := fun a z => by
    rcases z with z | z | z
    · exact .inl (.inl z)
    · rcases flatten_set_sub z with z | z
      · exact .inl (.inr (.inl z))
      · exact .inr z
    · exact .inl (.inr (.inr z))
  refine ⟨I.pre, by simp [I.lr], by simp [I.lg], I.ls, nodup_set I.nd hg fun a m => ⟨fun z => (hgn a m).1 (List.mem_append_left _ z), fun j l _ e z => (hgn a m).1 (List.mem_append_right _ (List.mem_flatten.mpr ⟨l, List.mem_of_getElem? e, z⟩))⟩, fun a m => ?_, fun a p => ⟨fun z => ?_, (I.prot a (.inl p)).2⟩, fun j y e => ?_, fun n xs e => ?_, I.frame, fun a m => ?_, I.a0⟩
  · rcases List.mem_append.mp m with m | m
    · exact I.trk a (List.mem_append_left _ m)
    · rcases flatten_set_sub m with m | m
      · exact I.trk a (List.mem_append_right _ m)
      · exact (hgn a m).2
  · rcases List.mem_append.mp z with z | z
    · exact (I.prot a (.inl p)).1 (List.mem_append_left _ z)
    · rcases flatten_set_sub z with z | z
      · exact (I.prot a (.inl p)).1 (List.mem_append_right _ z)
      · exact hp a z p
  · have lr := I.lr
    have lg := I.lg
    by_cases hj : j = i
    · subst hj
      have hlt : j < ρ.length := by
        have := (List.getElem?_eq_some_iff.mp e).1
        simpa using this
      rw [List.getElem?_set_self hlt] at e
      cases e
      exact ⟨v, g, by rw [List.getElem?_set_self (by omega)], Rs.mono (fun _ _ q => q) (fun a z => .inl (hFx a z)) (fun a o q n => q) _ _ _ (fun a m o q => q) r, by rw [List.getElem?_set_self (by omega)]; exact List.Sublist.refl _⟩
    · rw [List.getElem?_set_ne (Ne.symm hj)] at e
      obtain ⟨w, l, e1, r1, sb⟩ := I.slots j y e
      exact ⟨w, l, by rw [List.getElem?_set_ne (Ne.symm hj)]; exact e1, Rs.mono (fun _ _ q => q) (fun a z => .inl (hF a z)) (fun a o q n => q) _ _ _ (fun a m o q => q) r1, by rw [List.getElem?_set_ne (Ne.symm hj)]; exact sb⟩
  · obtain ⟨a, vs, e1, e2, l, r1⟩ := I.sto n xs e
    exact ⟨a, vs, e1, e2, l, RsL.mono (fun _ _ q => q) (fun a z => .inl (hF a z)) (fun a o q n => q) _ _ _ (fun a m o q => q) r1⟩
  · rcases List.mem_append.mp m with m | m
    · exact I.fresh a (List.mem_append_left _ m)
    · rcases flatten_set_sub m with m | m
      · exact I.fresh a (List.mem_append_right _ m)
      · exact .inr (h0 a m)
/-- .. by what is no list of one's own; the footprints stay -/
theorem Sim.putV (I : Sim C ρ S A G σ H) (r : Rs C.K C.mg H A (Fs C A G) x v []) : Sim C (ρ.set i (some x)) S A G (σ.set i (some v)) H := by
  refine ⟨I.pre, by simp [I.lr], by simp [I.lg], I.ls, I.nd, I.trk, I.prot, fun j y e => ?_, I.sto, I.frame, I.fresh, I.a0⟩
  have lr := I.lr
  by_cases hj : j = i
  · subst hj
    have hlt : j < ρ.length := by
      have := (List.getElem?_eq_some_iff.mp e).1
      simpa using this
    rw [List.getElem?_set_self hlt] at e
    cases e
    exact ⟨v, [], by rw [List.getElem?_set_self (by omega)], r, List.nil_sublist _⟩
  · rw [List.getElem?_set_ne (Ne.symm hj)] at e
    obtain ⟨w, l, e1, r1, sb⟩ := I.slots j y e
    exact ⟨w, l, by rw [List.getElem?_set_ne (Ne.symm hj)]; exact e1, r1, sb⟩
end

/-! ### targets -/
abbrev TgF := SV → Rho → Option Rho
def gNm (i : Nat) : TgF := fun x ρ => if noOwn x then some (ρ.set i (some x)) else none
def gsNil : List SV → Rho → Option Rho := fun xs ρ => if xs.isEmpty then some ρ else none
def gsCons (t : TgF) (u : List SV → Rho → Option Rho) : List SV → Rho → Option Rho := fun xs ρ => match xs with
  | x :: xs => (t x ρ).bind fun ρ' => u xs ρ'
  | [] => none
def gTp (n : Nat) (u : List SV → Rho → Option Rho) : TgF := fun x ρ => match x with
  | .d (.tuple ds) => if ds.length = n then u (ds.map .d) ρ else none
  | _ => none
/-- two rows of slots alike but at some places -/
def SameOff (is : List Nat) (σ σ' : L2.St) : Prop := σ'.length = σ.length ∧ ∀ j, j ∉ is → σ'[j]? = σ[j]?
theorem wipe_in {σ : L2.St} {j : Nat} : ∀ {vs : List Nat}, j ∈ vs → j < σ.length → (wipe σ vs)[j]? = some none
  | v :: vs, h, hl => by
    unfold wipe
    by_cases e : j = v
    · subst e
      rw [List.getElem?_set_self (by rw [wipe_length]; exact hl)]
    · rw [List.getElem?_set_ne (Ne.symm e)]
      exact wipe_in ((List.mem_cons.mp h).resolve_left e) hl
theorem SameOff.wipe {is vs : List Nat} {σ σ' : L2.St} (h : SameOff is σ σ') (hs : ∀ j ∈ is, j ∈ vs) : L2.wipe σ' vs = L2.wipe σ vs := by
  apply List.ext_getElem?
  intro j
  by_cases hj : j ∈ vs
  · by_cases hl : j < σ.length
    · rw [wipe_in hj hl, wipe_in hj (by rw [h.1]; exact hl)]
    · rw [List.getElem?_eq_none (by rw [wipe_length, h.1]; omega), List.getElem?_eq_none (by rw [wipe_length]; omega)]
  · rw [wipe_out hj, wipe_out hj]
    exact h.2 j fun m => hj (hs j m)
theorem wipe_wipe (σ : L2.St) (vs : List Nat) : L2.wipe (L2.wipe σ vs) vs = L2.wipe σ vs := by
  apply List.ext_getElem?
  intro j
  by_cases hj : j ∈ vs
  · by_cases hl : j < σ.length
    · rw [wipe_in hj hl, wipe_in hj (by rw [wipe_length]; exact hl)]
    · rw [List.getElem?_eq_none (by rw [wipe_length, wipe_length]; omega), List.getElem?_eq_none (by rw [wipe_length]; omega)]
  · rw [wipe_out hj]
/-- a target's reading by its function -/
def GOk (C : Ct) (t : TgF) (is : List Nat) (tg : TG) : Prop := ∀ (P : Addr → Prop) (ρ ρ' : Rho) (S : Sto) (A : List Addr) (G : List (List Addr)) (σ : L2.St) (H : Hp) (x : SV) (v : V) (Q : L2.St → Hp → Prop), Sim (C.pr P) ρ S A G σ H → Rs C.K C.mg H A (Fs (C.pr P) A G) x v [] → t x ρ = some ρ' →
  (∀ σ', Sim (C.pr P) ρ' S A G σ' H → SameOff is σ σ' → Q σ' H) → tg v σ H Q
def GsOk (C : Ct) (t : List SV → Rho → Option Rho) (is : List Nat) (tg : TGs) : Prop := ∀ (P : Addr → Prop) (ρ ρ' : Rho) (S : Sto) (A : List Addr) (G : List (List Addr)) (σ : L2.St) (H : Hp) (xs : List SV) (vs : List V) (Q : L2.St → Hp → Prop), Sim (C.pr P) ρ S A G σ H → RsL C.K C.mg H A (Fs (C.pr P) A G) xs vs [] → t xs ρ = some ρ' →
  (∀ σ', Sim (C.pr P) ρ' S A G σ' H → SameOff is σ σ' → Q σ' H) → tg vs σ H Q
theorem g_nm {C : Ct} {i : Nat} : GOk C (gNm i) [i] (gName i) := by
  intro P ρ ρ' S A G σ H x v Q I r h q
  unfold gNm at h
  split at h
  · cases h
    refine q _ (I.putV r) ⟨by simp, fun j hj => ?_⟩
    rw [List.getElem?_set_ne]
    exact fun e => hj (by simp [e])
  · cases h
theorem gs_nil {C : Ct} : GsOk C gsNil [] gNil := by
  intro P ρ ρ' S A G σ H xs vs Q I r h q
  unfold gsNil at h
  split at h
  · rename_i he
    cases h
    have : xs = [] := by simpa using he
    subst this
    cases r
    exact ⟨rfl, q σ I ⟨rfl, fun _ _ => rfl⟩⟩
  · cases h
theorem gs_cons {C : Ct} {t : TgF} {u : List SV → Rho → Option Rho} {is js : List Nat} {tg : TG} {ug : TGs} (h1 : GOk C t is tg) (h2 : GsOk C u js ug) : GsOk C (gsCons t u) (is ++ js) (gCons tg ug) := by
  intro P ρ ρ' S A G σ H xs vs Q I r h q
  unfold gsCons at h
  split at h
  · rename_i x xs
    simp only [Option.bind_eq_some_iff] at h
    obtain ⟨ρ1, e1, e2⟩ := h
    generalize hg : ([] : List Addr) = g at r
    cases r with
    | cons r1 r2 =>
      have hh := List.append_eq_nil_iff.mp hg.symm
      obtain ⟨rfl, rfl⟩ := hh
      refine ⟨_, _, rfl, h1 P ρ ρ1 S A G σ H _ _ _ I r1 e1 fun σ1 I1 s1 => h2 P ρ1 ρ' S A G σ1 H _ _ _ I1 r2 e2 fun σ2 I2 s2 => q σ2 I2 ⟨s2.1.trans s1.1, fun j hj => ?_⟩⟩
      rw [s2.2 j fun m => hj (List.mem_append_right _ m), s1.2 j fun m => hj (List.mem_append_left _ m)]
  · cases h
theorem g_tp {C : Ct} {n : Nat} {u : List SV → Rho → Option Rho} {is : List Nat} {ug : TGs} (h : GsOk C u is ug) : GOk C (gTp n u) is (gTup C.K n ug) := by
  intro P ρ ρ' S A G σ H x v Q I r e q
  unfold gTp at e
  split at e
  · rename_i ds
    split at e
    · rename_i hl
      obtain ⟨_, d⟩ := r.nil_d
      have go : ∀ a vs, SqT C.K H a vs → DqL C.K H (Fs (C.pr P) A G) ds vs → v = .ref a → gTup C.K n ug v σ H Q := fun a vs hs hd hv => ⟨a, vs, hv, hs, hd.length.trans hl, h P ρ ρ' S A G σ H _ _ _ I (RsL.ofD hd) e q⟩
      cases d with
      | tup e' _ _ hd => exact go _ _ (.of e') hd rfl
      | ctup e' _ hd => exact go _ _ (SqT.const e' H) hd rfl
    · cases e
  · cases e

/-! ### what is walked -/
structure Wk (C : Ct) (full : Bool) (A : List Addr) (G : List (List Addr)) (J : It) (xs : List SV) (H : Hp) : Prop where
  go : ∀ P2 A2 G2 H2, (∀ a, P2 a → C.Pr a ∨ H a = none) → ExtS A G H A2 G2 H2 → (full = false → ∀ a o, H a = some o → a ∉ A → H2 a = some o) → (∀ a, Fs (C.pr P2) A2 G2 a → H2 a ≠ none) → ∀ (i : Nat) x, xs[i]? = some x →
    J.go i H2 ∧ ∀ v H3, J.yld i H2 v H3 → (H3 = H2 ∨ ∃ p o, H2 p = none ∧ H3 = upd H2 p o) ∧ Rs C.K C.mg H3 A2 (Fs (C.pr P2) A2 G2) x v []
  stop : ∀ A2 G2 H2, ExtS A G H A2 G2 H2 → (full = false → ∀ a o, H a = some o → a ∉ A → H2 a = some o) → ∀ i, xs.length ≤ i → J.stop i H2
def IPost (C : Ct) (full : Bool) (ρ : Rho) (A : List Addr) (G : List (List Addr)) (σ : L2.St) (H : Hp) (xs : List SV) (S' : Sto) (J : It) (H' : Hp) : Prop :=
  ∃ A', Ext A H A' H' ∧ Sim C ρ S' A' G σ H' ∧ Wk C full A' G J xs H'
def tI (C : Ct) (W : WX) (full : Bool) (f : Rho → Mo (List SV)) : TI := fun σ H R => ∃ P ρ S A G, (∀ a, C.Pr a → P a) ∧ Sim (C.pr P) ρ S A G σ H ∧ EGood (IPost (C.pr P) full ρ A G σ H) (XPost C ρ A G σ H) W σ R (f ρ S)
theorem pi_imp {X : Cx} {tg e : Expr} {t t' : TI} (h : PI X tg e t) (i : ∀ σ H Q, t' σ H Q → t σ H Q) : PI X tg e t' := ⟨fun pins s σ H Q I q => h.run pins s σ H Q I (i σ H Q q)⟩
def iSeq2 (K : PySem.W.Frag) (tl : TE) : TI := fun σ H R => tl σ H fun x H1 => ∃ a, x = .ref a ∧ (((∃ xs, SqL K H1 a xs) ∧ R (Itl K a) H1) ∨ ((∃ xs, SqT K H1 a xs) ∧ R (Itt K a) H1))
theorem pi_seq {X : Cx} {tg l : Expr} {tl : TE} (hl : PE X l tl) : PI X tg l (iSeq2 X.K tl) := by
  refine ⟨fun pins s σ H R I h => ?_⟩
  refine thn (hl.run pins s σ H _ I h) fun v s1 ⟨x, H1, I1, r1, q1⟩ => ?_
  obtain ⟨a, e, q⟩ := q1
  subst e
  cases r1
  rcases q with ⟨⟨xs, hq⟩, q⟩ | ⟨⟨xs, hq⟩, q⟩
  · obtain ⟨its, rv, p, hz⟩ := I1.list hq
    refine wpAny_pyIter_list p.isList ?_
    refine ⟨s1.heap.objs.size, [s1.heap.objs.size], _, _, H1, rfl, I1.kept (t' := s1.toks) fun b o e => Heap.get?_push_of_some _ e, turn_list a _, ⟨_, Heap.get?_push_size _ rfl, rfl, rfl⟩, fun b hb => ?_, q⟩
    have e : b = s1.heap.objs.size := by simpa using hb
    subst e
    exact I1.fpOk (Nat.le_refl _) (I1.hok.fresh (Nat.le_refl _))
  · obtain ⟨its, rv, p, hz⟩ := I1.tuple hq
    refine wpAny_pyIter_tuple (show s1.heap.IsTuple a its.toArray from p) ?_
    refine ⟨s1.heap.objs.size, [s1.heap.objs.size], _, _, H1, rfl, I1.kept (t' := s1.toks) fun b o e => Heap.get?_push_of_some _ e, turn_tuple a _, ⟨_, Heap.get?_push_size _ rfl, rfl, rfl⟩, fun b hb => ?_, q⟩
    have e : b = s1.heap.objs.size := by simpa using hb
    subst e
    exact I1.fpOk (Nat.le_refl _) (I1.hok.fresh (Nat.le_refl _))
section
variable {C : Ct} {A A2 : List Addr} {G G2 : List (List Addr)} {H H2 : Hp} {P2 : Addr → Prop} {x : SV} {v : V} {xs : List SV} {vs : List V}
theorem fs_later (hP : ∀ a, P2 a → C.Pr a ∨ H a = none) (e : ExtS A G H A2 G2 H2) : ∀ a, Fs (C.pr P2) A2 G2 a → Fs C A G a ∨ H a = none := fun a z => by
  have go : a ∈ A2 ++ G2.flatten → Fs C A G a ∨ H a = none := fun m => by
    rcases e.new a m with m | m
    · rcases List.mem_append.mp m with m | m
      · exact .inl (.inl m)
      · exact .inl (.inr (.inl m))
    · exact .inr m
  rcases z with z | z | z
  · exact go (List.mem_append_left _ z)
  · exact go (List.mem_append_right _ z)
  · exact (hP a z).imp (fun z => .inr (.inr z)) id
theorem fs_kept (e : ExtS A G H A2 G2 H2) : ∀ a o, H a = some o → ¬ Fs C A G a → H2 a = some o := fun a o q n => e.keep a o q fun m => n ((List.mem_append.mp m).elim .inl fun m => .inr (.inl m))
/-- an item later on -/
theorem Rs.later (hP : ∀ a, P2 a → C.Pr a ∨ H a = none) (e : ExtS A G H A2 G2 H2) (r : Rs C.K C.mg H A (Fs C A G) x v []) : Rs C.K C.mg H2 A2 (Fs (C.pr P2) A2 G2) x v [] :=
  Rs.mono (prefix_get e.pre) (fs_later hP e) (fs_kept e) _ _ _ (fun a m => by cases m) r
theorem RsL.get0 : ∀ {xs : List SV} {vs : List V} {K : PySem.W.Frag} {mg : Str → Option Value} {F : Addr → Prop} {i : Nat}, RsL K mg H A F xs vs [] → vs[i]? = some v → ∃ x, xs[i]? = some x ∧ Rs K mg H A F x v []
  | [], _, _, _, _, i, r, e => by cases r; simp at e
  | x :: xs, _, _, _, _, i, r, e => by
    generalize hg : ([] : List Addr) = g at r
    cases r with
    | cons r1 r2 =>
      obtain ⟨rfl, rfl⟩ := List.append_eq_nil_iff.mp hg.symm
      cases i with
      | zero => simp at e; subst e; exact ⟨_, rfl, r1⟩
      | succ i => simpa using RsL.get0 r2 (by simpa using e)
theorem RsL.get1 {K : PySem.W.Frag} {mg : Str → Option Value} {F : Addr → Prop} {i : Nat} (r : RsL K mg H A F xs vs []) (h : xs[i]? = some x) : ∃ v, vs[i]? = some v ∧ Rs K mg H A F x v [] := by
  have l := r.length
  have hi : i < xs.length := (List.getElem?_eq_some_iff.mp h).1
  obtain ⟨x', e, q⟩ := r.get0 (i := i) (v := vs[i]'(by omega)) (List.getElem?_eq_getElem _)
  rw [h] at e
  cases e
  exact ⟨_, List.getElem?_eq_getElem _, q⟩
theorem sqL_inj {K : PySem.W.Frag} {a : Addr} {us : List V} (h : H a = some (.lst vs)) (q : SqL K H a us) (hk : ∀ o, K.lookup a = some o → False) : us = vs := by
  rcases q with (q | ⟨o, q⟩) | ⟨o, its, n, e, _⟩
  · rw [h] at q; cases q; rfl
  · rw [h] at q; cases q
  · exact (hk _ e).elim
theorem sqL_stay {K : PySem.W.Frag} {a : Addr} (q : SqL K H a vs) (h : ∀ o, H a = some o → H2 a = some o) : SqL K H2 a vs := by
  rcases q with (q | ⟨o, q⟩) | q
  · exact .inl (.inl (h _ q))
  · exact .inl (.inr ⟨o, h _ q⟩)
  · exact .inr q
theorem sqT_stay {K : PySem.W.Frag} {a : Addr} (q : SqT K H a vs) (h : ∀ o, H a = some o → H2 a = some o) : SqT K H2 a vs := by
  rcases q with (q | ⟨o, q⟩) | q
  · exact .inl (.inl (h _ q))
  · exact .inl (.inr ⟨o, h _ q⟩)
  · exact .inr q
theorem wk_lst {full : Bool} {a : Addr} (r : RsL C.K C.mg H A (Fs C A G) xs vs []) (st : ∀ A2 G2 H2, ExtS A G H A2 G2 H2 → (full = false → ∀ a o, H a = some o → a ∉ A → H2 a = some o) → SqL C.K H2 a vs) : Wk C full A G (Itl C.K a) xs H := by
  refine ⟨fun P2 A2 G2 H2 hP e hk ht i x hx => ?_, fun A2 G2 H2 e hk i hi => ?_⟩
  · obtain ⟨v, hv, rv⟩ := r.get1 hx
    have s2 := st A2 G2 H2 e hk
    refine ⟨⟨vs, v, s2, hv⟩, fun w H3 ⟨e3, y⟩ => ?_⟩
    subst e3
    have e' := y vs s2
    rw [hv] at e'
    cases e'
    exact ⟨.inl rfl, rv.later hP e⟩
  · exact ⟨vs, st A2 G2 H2 e hk, by rw [r.length]; exact hi⟩
theorem wk_tup {full : Bool} {a : Addr} (r : RsL C.K C.mg H A (Fs C A G) xs vs []) (st : ∀ A2 G2 H2, ExtS A G H A2 G2 H2 → (full = false → ∀ a o, H a = some o → a ∉ A → H2 a = some o) → SqT C.K H2 a vs) : Wk C full A G (Itt C.K a) xs H := by
  refine ⟨fun P2 A2 G2 H2 hP e hk ht i x hx => ?_, fun A2 G2 H2 e hk i hi => ?_⟩
  · obtain ⟨v, hv, rv⟩ := r.get1 hx
    have s2 := st A2 G2 H2 e hk
    refine ⟨⟨vs, v, s2, hv⟩, fun w H3 ⟨e3, y⟩ => ?_⟩
    subst e3
    have e' := y vs s2
    rw [hv] at e'
    cases e'
    exact ⟨.inl rfl, rv.later hP e⟩
  · exact ⟨vs, st A2 G2 H2 e hk, by rw [r.length]; exact hi⟩
def rangeL (lo : Int) (n : Nat) : List SV := (List.range n).map fun k => .d (.int (lo + (k : Nat)))
theorem wk_rng {full : Bool} {lo : Int} {n : Nat} : Wk C full A G (Itr lo n) (rangeL lo n) H := by
  refine ⟨fun P2 A2 G2 H2 hP e hk ht i x hx => ?_, fun A2 G2 H2 e hk i hi => ?_⟩
  · unfold rangeL at hx
    rw [List.getElem?_map, Option.map_eq_some_iff] at hx
    obtain ⟨k, hk', rfl⟩ := hx
    have hi : i < n := by
      have := (List.getElem?_eq_some_iff.mp hk').1
      simpa using this
    rw [List.getElem?_range hi] at hk'
    cases hk'
    refine ⟨hi, fun w H3 ⟨e3, y⟩ => ?_⟩
    subst e3
    subst y
    exact ⟨.inl rfl, .d (.int _)⟩
  · show n ≤ i
    simpa [rangeL] using hi
end
/-- a list or tuple that is walked -/
def isRef : SV → Bool
  | .ref _ => true
  | _ => false
def iSeq (f : Rho → Mo SV) : Rho → Mo (List SV) := fun ρ S => bindM (f ρ S) fun x S1 => if isRef x then none else (seq? S1 x).bind fun xs => if xs.all noOwn then some (.ok xs S1) else none
section
variable {X : Cx} {C : Ct} {W : WX} {kd ka kb : Kd} {tg e a b c : Expr} {es : List Expr} {pos : Pos} {f fa fb : Rho → Mo SV} {fs : Rho → Mo (List SV)}
/-- where a walked thing stands -/
theorem Rk.walk {P : Addr → Prop} {ρ : Rho} {S : Sto} {g A : List Addr} {G : List (List Addr)} {σ : L2.St} {H0 H : Hp} {x : SV} {v : V} {xs : List SV} {full : Bool} (I : Sim (C.pr P) ρ S A G σ H) (r : Rk (C.pr P) ka g A G H0 H x v) (hr : isRef x = false) (h : seq? S x = some xs) (hn : xs.all VL.noOwn = true)
    (hg : full = true → ∀ a ∈ g, a ∉ G.flatten) : ∃ a, v = .ref a ∧ (((∃ ys, SqL C.K H a ys) ∧ Wk (C.pr P) full A G (Itl C.K a) xs H) ∨ ((∃ ys, SqT C.K H a ys) ∧ Wk (C.pr P) full A G (Itt C.K a) xs H)) := by
  obtain ⟨r1, h1⟩ := r.asBe
  have items : ∀ vs g', RkL (C.pr P) .be g' A G H H xs vs → RsL C.K C.mg H A (Fs (C.pr P) A G) xs vs [] := fun vs g' rr => by
    obtain ⟨rr, _⟩ := rr
    have e := RsL.noOwn rr hn
    rw [e] at rr
    exact rr
  cases r1 with
  | d r1 =>
    cases r1 with
    | lst e n l q =>
      cases h
      exact ⟨_, rfl, .inl ⟨⟨_, .of e⟩, wk_lst (items _ _ (RkL.dats q)) fun A2 G2 H2 e2 hk => .of (fs_kept e2 _ _ e n)⟩⟩
    | tup e n l q =>
      cases h
      exact ⟨_, rfl, .inr ⟨⟨_, .of e⟩, wk_tup (items _ _ (RkL.dats q)) fun A2 G2 H2 e2 hk => .of (fs_kept e2 _ _ e n)⟩⟩
    | ctup e l q =>
      cases h
      exact ⟨_, rfl, .inr ⟨⟨_, SqT.const e H⟩, wk_tup (items _ _ (RkL.dats q)) fun A2 G2 H2 e2 hk => SqT.const e H2⟩⟩
    | _ => cases h
  | ref e => cases hr
  | fn e => cases h
  | @scr a o ns e n l =>
    have hvs : SqL C.K H a (ns.map V.int) := .inl (.inr ⟨_, e⟩)
    cases h
    refine ⟨a, rfl, .inl ⟨⟨_, hvs⟩, wk_lst (vs := ns.map V.int) ?_ fun A2 G2 H2 e2 hk => .inl (.inr ⟨_, fs_kept e2 _ _ e n⟩)⟩⟩
    have := RsL.ofD (K := C.K) (mg := C.mg) (A := A) (DqL.ofInts (C := C) (H := H) (F := Fs (C.pr P) A G) ns)
    rw [List.map_map] at this
    exact this
  | @scrK a ns e l =>
    cases h
    refine ⟨a, rfl, .inl ⟨⟨_, SqL.const e H⟩, wk_lst (vs := ns.map V.int) ?_ fun A2 G2 H2 e2 hk => SqL.const e H2⟩⟩
    have := RsL.ofD (K := C.K) (mg := C.mg) (A := A) (DqL.ofInts (C := C) (H := H) (F := Fs (C.pr P) A G) ns)
    rw [List.map_map] at this
    exact this
  | own e l q =>
    cases h
    refine ⟨_, rfl, .inl ⟨⟨_, .of e⟩, wk_lst (items _ _ ⟨q, fun a m => h1 a (List.mem_cons_of_mem _ m)⟩) fun A2 G2 H2 e2 hk => .of ?_⟩⟩
    cases full with
    | false => exact hk rfl _ _ e (h1 _ List.mem_cons_self).1
    | true => exact e2.keep _ _ e fun m => (List.mem_append.mp m).elim (fun m => (h1 _ List.mem_cons_self).1 m) (fun m => hg rfl _ List.mem_cons_self m)
  | dic _ _ _ _ => cases h
theorem i_seq (hk : C.K = X.K) (h : PE X e (tV C W ka f)) : PI X tg e (tI C W false (iSeq f)) := by
  refine pi_imp (pi_seq h) fun σ H R ⟨P, ρ, S, A, G, hP, I, q⟩ => ⟨P, ρ, S, A, G, hP, I, EGood.step q (fun _ _ _ _ _ _ z => z) fun x S1 q v H1 p => ?_⟩
  obtain ⟨A1, g1, e1, J1, k1⟩ := p
  split at q
  · exact q.elim
  · rename_i hr
    cases es : seq? S1 x with
    | none => rw [es] at q; exact q.elim
    | some xs =>
      rw [es] at q
      simp only [Option.bind_some] at q
      split at q
      · rename_i hn
        obtain ⟨a, rfl, w⟩ := k1.walk (full := false) J1.pgw (by simpa using hr) es hn (fun z => by cases z)
        rw [hk] at w
        refine ⟨a, rfl, ?_⟩
        rcases w with ⟨w1, w2⟩ | ⟨w1, w2⟩
        · exact .inl ⟨w1, q _ _ ⟨A1, e1, J1.pgw, w2⟩⟩
        · exact .inr ⟨w1, q _ _ ⟨A1, e1, J1.pgw, w2⟩⟩
      · exact q.elim
theorem i_seqF (hk : C.K = X.K) (h : PE X e (tV C W .fe f)) : PI X tg e (tI C W true (iSeq f)) := by
  refine pi_imp (pi_seq h) fun σ H R ⟨P, ρ, S, A, G, hP, I, q⟩ => ⟨P, ρ, S, A, G, hP, I, EGood.step q (fun _ _ _ _ _ _ z => z) fun x S1 q v H1 p => ?_⟩
  obtain ⟨A1, g1, e1, J1, k1⟩ := p
  split at q
  · exact q.elim
  · rename_i hr
    cases es : seq? S1 x with
    | none => rw [es] at q; exact q.elim
    | some xs =>
      rw [es] at q
      simp only [Option.bind_some] at q
      split at q
      · rename_i hn
        obtain ⟨a, rfl, w⟩ := k1.walk (full := true) J1.pgw (by simpa using hr) es hn (fun _ a m z => (J1.prot a (.inr m)).1 (List.mem_append_right _ z))
        rw [hk] at w
        refine ⟨a, rfl, ?_⟩
        rcases w with ⟨w1, w2⟩ | ⟨w1, w2⟩
        · exact .inl ⟨w1, q _ _ ⟨A1, e1, J1.pgw, w2⟩⟩
        · exact .inr ⟨w1, q _ _ ⟨A1, e1, J1.pgw, w2⟩⟩
      · exact q.elim
/-- range of one int, of two -/
def inR (i : Int) : Bool := decide (i.natAbs < 4611686018427387904)
theorem inR_lt {i : Int} (h : inR i = true) : -(2 ^ 62) ≤ i ∧ i < 2 ^ 62 := by
  have h := of_decide_eq_true h
  have e : (2 : Int) ^ 62 = 4611686018427387904 := by decide
  rw [e]
  omega
def iRng1 (fs : Rho → Mo (List SV)) : Rho → Mo (List SV) := fun ρ S => bindM (fs ρ S) fun xs S1 => match xs with
  | [.d (.int j)] => if inR j then some (.ok (rangeL 0 j.toNat) S1) else none
  | _ => none
def iRng2 (fs : Rho → Mo (List SV)) : Rho → Mo (List SV) := fun ρ S => bindM (fs ρ S) fun xs S1 => match xs with
  | [.d (.int i), .d (.int j)] => if inR i && inR j then some (.ok (rangeL i (j - i).toNat) S1) else none
  | _ => none
theorem i_rng1 {full : Bool} {p : Pos} (hg : Gl X "range") (hm : X.mg "range" = none) (ha : PA X [a] (tVs C W .be fs)) (hs : starEach [a] X.env = [(false, eval a X.env)] := by rfl) : PI X tg (.Call (.Name "range" p) [a] [] pos) (tI C W full (iRng1 fs)) := by
  refine pi_imp (pi_range1 hg hm ha hs) fun σ H R ⟨P, ρ, S, A, G, hP, I, q⟩ => ⟨P, ρ, S, A, G, hP, I, EGood.step q (fun _ _ _ _ _ _ z => z) fun xs S1 q vs H1 p => ?_⟩
  obtain ⟨A1, g1, e1, J1, k1⟩ := p
  split at q
  · rename_i j
    split at q
    · rename_i hj
      have hj := inR_lt hj
      obtain ⟨v, rfl, r⟩ := k1.one
      exact ⟨j, by rw [r.int], hj.1, hj.2, q _ _ ⟨A1, e1, J1, wk_rng⟩⟩
    · exact q.elim
  · exact q.elim
theorem i_rng2 {full : Bool} {p : Pos} (hg : Gl X "range") (hm : X.mg "range" = none) (ha : PA X [a, b] (tVs C W .be fs)) (hs : starEach [a, b] X.env = [(false, eval a X.env), (false, eval b X.env)] := by rfl) (hs2 : starEach [b] X.env = [(false, eval b X.env)] := by rfl) : PI X tg (.Call (.Name "range" p) [a, b] [] pos) (tI C W full (iRng2 fs)) := by
  refine pi_imp (pi_range2 hg hm ha hs hs2) fun σ H R ⟨P, ρ, S, A, G, hP, I, q⟩ => ⟨P, ρ, S, A, G, hP, I, EGood.step q (fun _ _ _ _ _ _ z => z) fun xs S1 q vs H1 p => ?_⟩
  obtain ⟨A1, g1, e1, J1, k1⟩ := p
  split at q
  · rename_i i j
    split at q
    · rename_i hj
      have hj := Bool.and_eq_true_iff.mp hj
      have hj := And.intro (inR_lt hj.1) (inR_lt hj.2)
      obtain ⟨v, u, ga, gb, rfl, r1, r2⟩ := k1.two
      exact ⟨i, j, by rw [r1.int, r2.int], ⟨hj.1.1, hj.1.2, hj.2.1, hj.2.2⟩, q _ _ ⟨A1, e1, J1, wk_rng⟩⟩
    · exact q.elim
  · exact q.elim
end

/-! ### comprehensions -/
def wipeR (ρ : Rho) : List Nat → Rho
  | [] => ρ
  | v :: vs => (wipeR ρ vs).set v none
def compL (tf : TgF) (tst : Rho → Mo Bool) (elt : Rho → Mo SV) (ρ : Rho) : List SV → List SV → Mo (List SV)
  | [], acc, S => some (.ok acc S)
  | x :: xs, acc, S => match tf x ρ with
    | none => none
    | some ρ' => match tst ρ' S with
      | some (.ok true S1) => (match elt ρ' S1 with
        | some (.ok y S2) => if acc.length < sizeLine then compL tf tst elt ρ xs (acc ++ [y]) S2 else none
        | _ => none)
      | some (.ok false S1) => compL tf tst elt ρ xs acc S1
      | _ => none
def eLc (it : Rho → Mo (List SV)) (tf : TgF) (tst : Rho → Mo Bool) (elt : Rho → Mo SV) (vs : List Nat) : Rho → Mo SV := fun ρ S => bindM (it ρ S) fun xs S1 => bindM (compL tf tst elt (wipeR ρ vs) xs [] S1) fun ys S2 => some (.ok (.own ys) S2)
/-- no exception leaves -/
abbrev WF : WX := fun _ _ _ _ => False
theorem wipeR_length (ρ : Rho) : ∀ vs : List Nat, (wipeR ρ vs).length = ρ.length
  | [] => rfl
  | v :: vs => by unfold wipeR; rw [List.length_set, wipeR_length ρ vs]
theorem wipeR_some {ρ : Rho} {i : Nat} {x : SV} : ∀ {vs : List Nat}, (wipeR ρ vs)[i]? = some (some x) → ρ[i]? = some (some x) ∧ i ∉ vs
  | [], h => ⟨h, by simp⟩
  | v :: vs, h => by
    unfold wipeR at h
    by_cases e : v = i
    · subst e
      by_cases hl : v < (wipeR ρ vs).length
      · rw [List.getElem?_set_self hl] at h; cases h
      · rw [List.getElem?_set, if_pos rfl, if_neg hl] at h; cases h
    · rw [List.getElem?_set_ne e] at h
      obtain ⟨h1, h2⟩ := wipeR_some h
      exact ⟨h1, by simp [h2, Ne.symm e]⟩
theorem Sim.wipe {C : Ct} {ρ : Rho} {S : Sto} {A : List Addr} {G : List (List Addr)} {σ : L2.St} {H : Hp} (I : Sim C ρ S A G σ H) (vs : List Nat) : Sim C (wipeR ρ vs) S A G (L2.wipe σ vs) H := by
  refine ⟨I.pre, by rw [wipeR_length, wipe_length, I.lr], by rw [wipeR_length, I.lg], I.ls, I.nd, I.trk, I.prot, fun i x e => ?_, I.sto, I.frame, I.fresh, I.a0⟩
  obtain ⟨e1, e2⟩ := wipeR_some e
  obtain ⟨v, g, h1, r, sb⟩ := I.slots i x e1
  exact ⟨v, g, by rw [wipe_out e2]; exact h1, r, sb⟩
end VL

end
section
set_option Elab.async false
set_option linter.all false
set_option maxRecDepth 100000
/-! VL7: comprehensions, for, while. -/
namespace VL
open PySem PySem.Spec PyProof.Rows L2
section
variable {C : Ct} {P P2 P3 : Addr → Prop} {ρ ρ' : Rho} {S S' : Sto} {A A' : List Addr} {G : List (List Addr)} {σ σ' : L2.St} {H H' : Hp}
/-- the outer slots, behind what was done within -/
theorem Sim.back (I : Sim (C.pr P2) ρ S A G σ H) (J : Sim (C.pr P3) ρ' S' A' G σ' H') (e : Ext A H A' H') (hp : ∀ a, P3 a → P2 a ∨ H a = none) : Sim (C.pr P3) ρ S' A' G σ H' := by
  refine ⟨J.pre, I.lr, I.lg, J.ls, J.nd, J.trk, J.prot, fun i x ex => ?_, J.sto, J.frame, J.fresh, J.a0⟩
  obtain ⟨v, g, e1, r, sb⟩ := I.slots i x ex
  refine ⟨v, g, e1, Rs.mono (prefix_get e.pre) (fun a z => ?_) (fun a o q n => e.keep a o q fun z => n (.inl z)) _ _ _ (fun a m o q => e.keep a o q fun z => (List.nodup_append.mp I.nd).2.2 a z a (getD_mem (sb.subset m)) rfl) r, sb⟩
  rcases z with z | z | z
  · exact (e.new a z).imp .inl id
  · exact .inl (.inr (.inl z))
  · exact (hp a z).imp (fun z => .inr (.inr z)) id
/-- a thing that is left alone is changed -/
theorem Sim.updP (I : Sim (C.pr P) ρ S A G σ H) {D : Addr} {o : HO} (hD : P D) (h0 : C.E0 D = none) : Sim (C.pr P) ρ S A G σ (upd H D o) := by
  have nD := I.prot D hD
  have hH : ∀ a o', H a = some o' → ¬ Fs (C.pr P) A G a → upd H D o a = some o' := fun a o' e n => by rw [upd_ne (show a ≠ D from fun z => n (by rw [z]; exact .inr (.inr hD)))]; exact e
  have hA : ∀ a, a ≠ D → upd H D o a = H a := fun a n => upd_ne n
  have tr : ∀ a, H a ≠ none → upd H D o a ≠ none := fun a h => by
    by_cases e : a = D
    · rw [e, upd_same]; simp
    · rw [hA a e]; exact h
  refine ⟨I.pre, I.lr, I.lg, I.ls, I.nd, fun a m => tr a (I.trk a m), fun a p => ⟨(I.prot a p).1, tr a (I.prot a p).2⟩, fun i x e => ?_, fun n xs e => ?_, fun a o' e n => ?_, I.fresh, I.a0⟩
  · obtain ⟨v, g, e1, r, sb⟩ := I.slots i x e
    refine ⟨v, g, e1, Rs.mono (fun _ _ q => q) (fun a z => .inl z) hH _ _ _ (fun a m o' q => ?_) r, sb⟩
    rw [hA a fun z => nD.1 (by rw [← z]; exact List.mem_append_right _ (getD_mem (sb.subset m)))]
    exact q
  · obtain ⟨a, vs, e1, e2, l, r⟩ := I.sto n xs e
    exact ⟨a, vs, e1, by rw [hA a fun z => nD.1 (by rw [← z]; exact List.mem_append_left _ (List.mem_of_getElem? e1))]; exact e2, l, RsL.mono (fun _ _ q => q) (fun a z => .inl z) hH _ _ _ (fun a m => by cases m) r⟩
  · have e' : C.E0 a = some o' := e
    rw [hA a fun z => by rw [z] at e'; rw [e'] at h0; cases h0]
    exact I.frame a o' e n
end
section
variable {X : Cx} {C : Ct} {W : WX} {kd ka kb : Kd} {tg elt iter : Expr} {ifs : List Expr} {scope : Scope} {own : List (Str × Nat)} {pos : Pos} {fi : Rho → Mo (List SV)} {ft : Rho → Mo Bool} {fe : Rho → Mo SV} {tf : TgF} {is : List Nat} {g : TG}
theorem compL_noexc {tf : TgF} {tst : Rho → Mo Bool} {elt : Rho → Mo SV} {ρ : Rho} : ∀ (xs acc : List SV) (S : Sto) (c : Str) (fs : List (Str × SV)) (S' : Sto), compL tf tst elt ρ xs acc S ≠ some (.exc c fs S')
  | [], acc, S, c, fs, S', h => by cases h
  | x :: xs, acc, S, c, fs, S', h => by
    unfold compL at h
    split at h
    · cases h
    · split at h
      · split at h
        · split at h
          · exact compL_noexc _ _ _ _ _ _ h
          · cases h
        · cases h
      · exact compL_noexc _ _ _ _ _ _ h
      · cases h
theorem t_lc (hgo : GOk C tf is g) {vs : List Nat} (his : ∀ j ∈ is, j ∈ vs) : ∀ σ H Q, tV C W kd (eLc fi tf ft fe vs) σ H Q → tLc (tI C W false fi) g (tTs C WF ft) (tV C WF .fe fe) vs σ H Q := by
  intro σ H Q ⟨P, ρ, S, A, G, hP, I, q⟩
  refine ⟨P, ρ, S, A, G, hP, I, EGood.step q (fun _ _ _ _ _ _ z => z) fun xs S1 q J H1 p => ?_⟩
  obtain ⟨A1, e1, I1, wk⟩ := p
  cases hcl : compL tf ft fe (wipeR ρ vs) xs [] S1 with
  | none => rw [hcl] at q; exact q.elim
  | some rr =>
  cases rr with
  | exc c fs S' => exact (compL_noexc _ _ _ _ _ _ hcl).elim
  | ok ys S2 =>
  rw [hcl] at q
  intro D hD
  have hE0 : C.E0 D = none := I1.e0 D hD
  have hW : ∀ (v : V) (H' : Hp), EPost (C.pr P) kd ρ A G σ H (SV.own ys) S2 v H' → Q v H' := q
  clear q
  refine ⟨fun i m H' => m = xs.length - i ∧ ∃ Si Ai acc accV gacc, i ≤ xs.length ∧ compL tf ft fe (wipeR ρ vs) (xs.drop i) acc Si = some (.ok ys S2) ∧ Ext A1 H1 Ai H' ∧ Sim (C.pr fun a => P a ∨ a = D ∨ a ∈ gacc) ρ Si Ai G σ H' ∧
    H' D = some (.lst accV) ∧ accV.length ≤ sizeLine ∧ RsL C.K C.mg H' Ai (fun a => Fs (C.pr P) Ai G a ∨ a = D ∨ a ∈ gacc) acc accV gacc ∧ gacc.Nodup ∧ (∀ a ∈ gacc, H1 a = none ∧ a ≠ D), ⟨xs.length - 0, rfl, S1, A1, [], [], [], Nat.zero_le _, by rw [List.drop_zero]; exact hcl, Ext.upd hD, ?_, upd_same, Nat.zero_le _, .nil, List.nodup_nil, fun a m => by cases m⟩, ?_⟩
  · exact Sim.prc (C := (C.pr P).pr fun a => P a ∨ a = D) (Sim.newP I1 hD) fun a z => z.elim .inl fun z => z.elim .inr fun m => by cases m
  rintro i m H' ⟨rfl, Si, Ai, acc, accV, gacc, hi, hc, ex, Is, hDa, hl, rl, nd, hg⟩
  have hkeep : false = false → ∀ a o, H1 a = some o → a ∉ A1 → H' a = some o := fun _ a o e n => ex.keep a o e n
  by_cases hlt : i < xs.length
  · -- a turn
    have hx : xs[i]? = some xs[i] := List.getElem?_eq_getElem hlt
    have hP2 : ∀ a, (P a ∨ a = D ∨ a ∈ gacc) → P a ∨ H1 a = none := fun a z => z.imp id fun z => z.elim (fun z => by rw [z]; exact hD) fun m => (hg a m).1
    obtain ⟨jgo, jy⟩ := wk.go (fun a => P a ∨ a = D ∨ a ∈ gacc) Ai G H' hP2 ex.s hkeep (fun a z => Is.fsTrk z) i _ hx
    rw [List.drop_eq_getElem_cons hlt] at hc
    unfold compL at hc
    cases htf : tf xs[i] (wipeR ρ vs) with
    | none => rw [htf] at hc; cases hc
    | some ρ' =>
    rw [htf] at hc
    simp only at hc
    refine .inr ⟨jgo, fun H'' => ∃ Si Ai acc accV gacc, i + 1 ≤ xs.length ∧ compL tf ft fe (wipeR ρ vs) (xs.drop (i + 1)) acc Si = some (.ok ys S2) ∧ Ext A1 H1 Ai H'' ∧ Sim (C.pr fun a => P a ∨ a = D ∨ a ∈ gacc) ρ Si Ai G σ H'' ∧
      H'' D = some (.lst accV) ∧ accV.length ≤ sizeLine ∧ RsL C.K C.mg H'' Ai (fun a => Fs (C.pr P) Ai G a ∨ a = D ∨ a ∈ gacc) acc accV gacc ∧ gacc.Nodup ∧ (∀ a ∈ gacc, H1 a = none ∧ a ≠ D), fun H'' h => ⟨xs.length - (i + 1), by omega, rfl, h⟩, fun v H3 y => ?_⟩
    obtain ⟨hn, rx⟩ := jy v H3 y
    have e3 : Ext Ai H' Ai H3 := by
      rcases hn with rfl | ⟨p, o, hp, rfl⟩
      · exact Ext.refl
      · exact Ext.upd hp
    have I3 : Sim (C.pr fun a => P a ∨ a = D ∨ a ∈ gacc) ρ Si Ai G σ H3 := by
      rcases hn with rfl | ⟨p, o, hp, rfl⟩
      · exact Is
      · exact Is.new hp
    refine hgo _ _ _ _ _ _ _ _ _ _ _ (I3.wipe vs) rx htf fun σ2 I4 so => ⟨?_, ?_⟩
    · rw [so.wipe his, wipe_wipe]
    refine ⟨_, ρ', Si, Ai, G, fun a z => .inl (hP a z), I4, ?_⟩
    cases htt : ft ρ' Si with
    | none => rw [htt] at hc; cases hc
    | some rt =>
    cases rt with
    | exc c fs S' => rw [htt] at hc; cases hc
    | ok b S3 =>
    rw [htt] at hc
    rintro b' H4 ⟨rfl, A4, e4, I5⟩
    have e34 : Ext Ai H' A4 H4 := e3.trans e4
    have hD4 : H4 D = some (.lst accV) := e34.keep D _ hDa fun z => (Is.prot D (.inr (.inl rfl))).1 (List.mem_append_left _ z)
    cases b' with
    | false =>
      simp only [Bool.false_eq_true, if_false] at hc ⊢
      refine ⟨S3, A4, acc, accV, gacc, hlt, hc, ex.trans e34, Sim.back Is I5 e34 fun a z => .inl z, hD4, hl, ?_, nd, hg⟩
      refine RsL.mono (prefix_get e34.pre) (fun a z => ?_) (fun a o q n => e34.keep a o q fun z => n (.inl (.inl z))) _ _ _ (fun a m o q => e34.keep a o q fun z => (Is.prot a (.inr (.inr m))).1 (List.mem_append_left _ z)) rl
      rcases z with (z | z | z) | z
      · exact (e34.new a z).imp (fun z => .inl (.inl z)) id
      · exact .inl (.inl (.inr (.inl z)))
      · exact .inl (.inl (.inr (.inr z)))
      · exact .inl (.inr z)
    | true =>
      simp only [if_true] at hc ⊢
      refine ⟨_, ρ', S3, A4, G, fun a z => .inl (hP a z), I5, ?_⟩
      cases hte : fe ρ' S3 with
      | none => rw [hte] at hc; cases hc
      | some re =>
      cases re with
      | exc c fs S' => rw [hte] at hc; cases hc
      | ok z S4 =>
      rw [hte] at hc
      simp only at hc
      rintro w H5 ⟨A5, g5, e5, I6, k5⟩
      have e35 : Ext Ai H' A5 H5 := e34.trans e5
      have hD5 : H5 D = some (.lst accV) := e35.keep D _ hDa fun z => (Is.prot D (.inr (.inl rfl))).1 (List.mem_append_left _ z)
      split at hc
      · rename_i hsz
        have hlen := rl.length
        refine ⟨accV, hD5, by rw [hlen]; exact hsz, S4, A5, acc ++ [z], accV ++ [w], gacc ++ g5, hlt, hc, ?_, ?_, upd_same, by rw [List.length_append, hlen]; exact hsz, ?_, ?_, ?_⟩
        · have e15 := ex.trans e35
          refine ⟨e15.pre, e15.new, fun a o e n => ?_, fun a h => ?_⟩
          · rw [upd_ne (show a ≠ D from fun z => by rw [z, hD] at e; cases e)]
            exact e15.keep a o e n
          · by_cases ea : a = D
            · rw [ea, upd_same]; simp
            · rw [upd_ne ea]; exact e15.there a h
        · have I6' : Sim (C.pr fun a => (P a ∨ a = D ∨ a ∈ gacc) ∨ a ∈ g5) ρ' S4 A5 G σ2 H5 := I6
          have I7 := Sim.back Is I6' e35 (fun a z => z.imp id fun m => none_back e34 (k5.2.2 a m).1)
          have I8 : Sim (C.pr fun a => P a ∨ a = D ∨ a ∈ gacc ++ g5) ρ S4 A5 G σ H5 := Sim.prc (C := C.pr fun a => (P a ∨ a = D ∨ a ∈ gacc) ∨ a ∈ g5) I7 fun a z => by
            rcases z with z | z | z
            · exact .inl (.inl z)
            · exact .inl (.inr (.inl z))
            · exact (List.mem_append.mp z).elim (fun z => .inl (.inr (.inr z))) .inr
          exact I8.updP (.inr (.inl rfl)) hE0
        · refine RsL.app ?_ (g' := g5) ?_
          · refine RsL.mono (prefix_get e35.pre) (fun a z => ?_) (fun a o q n => ?_) _ _ _ (fun a m o q => ?_) rl
            · rcases z with (z | z | z) | z | z
              · exact (e35.new a z).imp (fun z => .inl (.inl z)) id
              · exact .inl (.inl (.inr (.inl z)))
              · exact .inl (.inl (.inr (.inr z)))
              · exact .inl (.inr (.inl z))
              · rcases List.mem_append.mp z with z | z
                · exact .inl (.inr (.inr z))
                · exact .inr (none_back e34 (k5.2.2 a z).1)
            · rw [upd_ne (show a ≠ D from fun z => n (.inr (.inl z)))]
              exact e35.keep a o q fun z => n (.inl (.inl z))
            · rw [upd_ne (hg a m).2]
              exact e35.keep a o q fun z => (Is.prot a (.inr (.inr m))).1 (List.mem_append_left _ z)
          · have r5 := k5.1
            have : RsL C.K C.mg (upd H5 D (.lst (accV ++ [w]))) A5 (fun a => Fs (C.pr P) A5 G a ∨ a = D ∨ a ∈ gacc ++ g5) [z] [w] (g5 ++ []) := by
              refine .cons (Rs.mono (fun _ _ q => q) (fun a z => ?_) (fun a o q n => ?_) _ _ _ (fun a m o q => ?_) r5) .nil
              · rcases z with (z | z | z) | z | z
                · exact .inl (.inl (.inl z))
                · exact .inl (.inl (.inr (.inl z)))
                · exact .inl (.inl (.inr (.inr (.inl z))))
                · exact .inl (.inl (.inr (.inr (.inr (.inl z)))))
                · rcases List.mem_append.mp z with z | z
                  · exact .inl (.inl (.inr (.inr (.inr (.inr z)))))
                  · exact .inl (.inr z)
              · rw [upd_ne (show a ≠ D from fun z => n (.inl (.inr (.inr (.inr (.inl z))))))]
                exact q
              · rw [upd_ne (show a ≠ D from fun z => by
                  have := (k5.2.2 a m).1
                  rw [z, hD4] at this
                  cases this)]
                exact q
            rw [List.append_nil] at this
            exact this
        · refine List.nodup_append.mpr ⟨nd, k5.2.1, fun a h b h' e => ?_⟩
          subst e
          have h1 := (k5.2.2 a h').1
          exact e34.there a (Is.prot a (.inr (.inr h))).2 h1
        · intro a m
          rcases List.mem_append.mp m with m | m
          · exact hg a m
          · have h1 := (k5.2.2 a m).1
            refine ⟨none_back ex (none_back e34 h1), fun z => ?_⟩
            rw [z, hD4] at h1
            cases h1
      · cases hc
  · -- the end
    have hie : i = xs.length := by omega
    rw [List.drop_eq_nil_of_le (by omega)] at hc
    cases hc
    refine .inl ⟨wk.stop Ai G H' ex.s hkeep i (by omega), hW _ _ (EPost.be ⟨Ai, D :: gacc, e1.trans ex, ?_, .own hDa hl ?_, ?_, ?_⟩)⟩
    · exact Sim.prc (C := C.pr fun a => P a ∨ a = D ∨ a ∈ gacc) Is fun a z => z.imp id fun m => by simpa using m
    · exact RsL.mono (fun _ _ q => q) (fun a z => .inl (z.imp id fun m => by simpa using m)) (fun a o q n => q) _ _ _ (fun a m o q => q) rl
    · exact List.nodup_cons.mpr ⟨fun m => (hg D m).2 rfl, nd⟩
    · intro a m
      have m' : a = D ∨ a ∈ gacc := by simpa using m
      refine ⟨?_, (Is.prot a (.inr m')).2, fun z => (Is.prot a (.inr m')).1 (List.mem_append_left _ z)⟩
      rcases m' with m' | m'
      · rw [m']; exact none_back e1 hD
      · exact none_back e1 (hg a m').1
theorem v_lc (hc : X.calm = true) (hN : X.N.Nodup) (hi : PI X tg iter (tI C W false fi)) (ok : BlkOk X.N X.env.scope scope own) (hg : ∀ (s : Shared) (H : Hp) (Ca : Addr) (cl : List (Str × Addr)) (fp : List Addr), PG (X.blk s H scope (compEnvC scope cl Ca X.env) fp) tg g) (hgo : GOk C tf is g)
    (his : ∀ j ∈ is, j ∈ own.map (·.2)) (ht : ∀ (s : Shared) (H : Hp) (Ca : Addr) (cl : List (Str × Addr)) (fp : List Addr), PTs (X.blk s H scope (compEnvC scope cl Ca X.env) fp) ifs (tTs C WF ft))
    (he : ∀ (s : Shared) (H : Hp) (Ca : Addr) (cl : List (Str × Addr)) (fp : List Addr), PE (X.blk s H scope (compEnvC scope cl Ca X.env) fp) elt (tV C WF .fe fe)) (hs : ∀ x, foldedSetIterable iter X.env x = pure x := by intro _; rfl) :
    PE X (.ListComp elt [⟨tg, iter, ifs, 0⟩] scope pos) (tV C W kd (eLc fi tf ft fe (own.map (·.2)))) := pe_imp (pe_lc hc hN hi ok hg ht he hs) (t_lc hgo his)
/-- no test -/
def bYes : Rho → Mo Bool := fun _ S => some (.ok true S)
theorem ts_nil {X : Cx} : PTs X [] (tTs C WF bYes) := ⟨fun pins s σ H Q I h => pts_nil.run pins s σ H Q I (by
  obtain ⟨P, ρ, S, A, G, hP, I', q⟩ := h
  exact q true H ⟨rfl, A, Ext.refl, I'⟩)⟩
theorem ts_one {X : Cx} {c : Expr} (h : PT X c (tTs C WF ft)) : PTs X [c] (tTs C WF ft) := pts_one h
end
end VL

end
section
set_option Elab.async false
set_option linter.all false
set_option maxRecDepth 100000
/-! VL8: statements; a def by its body; calls. -/
namespace VL
open PySem PySem.Spec PyProof.Rows L2

def bindS {α : Type} (ρ : Rho) (m : Option (Res α)) (k : α → Sto → Option Fl) : Option Fl :=
  match m with
  | none => none
  | some (.ok a S) => k a S
  | some (.exc c fs S) => some (.exc c fs ρ S)
@[simp] theorem bindS_ok {α : Type} (ρ : Rho) (a : α) (S : Sto) (k : α → Sto → Option Fl) : bindS ρ (some (.ok a S)) k = k a S := rfl
@[simp] theorem bindS_none {α : Type} (ρ : Rho) (k : α → Sto → Option Fl) : bindS ρ none k = none := rfl
@[simp] theorem bindS_exc {α : Type} (ρ : Rho) (c : Str) (fs : List (Str × SV)) (S : Sto) (k : α → Sto → Option Fl) : bindS ρ (some (.exc c fs S)) k = some (.exc c fs ρ S) := rfl
def sNil : Rho → Sto → Option Fl := fun ρ S => some (.nx ρ S)
def sSeq (f g : Rho → Sto → Option Fl) : Rho → Sto → Option Fl := fun ρ S => match f ρ S with
  | some (.nx ρ' S') => g ρ' S'
  | r => r
def sSet (i : Nat) (f : Rho → Mo SV) : Rho → Sto → Option Fl := fun ρ S => bindS ρ (f ρ S) fun x S1 => some (.nx (ρ.set i (some x)) S1)
def sAsg (t : TgF) (f : Rho → Mo SV) : Rho → Sto → Option Fl := fun ρ S => bindS ρ (f ρ S) fun x S1 => (frz x).bind fun y => (t y ρ).map fun ρ' => .nx ρ' S1
def sPar (i j : Nat) (fs : Rho → Mo (List SV)) : Rho → Sto → Option Fl := fun ρ S => bindS ρ (fs ρ S) fun xs S1 => match xs with
  | [x, y] => some (.nx ((ρ.set i (some x)).set j (some y)) S1)
  | _ => none
def sRet (f : Rho → Mo SV) : Rho → Sto → Option Fl := fun ρ S => bindS ρ (f ρ S) fun x S1 => some (.rt x S1)
/-- a local is handed back, a list of one's own too -/
def sRetV (i : Nat) : Rho → Sto → Option Fl := fun ρ S => match ρ[i]? with
  | some (some x) => some (.rt x S)
  | _ => none
def sRetN : Rho → Sto → Option Fl := fun _ S => some (.rt (.d .none) S)
def sIf (c : Rho → Mo Bool) (f g : Rho → Sto → Option Fl) : Rho → Sto → Option Fl := fun ρ S => bindS ρ (c ρ S) fun b S1 => if b then f ρ S1 else g ρ S1
def sDrop (f : Rho → Mo SV) : Rho → Sto → Option Fl := fun ρ S => bindS ρ (f ρ S) fun _ S1 => some (.nx ρ S1)
def sBrk : Rho → Sto → Option Fl := fun ρ S => some (.bk ρ S)
def sCnt : Rho → Sto → Option Fl := fun ρ S => some (.ct ρ S)
def forL (t : TgF) (body : Rho → Sto → Option Fl) : List SV → Rho → Sto → Option Fl
  | [], ρ, S => some (.nx ρ S)
  | x :: xs, ρ, S => match t x ρ with
    | none => none
    | some ρ' => match body ρ' S with
      | some (.nx ρ2 S2) => forL t body xs ρ2 S2
      | some (.ct ρ2 S2) => forL t body xs ρ2 S2
      | some (.bk ρ2 S2) => some (.nx ρ2 S2)
      | r => r
def sFor (it : Rho → Mo (List SV)) (t : TgF) (body : Rho → Sto → Option Fl) : Rho → Sto → Option Fl := fun ρ S => bindS ρ (it ρ S) fun xs S1 => forL t body xs ρ S1
def whileF (c : Rho → Mo Bool) (b : Rho → Sto → Option Fl) : Nat → Rho → Sto → Option Fl
  | 0, _, _ => none
  | n + 1, ρ, S => bindS ρ (c ρ S) fun k S1 => if k then (match b ρ S1 with
      | some (.nx ρ2 S2) => whileF c b n ρ2 S2
      | some (.ct ρ2 S2) => whileF c b n ρ2 S2
      | some (.bk ρ2 S2) => some (.nx ρ2 S2)
      | r => r) else some (.nx ρ S1)
open Classical in
noncomputable def sWhile (c : Rho → Mo Bool) (b : Rho → Sto → Option Fl) : Rho → Sto → Option Fl := fun ρ S =>
  if h : ∃ n r, whileF c b n ρ S = some r then some h.choose_spec.choose else none
theorem whileF_mono {c : Rho → Mo Bool} {b : Rho → Sto → Option Fl} : ∀ {n : Nat} {ρ : Rho} {S : Sto} {r : Fl}, whileF c b n ρ S = some r → whileF c b (n + 1) ρ S = some r
  | 0, _, _, _, h => by cases h
  | n + 1, ρ, S, r, h => by
    unfold whileF at h ⊢
    cases e : c ρ S with
    | none => rw [e] at h; cases h
    | some x =>
      rw [e] at h
      cases x with
      | exc => exact h
      | ok k S1 =>
        simp only [bindS_ok] at h ⊢
        cases k with
        | false => exact h
        | true =>
          simp only [if_true] at h ⊢
          cases eb : b ρ S1 with
          | none => rw [eb] at h; cases h
          | some y =>
            rw [eb] at h
            cases y with
            | nx ρ2 S2 => exact whileF_mono h
            | ct ρ2 S2 => exact whileF_mono h
            | bk ρ2 S2 => exact h
            | rt v S2 => exact h
            | exc c f S2 => exact h
theorem whileF_add {c : Rho → Mo Bool} {b : Rho → Sto → Option Fl} {n : Nat} {ρ : Rho} {S : Sto} {r : Fl} (h : whileF c b n ρ S = some r) (m : Nat) : whileF c b (n + m) ρ S = some r := by
  induction m with
  | zero => exact h
  | succ m ih => exact whileF_mono ih
theorem sWhile_of {c : Rho → Mo Bool} {b : Rho → Sto → Option Fl} {n : Nat} {ρ : Rho} {S : Sto} {r : Fl} (h : whileF c b n ρ S = some r) : sWhile c b ρ S = some r := by
  unfold sWhile
  have hx : ∃ n r, whileF c b n ρ S = some r := ⟨n, r, h⟩
  rw [dif_pos hx]
  have h2 := hx.choose_spec.choose_spec
  have e1 := whileF_add h hx.choose
  have e2 := whileF_add h2 n
  rw [Nat.add_comm] at e2
  rw [e1] at e2
  exact e2.symm
theorem sWhile_some {c : Rho → Mo Bool} {b : Rho → Sto → Option Fl} {ρ : Rho} {S : Sto} {r : Fl} (h : sWhile c b ρ S = some r) : ∃ n, whileF c b n ρ S = some r := by
  unfold sWhile at h
  split at h
  · rename_i hx
    cases h
    exact ⟨_, hx.choose_spec.choose_spec⟩
  · cases h

/-! ### their readings -/
section
variable {C : Ct} {W : WX} {ρ ρ' : Rho} {S S' : Sto} {A A' : List Addr} {G G' : List (List Addr)} {σ σ' : L2.St} {H H' : Hp} {D : Ends}
theorem Ct.pr_self : C.pr C.Pr = C := rfl
theorem SGood.step {α V1 : Type} {post1 : α → Sto → V1 → Hp → Prop} {m : Option (Res α)} {k : α → Sto → Option Fl} {Q1 : V1 → Hp → Prop} (q : SGood C W A G H D (bindS ρ m k))
    (h : ∀ x S', SGood C W A G H D (k x S') → ∀ v H', post1 x S' v H' → Q1 v H') : EGood post1 (XPost C ρ A G σ H) W σ Q1 m := by
  cases m with
  | none => exact q
  | some r =>
    cases r with
    | ok x S' => exact h x S' q
    | exc c fs S' => exact fun cls d H' ⟨A', e, I, r⟩ => q A' G σ H' cls d e.s I r
theorem SGood.nx (q : SGood C W A G H D (some (.nx ρ' S'))) (e : ExtS A G H A' G' H') (I : Sim C ρ' S' A' G' σ' H') : D.nx σ' H' := q A' G' σ' H' e I
/-- at a return -/
theorem RSto.of {g : List Addr} (I : Sim (C.pr fun a => C.Pr a ∨ a ∈ g) ρ S' A' G σ H') (nd : g.Nodup) (h0 : ∀ a ∈ g, C.E0 a = none) : RSto C A' g S' H' := by
  refine ⟨I.pre, I.ls, List.nodup_append.mpr ⟨(List.nodup_append.mp I.nd).1, nd, fun a h b h' e => ?_⟩, fun a m => ?_, h0, fun n xs e => ?_, I.frame, fun a h => ?_⟩
  · subst e
    exact (I.prot a (.inr h')).1 (List.mem_append_left _ h)
  · rcases List.mem_append.mp m with m | m
    · exact ⟨I.trk a (List.mem_append_left _ m), I.fresh a (List.mem_append_left _ m)⟩
    · exact ⟨(I.prot a (.inr m)).2, .inr (h0 a m)⟩
  · obtain ⟨a, vs, e1, e2, l, r⟩ := I.sto n xs e
    exact ⟨a, vs, e1, e2, l, RsL.mono (fun _ _ q => q) (fun a z => .inl (z.elim .inl fun z => z.elim (fun z => .inr (.inr (.inr z))) fun z => .inr (.inr (.inl z)))) (fun a o q n => q) _ _ _ (fun a m o q => q) r⟩
  · cases q : C.E0 a with
    | none => exact absurd q h
    | some o =>
      by_cases z : a ∈ C.A0
      · exact I.trk a (List.mem_append_left _ (I.pre.subset z))
      · rw [I.frame a o q z]; simp
end
section
variable {X : Cx} {C : Ct} {W : WX} {kd ka kb : Kd} {tg e iter : Expr} {es : List Expr} {st : Stmt} {rest body : List Stmt} {pos : Pos} {f fa fb : Rho → Mo SV} {fs : Rho → Mo (List SV)} {fi : Rho → Mo (List SV)} {fc : Rho → Mo Bool} {s s1 s2 : Rho → Sto → Option Fl} {tf : TgF} {is : List Nat} {g : TG}
theorem ss_nil : PSs X [] (tS C W sNil) := pss_imp pss_nil fun D σ H ⟨ρ, S, A, G, I, q⟩ => q A G σ H ExtS.refl I
theorem ss_cons (h1 : PS X st (tS C W s1)) (h2 : PSs X rest (tS C W s2)) : PSs X (st :: rest) (tS C W (sSeq s1 s2)) := by
  refine pss_imp (pss_cons h1 h2) fun D σ H ⟨ρ, S, A, G, I, q⟩ => ⟨ρ, S, A, G, I, ?_⟩
  unfold sSeq at q
  cases e : s1 ρ S with
  | none => rw [e] at q; exact q
  | some r =>
    rw [e] at q
    cases r with
    | nx ρ' S' => exact fun A' G' σ' H' x J => ⟨ρ', S', A', G', J, q.ext x⟩
    | rt x S' => exact q
    | bk ρ' S' => exact q
    | ct ρ' S' => exact q
    | exc c fs ρ' S' => exact q
theorem ss_one (h1 : PS X st (tS C W s1)) : PSs X [st] (tS C W s1) := pss_one h1
theorem s_pass : PS X (.Pass pos) (tS C W sNil) := ps_imp ps_pass fun D σ H ⟨ρ, S, A, G, I, q⟩ => q A G σ H ExtS.refl I
theorem s_doc {x j pos pos'} : PS X (.Expr (.Constant (.str x) j pos) pos') (tS C W sNil) := ps_imp ps_doc fun D σ H ⟨ρ, S, A, G, I, q⟩ => q A G σ H ExtS.refl I
theorem s_brk : PS X (.Break pos) (tS C W sBrk) := ps_imp ps_break fun D σ H ⟨ρ, S, A, G, I, q⟩ => q A G σ H ExtS.refl I
theorem s_cnt : PS X (.Continue pos) (tS C W sCnt) := ps_imp ps_continue fun D σ H ⟨ρ, S, A, G, I, q⟩ => q A G σ H ExtS.refl I
theorem put_ext {A A' : List Addr} {G : List (List Addr)} {H H' : Hp} {g : List Addr} {i : Nat} (e : Ext A H A' H') (h : ∀ a ∈ g, H a = none) : ExtS A G H A' (G.set i g) H' := by
  refine ⟨e.pre, fun a m => ?_, e.s (G := G).keep, e.there⟩
  rcases List.mem_append.mp m with m | m
  · exact (e.new a m).imp (List.mem_append_left _) id
  · rcases flatten_set_sub m with m | m
    · exact .inl (List.mem_append_right _ m)
    · exact .inr (h a m)
theorem s_set {i : Nat} {x : Str} {pos' : Pos} (hN : X.N.Nodup) (hi : X.N[i]? = some x) (hx : Loc X.env.scope x) (he : PE X e (tV C W .fe f)) (hs : swapsWith e (some (.Name x pos')) pos.line X.env = pure false := by rfl) (hf : X.fn x = true ∨ X.env.scope.names.lookup x = some .local := by first | exact .inl rfl | exact .inr rfl | assumption) :
    PS X (.Assign [.Name x pos'] e pos) (tS C W (sSet i f)) := by
  refine ps_imp (ps_set hN hi hx he hs hf) fun D σ H ⟨ρ, S, A, G, I, q⟩ => ⟨C.Pr, ρ, S, A, G, fun _ h => h, I, SGood.step q fun x S' q v H' p => ?_⟩
  obtain ⟨A', g, e, J, r⟩ := p
  exact q _ _ _ _ (put_ext e fun a m => (r.2.2 a m).1) (Sim.put J r.1 r.2.1 (fun a m => I.e0 a (r.2.2 a m).1) fun a m z => (I.prot a z).2 (r.2.2 a m).1)
theorem t_setlc {i : Nat} {t : TE} (h : ∀ σ H Q, tV C W .fe f σ H Q → t σ H Q) : ∀ D σ H, tS C W (sSet i f) D σ H → tAsg t (gName i) D σ H := by
  intro D σ H ⟨ρ, S, A, G, I, q⟩
  refine h σ H _ ⟨C.Pr, ρ, S, A, G, fun _ h => h, I, SGood.step q fun x S' q v H' p => ?_⟩
  obtain ⟨A', g, e, J, r⟩ := p
  exact q _ _ _ _ (put_ext e fun a m => (r.2.2 a m).1) (Sim.put J r.1 r.2.1 (fun a m => I.e0 a (r.2.2 a m).1) fun a m z => (I.prot a z).2 (r.2.2 a m).1)
theorem s_asg (he : PE X e (tV C W .fe f)) (hg : PG X tg g) (hgo : GOk C tf is g) (hs : swapsWithSole [tg] e pos.line X.env = pure false := by rfl) (hw : swappedStores [tg] e X.env = pure none := by rfl)
    (h1 : (assignEach [tg] X.env).map (·.2) = [assign tg X.env] := by rfl) : PS X (.Assign [tg] e pos) (tS C W (sAsg tf f)) := by
  refine ps_imp (ps_asg he hg hs hw h1) fun D σ H ⟨ρ, S, A, G, I, q⟩ => ⟨C.Pr, ρ, S, A, G, fun _ h => h, I, SGood.step q fun x S' q v H' p => ?_⟩
  obtain ⟨A', g', e, J, r⟩ := p
  cases ef : frz x with
  | none => rw [ef] at q; exact q.elim
  | some y =>
    rw [ef] at q
    simp only [Option.bind_some] at q
    cases et : tf y ρ with
    | none => rw [et] at q; exact q.elim
    | some ρ' =>
      rw [et] at q
      have J0 : Sim (C.pr C.Pr) ρ S' A' G σ H' := Sim.prc (C := C.pr fun a => C.Pr a ∨ a ∈ g') J fun a z => .inl z
      exact hgo C.Pr ρ ρ' S' A' G σ H' y v _ J0 (Rk.frz (C := C) r (new_not1 (P := C.Pr) (S1 := S') I r) ef) et fun σ' J' _ => q A' G σ' H' e.s J'
theorem s_par {i j : Nat} {x y : Str} {a b : Expr} {px py pt : Pos} {kt k2 pt2} (hc : X.calm = true) (hN : X.N.Nodup) (hi : X.N[i]? = some x) (hj : X.N[j]? = some y) (hij : i ≠ j)
    (hx : X.env.scope.names.lookup x = some .local) (hy : X.env.scope.names.lookup y = some .local) (ha : PA X [a, b] (tVs C W .fe fs))
    (hw : swappedStores [.Tuple [.Name x px, .Name y py] kt pt] (.Tuple [a, b] k2 pt2) X.env = pure (some [x, y]))
    (hs : swapsWithSole [.Tuple [.Name x px, .Name y py] kt pt] (.Tuple [a, b] k2 pt2) pos.line X.env = pure false := by rfl) : PS X (.Assign [.Tuple [.Name x px, .Name y py] kt pt] (.Tuple [a, b] k2 pt2) pos) (tS C W (sPar i j fs)) := by
  refine ps_imp (ps_par hc hN hi hj hij hx hy ha hw hs) fun D σ H ⟨ρ, S, A, G, I, q⟩ => ⟨C.Pr, ρ, S, A, G, fun _ h => h, I, SGood.step q fun xs S' q vs H' p => ?_⟩
  obtain ⟨A', g', e, J, r⟩ := p
  split at q
  · rename_i x y
    obtain ⟨r0, nd, hg⟩ := r
    cases r0 with
    | cons r1 r2 =>
      rename_i v us g1 g2
      cases r2 with
      | cons r2 r3 =>
        rename_i w ws g3 g4
        cases r3
        rw [List.append_nil] at *
        have n := List.nodup_append.mp nd
        refine ⟨v, w, rfl, ?_⟩
        have e0 : ∀ a ∈ g1 ++ g3, C.E0 a = none := fun a m => I.e0 a (hg a m).1
        have np : ∀ a ∈ g1 ++ g3, ¬ C.Pr a := fun a m z => (I.prot a z).2 (hg a m).1
        -- the first
        have K1 : Sim ((C.pr fun a => C.Pr a ∨ a ∈ g3).pr fun a => (C.pr fun a => C.Pr a ∨ a ∈ g3).Pr a ∨ a ∈ g1) ρ S' A' G σ H' := Sim.prc (C := C.pr fun a => C.Pr a ∨ a ∈ g1 ++ g3) J fun a z => by
          rcases z with (z | z) | z
          · exact .inl z
          · exact .inr (List.mem_append_right _ z)
          · exact .inr (List.mem_append_left _ z)
        have J1 := Sim.put (i := i) K1 (x := x) (v := v) (Rs.mono (fun _ _ q => q) (fun a z => .inl (by
          rcases z with (z | z | z | z) | z
          · exact .inl (.inl z)
          · exact .inl (.inr (.inl z))
          · exact .inl (.inr (.inr z))
          · exact .inr (List.mem_append_right _ z)
          · exact .inr (List.mem_append_left _ z))) (fun a o q n => q) _ _ _ (fun a m o q => q) r1) n.1 (fun a m => e0 a (List.mem_append_left _ m)) (fun a m z => z.elim (np a (List.mem_append_left _ m)) fun z => n.2.2 a m a z rfl)
        -- the second
        have J2 := Sim.put (C := C) (i := j) (x := y) (v := w) (g := g3) J1 (Rs.mono (fun _ _ q => q) (fun a z => .inl (by
          rcases z with (z | z | z) | z
          · exact .inl (.inl z)
          · rcases flatten_set_sub z with z | z
            · exact .inl (.inr (.inl z))
            · exact .inr (List.mem_append_left _ z)
          · exact .inl (.inr (.inr z))
          · exact .inr (List.mem_append_right _ z))) (fun a o q n => q) _ _ _ (fun a m o q => q) r2) n.2.1 (fun a m => e0 a (List.mem_append_right _ m)) (fun a m => np a (List.mem_append_right _ m))
        refine q _ _ _ _ ⟨e.pre, fun a m => ?_, e.s (G := G).keep, e.there⟩ J2
        rcases List.mem_append.mp m with m | m
        · exact (e.new a m).imp (List.mem_append_left _) id
        · rcases flatten_set_sub m with m | m
          · rcases flatten_set_sub m with m | m
            · exact .inl (List.mem_append_right _ m)
            · exact .inr (hg a (List.mem_append_left _ m)).1
          · exact .inr (hg a (List.mem_append_right _ m)).1
  · exact q.elim
theorem s_ret (he : PE X e (tV C W .fe f)) : PS X (.Return (some e) pos) (tS C W (sRet f)) := by
  refine ps_imp (ps_ret he) fun D σ H ⟨ρ, S, A, G, I, q⟩ => ⟨C.Pr, ρ, S, A, G, fun _ h => h, I, SGood.step q fun x S' q v H' p => ?_⟩
  obtain ⟨A', g, e, J, r⟩ := p
  refine q v H' ⟨A', g, RSto.of J r.2.1 (fun a m => I.e0 a (r.2.2 a m).1), Rs.mono (fun _ _ q => q) (fun a z => .inl ?_) (fun a o q n => q) _ _ _ (fun a m o q => q) r.1⟩
  rcases z with z | z | z
  · exact .inl (.inl z)
  · exact .inr z
  · exact .inl (.inr (.inr z))
theorem s_retV {i : Nat} (he : PE X e (tVar i)) : PS X (.Return (some e) pos) (tS C W (sRetV i)) := by
  refine ps_imp (ps_ret he) fun D σ H ⟨ρ, S, A, G, I, q⟩ => ?_
  unfold sRetV at q
  split at q
  · rename_i x hx
    obtain ⟨v, g, e1, r, sb⟩ := I.slots i x hx
    have hm : ∀ a ∈ g, a ∈ G.flatten := fun a m => getD_mem (sb.subset m)
    have hnd : (A ++ g).Nodup := by
      have n := List.nodup_append.mp I.nd
      refine List.nodup_append.mpr ⟨n.1, ?_, fun a h b h' e => n.2.2 a h b (hm b h') e⟩
      cases hG : G[i]? with
      | none => rw [hG] at sb; rw [List.sublist_nil.mp sb]; exact List.nodup_nil
      | some l =>
        rw [hG] at sb
        exact ((List.pairwise_flatten.mp n.2.1).1 l (List.mem_of_getElem? hG)).sublist sb
    have hE : ∀ a ∈ g, C.E0 a = none := fun a m => by
      rcases I.fresh a (List.mem_append_right _ (hm a m)) with z | z
      · exact absurd rfl ((List.nodup_append.mp hnd).2.2 a (I.pre.subset z) a m)
      · exact z
    refine ⟨v, e1, q v H ⟨A, g, ⟨I.pre, I.ls, hnd, fun a m => ?_, hE, fun n xs e => ?_, I.frame, fun a h => ?_⟩, Rs.mono (fun _ _ q => q) (fun a z => .inl ?_) (fun a o q n => q) _ _ _ (fun a m o q => q) r⟩⟩
    · rcases List.mem_append.mp m with m | m
      · exact ⟨I.trk a (List.mem_append_left _ m), I.fresh a (List.mem_append_left _ m)⟩
      · exact ⟨I.trk a (List.mem_append_right _ (hm a m)), .inr (hE a m)⟩
    · obtain ⟨a, vs, e1, e2, l, r⟩ := I.sto n xs e
      exact ⟨a, vs, e1, e2, l, RsL.mono (fun _ _ q => q) (fun a z => .inl (z.elim .inl fun z => z.elim (fun z => .inr (.inl (hm a z))) fun z => .inr (.inr z))) (fun a o q n => q) _ _ _ (fun a m o q => q) r⟩
    · cases q : C.E0 a with
      | none => exact absurd q h
      | some o =>
        by_cases z : a ∈ C.A0
        · exact I.trk a (List.mem_append_left _ (I.pre.subset z))
        · rw [I.frame a o q z]; simp
    · exact z.elim .inl fun z => z.elim (fun z => .inr (.inl (hm a z))) fun z => .inr (.inr z)
  · exact q.elim
theorem s_retN : PS X (.Return none pos) (tS C W sRetN) := by
  refine ps_imp ps_retN fun D σ H ⟨ρ, S, A, G, I, q⟩ => ?_
  have J : Sim (C.pr fun a => C.Pr a ∨ a ∈ ([] : List Addr)) ρ S A G σ H := I.prc fun a h => h.elim id fun m => by cases m
  exact q _ H ⟨A, [], RSto.of J List.nodup_nil (fun a m => by cases m), .d .non⟩
theorem s_if {a b : List Stmt} (hc : PT X e (tTs C W fc)) (ha : PSs X a (tS C W s1)) (hb : PSs X b (tS C W s2)) : PS X (.If e a b pos) (tS C W (sIf fc s1 s2)) := by
  refine ps_imp (ps_if hc ha hb) fun D σ H ⟨ρ, S, A, G, I, q⟩ => ⟨C.Pr, ρ, S, A, G, fun _ h => h, I, SGood.step q fun k S' q v H' p => ?_⟩
  obtain ⟨rfl, A', e, J⟩ := p
  cases v with
  | true => exact ⟨ρ, S', A', G, J, q.ext e.s⟩
  | false => exact ⟨ρ, S', A', G, J, q.ext e.s⟩
theorem s_drop (he : PE X e (tV C W kd f)) (hs : swapsWith e none pos.line X.env = pure false := by rfl) : PS X (.Expr e pos) (tS C W (sDrop f)) := by
  refine ps_imp (ps_expr he hs) fun D σ H ⟨ρ, S, A, G, I, q⟩ => ⟨C.Pr, ρ, S, A, G, fun _ h => h, I, SGood.step q fun x S' q v H' p => ?_⟩
  obtain ⟨A', g, e, J, r⟩ := p
  exact q _ _ _ _ e.s J.pgw
theorem s_for (hp : PassesOwn (model X.prog X.w) X.A X.env X.xe) (hc : X.calm = true) (hi : PI X tg iter (tI C W true fi)) (hg : PG X tg g) (hgo : GOk C tf is g) (hb : PSs X body (tS C W s))
    (hs : ∀ x, foldedSetIterable iter X.env x = pure x := by intro _; rfl) : PS X (.For tg iter body [] pos) (tS C W (sFor fi tf s)) := by
  refine ps_imp (ps_for hp hc hi hg hb hs) fun D σ H ⟨ρ, S, A, G, I, q⟩ => ⟨C.Pr, ρ, S, A, G, fun _ h => h, I, SGood.step q fun xs S1 q J H1 p => ?_⟩
  obtain ⟨A1, e1, I1, wk⟩ := p
  have q := q.ext e1.s
  refine ⟨fun i m σ H' => m = xs.length - i ∧ i ≤ xs.length ∧ ∃ ρi Si Ai Gi, ExtS A1 G H1 Ai Gi H' ∧ Sim C ρi Si Ai Gi σ H' ∧ SGood C W A1 G H1 D (forL tf s (xs.drop i) ρi Si), ⟨xs.length - 0, rfl, Nat.zero_le _, ρ, S1, A1, G, ExtS.refl, I1, by rw [List.drop_zero]; exact q⟩, ?_⟩
  rintro i m σ H' ⟨rfl, hi, ρi, Si, Ai, Gi, ex, Is, qi⟩
  by_cases hlt : i < xs.length
  · have hx : xs[i]? = some xs[i] := List.getElem?_eq_getElem hlt
    obtain ⟨jgo, jy⟩ := wk.go C.Pr Ai Gi H' (fun a h => .inl h) ex (fun z => by cases z) (fun a z => Is.fsTrk z) i _ hx
    refine .inr ⟨jgo, fun σ' H'' => i + 1 ≤ xs.length ∧ ∃ ρi Si Ai Gi, ExtS A1 G H1 Ai Gi H'' ∧ Sim C ρi Si Ai Gi σ' H'' ∧ SGood C W A1 G H1 D (forL tf s (xs.drop (i + 1)) ρi Si), fun σ' H'' h => ⟨xs.length - (i + 1), by omega, rfl, h⟩, fun v H3 y => ?_⟩
    obtain ⟨hn, rx⟩ := jy v H3 y
    have e3 : Ext Ai H' Ai H3 := by
      rcases hn with rfl | ⟨p, o, hp, rfl⟩
      · exact Ext.refl
      · exact Ext.upd hp
    have I3 : Sim C ρi Si Ai Gi σ H3 := by
      rcases hn with rfl | ⟨p, o, hp, rfl⟩
      · exact Is
      · exact Is.new hp
    rw [List.drop_eq_getElem_cons hlt] at qi
    unfold forL at qi
    cases htf : tf xs[i] ρi with
    | none => rw [htf] at qi; exact qi.elim
    | some ρ' =>
    rw [htf] at qi
    simp only at qi
    refine hgo C.Pr ρi ρ' Si Ai Gi σ H3 _ v _ I3 rx htf fun σ2 I4 _ => ⟨ρ', Si, Ai, Gi, I4, ?_⟩
    have ex3 := ex.trans e3.s
    cases hb : s ρ' Si with
    | none => rw [hb] at qi; exact qi.elim
    | some r =>
      rw [hb] at qi
      cases r with
      | nx ρ2 S2 => exact fun A' G' σ' H'' x J' => ⟨hlt, ρ2, S2, A', G', ex3.trans x, J', qi⟩
      | ct ρ2 S2 => exact fun A' G' σ' H'' x J' => ⟨hlt, ρ2, S2, A', G', ex3.trans x, J', qi⟩
      | bk ρ2 S2 => exact fun A' G' σ' H'' x J' => qi A' G' σ' H'' (ex3.trans x) J'
      | rt z S2 => exact qi
      | exc c fs ρ2 S2 => exact fun A' G' σ' H'' cls d x J' r => qi A' G' σ' H'' cls d (ex3.trans x) J' r
  · rw [List.drop_eq_nil_of_le (by omega)] at qi
    exact .inl ⟨wk.stop Ai Gi H' ex (fun z => by cases z) i (by omega), qi Ai Gi σ H' ex Is⟩
theorem s_while (hp : PassesOwn (model X.prog X.w) X.A X.env X.xe) (hc : PT X e (tTs C W fc)) (hb : PSs X body (tS C W s)) : PS X (.While e body [] pos) (tS C W (sWhile fc s)) := by
  refine ps_imp (ps_while hp hc hb) fun D σ H ⟨ρ, S, A, G, I, q⟩ => ?_
  cases hw : sWhile fc s ρ S with
  | none => rw [hw] at q; exact q.elim
  | some r =>
  rw [hw] at q
  obtain ⟨n, hn⟩ := sWhile_some hw
  refine ⟨fun m σ H' => ∃ ρi Si Ai Gi, ExtS A G H Ai Gi H' ∧ Sim C ρi Si Ai Gi σ H' ∧ whileF fc s m ρi Si = some r, ⟨n, ρ, S, A, G, ExtS.refl, I, hn⟩, ?_⟩
  rintro m σ H' ⟨ρi, Si, Ai, Gi, ex, Is, hm⟩
  cases m with
  | zero => cases hm
  | succ m =>
  have qm : SGood C W A G H D (whileF fc s (m + 1) ρi Si) := by rw [hm]; exact q
  have qm := qm.ext ex
  unfold whileF at hm qm
  refine ⟨C.Pr, ρi, Si, Ai, Gi, fun _ h => h, Is, ?_⟩
  cases hcc : fc ρi Si with
  | none => rw [hcc] at hm; cases hm
  | some rc =>
  rw [hcc] at hm qm
  cases rc with
  | exc c fs S' => exact fun cls d H'' ⟨A', e, J, r⟩ => qm A' Gi σ H'' cls d e.s J r
  | ok k S1 =>
  simp only [bindS_ok] at hm qm
  rintro k' H2 ⟨rfl, A2, e2, I2⟩
  cases k' with
  | false => exact qm A2 Gi σ H2 e2.s I2
  | true =>
    simp only [if_true] at hm qm ⊢
    refine ⟨fun σ' H'' => ∃ ρi Si Ai Gi, ExtS A G H Ai Gi H'' ∧ Sim C ρi Si Ai Gi σ' H'' ∧ whileF fc s m ρi Si = some r, fun σ' H'' h => ⟨m, Nat.lt_succ_self m, h⟩, ρi, S1, A2, Gi, I2, ?_⟩
    have ex2 := ex.trans e2.s
    have qm := qm.ext e2.s
    cases hb : s ρi S1 with
    | none => rw [hb] at hm; cases hm
    | some rb =>
      rw [hb] at hm qm
      cases rb with
      | nx ρ2 S2 => exact fun A' G' σ' H'' x J' => ⟨ρ2, S2, A', G', ex2.trans x, J', hm⟩
      | ct ρ2 S2 => exact fun A' G' σ' H'' x J' => ⟨ρ2, S2, A', G', ex2.trans x, J', hm⟩
      | bk ρ2 S2 => exact qm
      | rt z S2 => exact qm
      | exc c fs ρ2 S2 => exact qm
end
end VL

end
section
set_option Elab.async false
set_option linter.all false
set_option maxRecDepth 100000
/-! VL9: what a def promises, by its function; the rule for a def; the rule for a call. -/
namespace VL
open PySem PySem.Spec PyProof.Rows L2

/-! ### the frame of a body -/
def rho0 (n : Nat) (xs : List SV) : Rho := xs.map some ++ List.replicate (n - xs.length) none
def runF (n : Nat) (fb : Rho → Sto → Option Fl) : List SV → Mo SV := fun xs S => match fb (rho0 n xs) S with
  | some (.nx _ S') => some (.ok (.d .none) S')
  | some (.rt x S') => some (.ok x S')
  | some (.exc c fs _ S') => some (.exc c fs S')
  | _ => none
/-- at the entry -/
structure Ent (C : Ct) (S : Sto) (xs : List SV) (vs : List V) : Prop where
  args : RsL C.K C.mg C.E0 C.A0 (fun a => a ∈ C.A0 ∨ C.Pr a) xs vs []
  ls : S.length = C.A0.length
  nd : C.A0.Nodup
  trk : ∀ a ∈ C.A0, C.E0 a ≠ none
  prot : ∀ a, C.Pr a → a ∉ C.A0 ∧ C.E0 a ≠ none
  sto : ∀ (n : Nat) xs, S[n]? = some xs → ∃ a vs, C.A0[n]? = some a ∧ C.E0 a = some (.lst vs) ∧ vs.length ≤ sizeLine ∧ RsL C.K C.mg C.E0 C.A0 (fun a => a ∈ C.A0 ∨ C.Pr a) xs vs []
def XP (C : Ct) (c : Str) (fs : List (Str × SV)) (S' : Sto) (cls : Value) (d : Option Addr) (H' : Hp) : Prop := ∃ A', RSto C A' [] S' H' ∧ XRep C H' c fs cls d
def CGood (C : Ct) (Q : VK) (E : XK) : Option (Res SV) → Prop
  | none => False
  | some (.ok x S') => ∀ v H', RPost C x S' v H' → Q v H'
  | some (.exc c fs S') => ∀ cls d H', XP C c fs S' cls d H' → E cls d H'
def spF (K : PySem.W.Frag) (mg : Str → Option Value) (n : Nat) (F : List SV → Mo SV) : Sp := fun vs H Q E => vs.length = n ∧ ∃ C xs S, C.K = K ∧ C.mg = mg ∧ C.E0 = H ∧ Ent C S xs vs ∧ CGood C Q E (F xs S)
theorem RsL.get2 {K : PySem.W.Frag} {mg : Str → Option Value} {H : Hp} {A : List Addr} {F : Addr → Prop} {xs : List SV} {vs : List V} {i : Nat} {x : SV} (r : RsL K mg H A F xs vs []) (h : xs[i]? = some x) : ∃ v, vs[i]? = some v ∧ Rs K mg H A F x v [] := RsL.get1 r h
theorem replicate_flatten_nil {α : Type} (n : Nat) : (List.replicate n ([] : List α)).flatten = [] := by induction n with
  | zero => rfl
  | succ n ih => simp [List.replicate_succ, ih]
theorem Ent.sim {C : Ct} {S : Sto} {xs : List SV} {vs : List V} {N : List Str} (e : Ent C S xs vs) (hl : xs.length ≤ N.length) : Sim C (rho0 N.length xs) S C.A0 (List.replicate N.length []) (L2.start N vs) C.E0 := by
  have hx : vs.length = xs.length := e.args.length
  have lr : (rho0 N.length xs).length = N.length := by unfold rho0; simp; omega
  have ls : (L2.start N vs).length = N.length := by unfold L2.start; simp; omega
  have hG : (List.replicate N.length ([] : List Addr)).flatten = [] := replicate_flatten_nil _
  have hF : Fs C C.A0 (List.replicate N.length []) = fun a => a ∈ C.A0 ∨ C.Pr a := by
    funext a
    unfold Fs
    rw [hG]
    simp
  refine ⟨List.prefix_refl _, lr.trans ls.symm, by simp [lr], e.ls, ?_, fun a m => ?_, fun a p => ?_, fun i x hi => ?_, fun n ys hn => ?_, fun a o q _ => q, fun a m => ?_, e.trk⟩
  · rw [hG, List.append_nil]; exact e.nd
  · rw [hG, List.append_nil] at m; exact e.trk a m
  · rw [hG, List.append_nil]; exact e.prot a p
  · unfold rho0 at hi
    by_cases h : i < xs.length
    · rw [List.getElem?_append_left (by simpa using h), List.getElem?_map] at hi
      cases q : xs[i]? with
      | none => rw [q] at hi; cases hi
      | some y =>
        rw [q] at hi
        simp only [Option.map_some, Option.some.injEq] at hi
        subst hi
        obtain ⟨v, hv, r⟩ := RsL.get1 e.args q
        refine ⟨v, [], ?_, by rw [hF]; exact r, List.nil_sublist _⟩
        unfold L2.start
        rw [List.getElem?_append_left (by simp; omega), List.getElem?_map, hv]
        rfl
    · rw [List.getElem?_append_right (by simpa using h), List.getElem?_replicate] at hi
      split at hi <;> cases hi
  · obtain ⟨a, us, e1, e2, l, r⟩ := e.sto n ys hn
    exact ⟨a, us, e1, e2, l, by rw [hF]; exact r⟩
  · rw [hG, List.append_nil] at m; exact .inl m
theorem Sim.rsto {C : Ct} {ρ : Rho} {S : Sto} {A : List Addr} {G : List (List Addr)} {σ : L2.St} {H : Hp} (I : Sim C ρ S A G σ H) : RSto C A [] S H := by
  have J : Sim (C.pr fun a => C.Pr a ∨ a ∈ ([] : List Addr)) ρ S A G σ H := I.prc fun a h => h.elim id fun m => by cases m
  exact RSto.of J List.nodup_nil fun a m => by cases m
/-- THE RULE for a def -/
theorem fn_vl {P : Program} {w : World} {K : PySem.W.Frag} {mg : Str → Option Value} {base : Heap} {x qual : Str} {params : Arguments} {body : List Stmt} {scope : Scope} {f : Addr} {fd : FuncData} {N ps : List Str} {k : Nat} {fb : Rho → Sto → Option Fl}
    (F : FunD K x qual params body scope [] [] f fd) (Sc : FnScope N ps scope) (hl : ps.length ≤ N.length)
    (hb : ∀ (cdv : Value) (A : Around) (outer : List Env) (s : Shared) (H : Hp) (E : XK), Room k (A.deeper (envOfC qual scope s.heap.objs.size f cdv)) → ∀ C : Ct, C.K = K → C.mg = mg →
      PSs (cxOf (L2.CX P w) P w K mg base N qual scope f cdv A outer s H E) body (tS C (fun cls d _ H => E cls d H) fb)) : FnOk P w K mg base (L2.CX P w) (k + 1) f fd ps (spF K mg ps.length (runF N.length fb)) := by
  refine F.ok Sc (fun vs H Q E h => h.1) fun cdv A outer s H vs Q E hr h => ?_
  obtain ⟨hlen, C, xs, S, hK, hm, rfl, e, q⟩ := h
  refine ⟨_, hb cdv A outer s C.E0 E hr C hK hm, rho0 N.length xs, S, C.A0, List.replicate N.length [], e.sim (by have := e.args.length; omega), ?_⟩
  unfold runF at q
  cases hf : fb (rho0 N.length xs) S with
  | none => rw [hf] at q; exact q.elim
  | some r =>
    rw [hf] at q
    cases r with
    | nx ρ' S' => exact fun A' G' σ' H' x J => q .non H' ⟨A', [], J.rsto, .d .non⟩
    | rt y S' => exact q
    | bk ρ' S' => exact q.elim
    | ct ρ' S' => exact q.elim
    | exc c fs ρ' S' => exact fun A' G' σ' H' cls d x J r => q cls d H' ⟨A', J.rsto, r⟩

/-! ### what is handed to a def: data, or a list that the def may change, made a shared one -/
def cvt : List Bool → List SV → Sto → Option (List SV × Sto)
  | _, [], S => some ([], S)
  | [], x :: xs, S => (frz x).bind fun y => (cvt [] xs S).map fun p => (y :: p.1, p.2)
  | false :: bs, x :: xs, S => (frz x).bind fun y => (cvt bs xs S).map fun p => (y :: p.1, p.2)
  | true :: bs, x :: xs, S => match x with
    | .own zs => (frzs zs).bind fun ys => (cvt bs xs (S ++ [ys])).map fun p => (.ref S.length :: p.1, p.2)
    | _ => (frz x).bind fun y => (cvt bs xs S).map fun p => (y :: p.1, p.2)
theorem Rs.frzF {K : PySem.W.Frag} {mg : Str → Option Value} {H : Hp} {A A' : List Addr} {F F1 : Addr → Prop} {x y : SV} {v : V} {g : List Addr} (hA : ∀ (n : Nat) a, A[n]? = some a → A'[n]? = some a) (hF : ∀ a, F a → F1 a) (r : Rs K mg H A F1 x v g) (hg : ∀ a ∈ g, ¬ F a) (h : VL.frz x = some y) : Rs K mg H A' F y v [] := by
  unfold VL.frz at h
  split at h
  · rename_i hn
    cases h
    obtain rfl := r.noOwn hn
    exact Rs.mono hA (fun a z => .inl (hF a z)) (fun a o q n => q) _ _ _ (fun a m o q => q) r
  · simp only [Option.map_eq_some_iff] at h
    obtain ⟨d, h, rfl⟩ := h
    exact .d (Rs.datO hF _ _ _ _ r h hg)
theorem RsL.frzF {K : PySem.W.Frag} {mg : Str → Option Value} {H : Hp} {A A' : List Addr} {F F1 : Addr → Prop} (hA : ∀ (n : Nat) a, A[n]? = some a → A'[n]? = some a) (hF : ∀ a, F a → F1 a) : ∀ {xs ys : List SV} {vs : List V} {g : List Addr}, RsL K mg H A F1 xs vs g → (∀ a ∈ g, ¬ F a) → VL.frzs xs = some ys → RsL K mg H A' F ys vs []
  | [], ys, _, _, r, _, h => by
    cases r
    cases h
    exact .nil
  | x :: xs, ys, _, _, r, hg, h => by
    cases r with
    | cons r1 r2 =>
      simp only [VL.frzs, Option.bind_eq_some_iff, Option.map_eq_some_iff] at h
      obtain ⟨y, hy, zs, hz, rfl⟩ := h
      exact .cons (g := []) (g' := []) (Rs.frzF hA hF r1 (fun a m => hg a (List.mem_append_left _ m)) hy) (RsL.frzF hA hF r2 (fun a m => hg a (List.mem_append_right _ m)) hz)
section
variable {K : PySem.W.Frag} {mg : Str → Option Value} {H : Hp} {A : List Addr} {F1 : Addr → Prop}
/-- what the lists that became shared ones are -/
structure Cvt (K : PySem.W.Frag) (mg : Str → Option Value) (H : Hp) (A : List Addr) (F1 : Addr → Prop) (S S2 : Sto) (ys : List SV) (vs : List V) (gs as : List Addr) (es : Sto) : Prop where
  sto : S2 = S ++ es
  len : as.length = es.length
  sub : as.Sublist gs
  to : ∀ (F : Addr → Prop) (A2 : List Addr), (∀ a, F a → F1 a) → (∀ a ∈ gs, F a → a ∈ as) → (∀ (n : Nat) a, A[n]? = some a → A2[n]? = some a) → (∀ (j : Nat) a, as[j]? = some a → A2[S.length + j]? = some a) →
    RsL K mg H A2 F ys vs [] ∧ ∀ (j : Nat) e, es[j]? = some e → ∃ a us, as[j]? = some a ∧ H a = some (.lst us) ∧ us.length ≤ sizeLine ∧ RsL K mg H A2 F e us []
theorem Cvt.frz {S S2 : Sto} {x y : SV} {ys : List SV} {v : V} {vs : List V} {g gs as : List Addr} {es : Sto} (h : Cvt K mg H A F1 S S2 ys vs gs as es) (r : Rs K mg H A F1 x v g) (nd : (g ++ gs).Nodup) (hf : VL.frz x = some y) : Cvt K mg H A F1 S S2 (y :: ys) (v :: vs) (g ++ gs) as es := by
  have hd : ∀ a ∈ g, a ∉ as := fun a m z => (List.nodup_append.mp nd).2.2 a m a (h.sub.subset z) rfl
  refine ⟨h.sto, h.len, h.sub.trans (List.sublist_append_right _ _), fun F A2 hF hg hA hs => ?_⟩
  obtain ⟨r2, q⟩ := h.to F A2 hF (fun a m z => hg a (List.mem_append_right _ m) z) hA hs
  exact ⟨.cons (g := []) (g' := []) (Rs.frzF hA hF r (fun a m z => hd a m (hg a (List.mem_append_left _ m) z)) hf) r2, q⟩
theorem cvt_ok : ∀ (bs : List Bool) (xs : List SV) (S : Sto) (ys : List SV) (S2 : Sto) (vs : List V) (gs : List Addr), cvt bs xs S = some (ys, S2) → RsL K mg H A F1 xs vs gs → gs.Nodup → ∃ as es, Cvt K mg H A F1 S S2 ys vs gs as es := by
  intro bs xs
  induction xs generalizing bs with
  | nil =>
    intro S ys S2 vs gs h r nd
    cases r
    cases bs <;> (simp only [cvt, Option.some.injEq, Prod.mk.injEq] at h; obtain ⟨rfl, rfl⟩ := h; exact ⟨[], [], (List.append_nil _).symm, rfl, List.Sublist.refl _, fun F A2 _ _ _ _ => ⟨.nil, fun j e h => by simp at h⟩⟩)
  | cons x xs ih =>
    intro S ys S2 vs gs h r nd
    cases r with
    | cons r1 r2 =>
    rename_i v vs g gs
    have nd2 := (List.nodup_append.mp nd).2.1
    have fz : ∀ bs', ((VL.frz x).bind fun y => (cvt bs' xs S).map fun p => (y :: p.1, p.2)) = some (ys, S2) → ∃ as es, Cvt K mg H A F1 S S2 ys (v :: vs) (g ++ gs) as es := fun bs' h' => by
      simp only [Option.bind_eq_some_iff, Option.map_eq_some_iff] at h'
      obtain ⟨y, hy, ⟨ys', S'⟩, h', e⟩ := h'
      obtain ⟨rfl, rfl⟩ := Prod.mk.inj e
      obtain ⟨as, es, q⟩ := ih bs' S ys' S' vs gs h' r2 nd2
      exact ⟨as, es, q.frz r1 nd hy⟩
    cases bs with
    | nil => exact fz [] h
    | cons b bs =>
      cases b with
      | false => exact fz bs h
      | true =>
        cases x with
        | d _ => exact fz bs h
        | ref _ => exact fz bs h
        | fn _ => exact fz bs h
        | scr _ => exact fz bs h
        | dic _ _ => exact fz bs h
        | own zs =>
          simp only [cvt, Option.bind_eq_some_iff, Option.map_eq_some_iff] at h
          obtain ⟨zs', hz, ⟨ys', S'⟩, h, e⟩ := h
          obtain ⟨rfl, rfl⟩ := Prod.mk.inj e
          cases r1 with
          | own e1 l r1 =>
          rename_i a us g
          obtain ⟨as, es, q⟩ := ih bs (S ++ [zs']) ys' S' vs gs h r2 nd2
          have n := List.nodup_append.mp nd
          have nh : a ∉ g := (List.nodup_cons.mp n.1).1
          refine ⟨a :: as, zs' :: es, by rw [q.sto, List.append_assoc]; rfl, by simp [q.len], ?_, fun F A2 hF hg hA hs => ?_⟩
          · exact (List.Sublist.cons_cons a (q.sub.trans (List.sublist_append_right _ _)))
          · have hg2 : ∀ b ∈ g, ¬ F b := fun b m z => by
              rcases List.mem_cons.mp (hg b (List.mem_append_left _ (List.mem_cons_of_mem _ m)) z) with rfl | z
              · exact nh m
              · exact n.2.2 b (List.mem_cons_of_mem _ m) b (q.sub.subset z) rfl
            obtain ⟨q1, q2⟩ := q.to F A2 hF (fun b m z => by
              rcases List.mem_cons.mp (hg b (List.mem_append_right _ m) z) with rfl | z
              · exact absurd rfl (n.2.2 b List.mem_cons_self b m)
              · exact z) hA (fun j b hj => by
              have := hs (j + 1) b (by simpa using hj)
              rw [List.length_append, List.length_singleton, Nat.add_assoc, Nat.add_comm 1 j]
              exact this)
            refine ⟨.cons (g := []) (g' := []) (.ref (by simpa using hs 0 a rfl)) q1, fun j e hj => ?_⟩
            cases j with
            | zero =>
              simp only [List.getElem?_cons_zero, Option.some.injEq] at hj
              subst hj
              exact ⟨a, us, rfl, e1, l, RsL.frzF hA hF r1 hg2 hz⟩
            | succ j => simpa using q2 j e (by simpa using hj)
end
/-- new lists are left alone from here on -/
theorem Sim.extP {C : Ct} {ρ : Rho} {S S' : Sto} {A A' : List Addr} {G : List (List Addr)} {σ : L2.St} {H H' : Hp} {g : List Addr} (I : Sim C ρ S A G σ H) (x : Ext A H A' H') (hg : ∀ a ∈ g, H a = none ∧ H' a ≠ none ∧ a ∉ A') (ls : S'.length = A'.length) (nd : A'.Nodup) (trk : ∀ a ∈ A', H' a ≠ none)
    (sto : ∀ (n : Nat) xs, S'[n]? = some xs → ∃ a vs, A'[n]? = some a ∧ H' a = some (.lst vs) ∧ vs.length ≤ sizeLine ∧ RsL C.K C.mg H' A' (fun a => Fs C A' G a ∨ a ∈ g) xs vs []) : Sim (C.pr fun a => C.Pr a ∨ a ∈ g) ρ S' A' G σ H' := by
  have J : Sim C ρ S' A' G σ H' := I.ext x ls nd trk fun n xs e => by
    obtain ⟨a, vs, e1, e2, l, r⟩ := sto n xs e
    exact ⟨a, vs, e1, e2, l, RsL.mono (fun _ _ q => q) (fun a z => .inl (.inl z)) (fun a o q n => q) _ _ _ (fun a m o q => q) r⟩
  have hF : ∀ a, Fs (C.pr fun a => C.Pr a ∨ a ∈ g) A' G a ↔ (Fs C A' G a ∨ a ∈ g) := fun a => by
    constructor
    · rintro (z | z | z | z)
      · exact .inl (.inl z)
      · exact .inl (.inr (.inl z))
      · exact .inl (.inr (.inr z))
      · exact .inr z
    · rintro ((z | z | z) | z)
      · exact .inl z
      · exact .inr (.inl z)
      · exact .inr (.inr (.inl z))
      · exact .inr (.inr (.inr z))
  refine ⟨J.pre, J.lr, J.lg, J.ls, J.nd, J.trk, fun a q => ?_, fun i y e => ?_, fun n xs e => ?_, J.frame, J.fresh, J.a0⟩
  · rcases q with q | q
    · exact J.prot a q
    · refine ⟨fun z => ?_, (hg a q).2.1⟩
      rcases List.mem_append.mp z with z | z
      · exact (hg a q).2.2 z
      · exact I.trk a (List.mem_append_right _ z) (hg a q).1
  · obtain ⟨v, g', e1, r, sb⟩ := I.slots i y e
    refine ⟨v, g', e1, Rs.mono (prefix_get x.pre) (fun a z => ?_) (fun a o q n => x.keep a o q fun z => n (.inl z)) _ _ _ (fun a m o q => ?_) r, sb⟩
    · rcases (hF a).mp z with z | z
      · exact fs_ext x a z
      · exact .inr (hg a z).1
    · exact x.keep a o q fun z => (List.nodup_append.mp I.nd).2.2 a z a (getD_mem (sb.subset m)) rfl
  · obtain ⟨a, vs, e1, e2, l, r⟩ := sto n xs e
    exact ⟨a, vs, e1, e2, l, RsL.mono (fun _ _ q => q) (fun a z => .inl ((hF a).mp z)) (fun a o q n => q) _ _ _ (fun a m o q => q) r⟩

/-! ### a call -/
def eCall (n : Nat) (F : List SV → Mo SV) (bs : List Bool) (fs : Rho → Mo (List SV)) : Rho → Mo SV := fun ρ S => bindM (fs ρ S) fun xs S1 => if xs.length = n then (cvt bs xs S1).bind fun p => F p.1 p.2 else none
theorem prefix_app_get {A as : List Addr} : ∀ (j : Nat) a, as[j]? = some a → (A ++ as)[A.length + j]? = some a := fun j a h => by rw [List.getElem?_append_right (by omega)]; simpa using h
theorem t_call {C : Ct} {W : WX} {kd : Kd} {n : Nat} {F : List SV → Mo SV} {bs : List Bool} {fs : Rho → Mo (List SV)} : ∀ σ H Q, tV C W kd (eCall n F bs fs) σ H Q → tVs C W .fe fs σ H fun vs H1 => spF C.K C.mg n F vs H1 Q (WE W σ) := by
  intro σ H Q ⟨P, ρ, S, A, G, hP, I, q⟩
  refine ⟨P, ρ, S, A, G, hP, I, EGood.step q (fun _ _ _ _ _ _ z => z) fun xs S1 q vs H1 p => ?_⟩
  obtain ⟨A1, gs, e1, I1, r, nd, hgs⟩ := p
  split at q
  case isFalse => exact q.elim
  rename_i hn
  have hn : vs.length = n := r.length.trans hn
  cases hc : cvt bs xs S1 with
  | none => rw [hc] at q; exact q.elim
  | some p =>
  obtain ⟨ys, S2⟩ := p
  rw [hc] at q
  simp only [Option.bind_some] at q
  obtain ⟨as, es, c⟩ := cvt_ok bs xs S1 ys S2 vs gs hc r nd
  obtain ⟨rfl, cl, csub, cto⟩ := c
  have hA1 : S1.length = A1.length := I1.ls
  have nG : ∀ a ∈ gs, a ∉ G.flatten := fun a m z => I.trk a (List.mem_append_right _ z) (hgs a m).1
  have nP : ∀ a ∈ gs, ¬ P a := fun a m z => (I.prot a z).2 (hgs a m).1
  -- the state, the new shared lists among the store's
  have hF1 : ∀ a, Fs (C.pr P) (A1 ++ as) G a → (Fs (C.pr P) A1 G a ∨ a ∈ gs) := fun a z => by
    rcases z with z | z
    · rcases List.mem_append.mp z with z | z
      · exact .inl (.inl z)
      · exact .inr (csub.subset z)
    · exact .inl (.inr z)
  have hF2 : ∀ a ∈ gs, Fs (C.pr P) (A1 ++ as) G a → a ∈ as := fun a m z => by
    rcases z with z | z | z
    · exact (List.mem_append.mp z).elim (fun z => absurd z (hgs a m).2.2) id
    · exact absurd z (nG a m)
    · exact absurd z (nP a m)
  obtain ⟨ra, rs⟩ := cto (Fs (C.pr P) (A1 ++ as) G) (A1 ++ as) hF1 hF2 (fun n a h => by rw [List.getElem?_append_left (List.getElem?_eq_some_iff.mp h).1]; exact h) (fun j a h => by rw [hA1]; exact prefix_app_get j a h)
  have e2 : Ext A H (A1 ++ as) H1 := ⟨e1.pre.trans (List.prefix_append _ _), fun a z => by
    rcases List.mem_append.mp z with z | z
    · exact e1.new a z
    · exact .inr (hgs a (csub.subset z)).1, e1.keep, e1.there⟩
  have ndA : (A1 ++ as).Nodup := List.nodup_append.mpr ⟨(List.nodup_append.mp I1.nd).1, nd.sublist csub, fun a z b z' e => by subst e; exact (hgs a (csub.subset z')).2.2 z⟩
  have I2 : Sim (C.pr P) ρ (S1 ++ es) (A1 ++ as) G σ H1 := by
    refine I.ext e2 (by simp [hA1, cl]) ndA (fun a z => ?_) fun k zs hk => ?_
    · rcases List.mem_append.mp z with z | z
      · exact I1.trk a (List.mem_append_left _ z)
      · exact (hgs a (csub.subset z)).2.1
    · by_cases hlt : k < S1.length
      · rw [List.getElem?_append_left hlt] at hk
        obtain ⟨a, us, q1, q2, l, rr⟩ := I1.sto k zs hk
        refine ⟨a, us, by rw [List.getElem?_append_left (by omega)]; exact q1, q2, l, RsL.mono (fun n a h => by rw [List.getElem?_append_left (List.getElem?_eq_some_iff.mp h).1]; exact h) (fun a z => .inl ?_) (fun a o q n => q) _ _ _ (fun a m o q => q) rr⟩
        rcases hF1 a z with (z | z | z) | z
        · exact .inl z
        · exact .inr (.inl z)
        · exact .inr (.inr (.inl z))
        · exact .inr (.inr (.inr z))
      · rw [List.getElem?_append_right (by omega)] at hk
        obtain ⟨a, us, q1, q2, l, rr⟩ := rs _ zs hk
        refine ⟨a, us, ?_, q2, l, rr⟩
        have := prefix_app_get (A := A1) _ _ q1
        rw [← hA1, show S1.length + (k - S1.length) = k by omega] at this
        exact this
  -- the callee
  refine ⟨hn, ⟨C.K, C.mg, H1, A1 ++ as, fun a => a ∈ G.flatten ∨ P a⟩, ys, S1 ++ es, rfl, rfl, rfl, ⟨ra, I2.ls, ndA, fun a z => I2.trk a (List.mem_append_left _ z), fun a z => ?_, I2.sto⟩, ?_⟩
  · rcases z with z | z
    · exact ⟨fun m => (List.nodup_append.mp I2.nd).2.2 a m a z rfl, I2.trk a (List.mem_append_right _ z)⟩
    · exact ⟨fun m => (I2.prot a z).1 (List.mem_append_left _ m), (I2.prot a z).2⟩
  have ext : ∀ A' g S' H', RSto ⟨C.K, C.mg, H1, A1 ++ as, fun a => a ∈ G.flatten ∨ P a⟩ A' g S' H' → Ext (A1 ++ as) H1 A' H' ∧ Sim ((C.pr P).pr fun a => (C.pr P).Pr a ∨ a ∈ g) ρ S' A' G σ H' ∧ g.Nodup ∧ ∀ a ∈ g, H1 a = none ∧ H' a ≠ none ∧ a ∉ A' := fun A' g S' H' R => by
    have x : Ext (A1 ++ as) H1 A' H' := ⟨R.pre, fun a z => (R.trk a (List.mem_append_left _ z)).2, R.frame, R.there⟩
    have hg : ∀ a ∈ g, H1 a = none ∧ H' a ≠ none ∧ a ∉ A' := fun a m => ⟨R.own a m, (R.trk a (List.mem_append_right _ m)).1, fun z => (List.nodup_append.mp R.nd).2.2 a z a m rfl⟩
    refine ⟨x, I2.extP x hg R.ls (List.nodup_append.mp R.nd).1 (fun a z => (R.trk a (List.mem_append_left _ z)).1) fun k zs hk => ?_, (List.nodup_append.mp R.nd).2.1, hg⟩
    obtain ⟨a, us, q1, q2, l, rr⟩ := R.sto k zs hk
    refine ⟨a, us, q1, q2, l, RsL.mono (fun _ _ q => q) (fun a z => .inl ?_) (fun a o q n => q) _ _ _ (fun a m o q => q) rr⟩
    rcases z with (z | z) | z
    · exact .inl z
    · exact .inr (.inr z)
    · exact .inr (.inl z)
  cases hf : F ys (S1 ++ es) with
  | none => rw [hf] at q; exact q.elim
  | some rr =>
  rw [hf] at q
  cases rr with
  | ok x S' =>
    rintro v H' ⟨A', g, R, rx⟩
    obtain ⟨x2, J, ndg, hg⟩ := ext A' g S' H' R
    refine q v H' (EPost.be (kd := kd) ⟨A', g, e2.trans x2, J, Rs.mono (fun _ _ q => q) (fun a z => .inl ?_) (fun a o q n => q) _ _ _ (fun a m o q => q) rx, ndg, fun a m => ⟨none_back e2 (hg a m).1, (hg a m).2⟩⟩)
    rcases z with (z | z | z) | z
    · exact .inl z
    · exact .inr (.inr (.inl z))
    · exact .inr (.inr (.inr z))
    · exact .inr (.inl z)
  | exc c fs S' =>
    rintro cls d H' ⟨A', R, rx⟩
    obtain ⟨x2, J, _, _⟩ := ext A' [] S' H' R
    exact q cls d H' ⟨A', e2.trans x2, Sim.prw (C := C) (P := fun a => (C.pr P).Pr a ∨ a ∈ ([] : List Addr)) J fun a z => .inl (hP a z), rx⟩
end VL

end
section
set_option Elab.async false
set_option linter.all false
set_option maxRecDepth 100000
/-! VL10: calls by name, by a local; what is frozen; raise; try. -/
namespace VL
open PySem PySem.Spec PyProof.Rows L2

/-- a def of the module, what it does -/
structure DefOk (P : Program) (w : World) (K : PySem.W.Frag) (mg : Str → Option Value) (base : Heap) (k : Nat) (x : Str) (n : Nat) (F : List SV → Mo SV) : Prop where
  ex : ∃ (f : Addr) (fd : FuncData) (ps : List Str), FnOk P w K mg base (L2.CX P w) k f fd ps (spF K mg n F) ∧ mg x = some (.ref f) ∧ PySem.W.keepIn K (.ref f) = true ∧ Binds K fd ps []
section
variable {X : Cx} {C : Ct} {W : WX} {kd ka kb : Kd} {e a b c : Expr} {es : List Expr} {pos : Pos} {f fa fb fc : Rho → Mo SV} {fs : Rho → Mo (List SV)} {n k : Nat} {x : Str} {Fn : List SV → Mo SV} {bs : List Bool}
theorem takes0 {X : Cx} : Takes X WF := fun u s' ⟨a, B, sI, pins, σ, H, cls, d, _, _, _, _, _, _, _, _, w⟩ => w.elim
theorem v_call {p : Pos} (D : DefOk X.prog X.w X.K X.mg X.base k x n Fn) (hK : C.K = X.K) (hM : C.mg = X.mg) (hr : Room k X.A) (hg : Gl X x) (tk : Takes X W) (ha : PA X (e :: es) (tVs C W .fe fs))
    (hdb : (x == ("__debug__" : Str)) = false := by decide) (he : starEach (e :: es) X.env = (false, eval e X.env) :: starEach es X.env := by rfl) (hpl : (backTo pos (starEach es X.env)).any (·.1) = false := by rfl) :
    PE X (.Call (.Name x p) (e :: es) [] pos) (tV C W kd (eCall n Fn bs fs)) := by
  obtain ⟨f, fd, ps, F, hm, hk, hb⟩ := D.ex
  refine pe_imp (pe_callS F hr hg hm hk hb (passAt tk) ha hdb he hpl) fun σ H Q q => ?_
  have h := t_call (n := n) (kd := kd) σ H Q q
  rw [hK, hM] at h
  exact h
/-- f() -/
theorem v_call0 {p : Pos} (D : DefOk X.prog X.w X.K X.mg X.base k x 0 Fn) (hK : C.K = X.K) (hM : C.mg = X.mg) (hr : Room k X.A) (hg : Gl X x) (tk : Takes X W) (hdb : (x == ("__debug__" : Str)) = false := by decide) :
    PE X (.Call (.Name x p) [] [] pos) (tV C W kd (eCall 0 Fn [] fun _ S => some (.ok [] S))) := by
  obtain ⟨f, fd, ps, F, hm, hk, hb⟩ := D.ex
  refine ⟨fun pins s σ H Q I h => ?_⟩
  have h := t_call (n := 0) (kd := kd) σ H Q h
  rw [hK, hM] at h
  obtain ⟨P, ρ, S, A, G, hP, J, q⟩ := h
  refine wpAny_Call_Name_kw (ld_glob I hg hm ?_ hdb)
  exact PySem.W.callWith_K0 I.kIn hk (run_fnS (us := []) F hr hb (passAt tk σ) I .nil (q [] H ⟨A, [], Ext.refl, J.pg0, .nil, List.nodup_nil, fun a m => by cases m⟩))
/-- a local that holds a def -/
def eCallL (i n : Nat) (D : List (Str × (List SV → Mo SV))) (bs : List Bool) (fs : Rho → Mo (List SV)) : Rho → Mo SV := fun ρ S => match ρ[i]? with
  | some (some (.fn x)) => (D.lookup x).bind fun Fn => eCall n Fn bs fs ρ S
  | _ => none
theorem v_callL {p : Pos} {i : Nat} {D : List (Str × (List SV → Mo SV))} (hD : ∀ x Fn, D.lookup x = some Fn → DefOk X.prog X.w X.K X.mg X.base k x n Fn) (hK : C.K = X.K) (hM : C.mg = X.mg) (hr : Room k X.A) (hN : X.N[i]? = some x) (hv : Vis X.env.scope x) (tk : Takes X W) (ha : PA X (e :: es) (tVs C W .fe fs))
    (hdb : (x == ("__debug__" : Str)) = false := by decide) (hcd : (x == ("__classdict__" : Str)) = false := by decide) (he : starEach (e :: es) X.env = (false, eval e X.env) :: starEach es X.env := by rfl) (hpl : (backTo pos (starEach es X.env)).any (·.1) = false := by rfl) :
    PE X (.Call (.Name x p) (e :: es) [] pos) (tV C W kd (eCallL i n D bs fs)) := by
  refine ⟨fun pins s σ H Q I h => ?_⟩
  obtain ⟨P, ρ, S, A, G, hP, J, q⟩ := h
  unfold eCallL at q
  split at q
  case h_2 => exact q.elim
  rename_i y hy
  cases hl : D.lookup y with
  | none => rw [hl] at q; exact q.elim
  | some Fn =>
  rw [hl] at q
  simp only [Option.bind_some] at q
  obtain ⟨f, fd, ps, F, hm, hk, hb⟩ := (hD y Fn hl).ex
  obtain ⟨v, g, e1, r, _⟩ := J.slots i _ hy
  have hv1 : v = .ref f := by
    cases r with
    | fn h =>
      have h : C.mg y = some (.ref _) := h
      rw [hM, hm] at h
      cases h
      rfl
  subst hv1
  have h := t_call (n := n) (kd := kd) σ H Q ⟨P, ρ, S, A, G, hP, J, q⟩
  rw [hK, hM] at h
  refine wpAny_Call_Name_kw (thn ((pe_var (pos := p) hN hv hdb hcd).run pins s σ H (fun v H1 => v = .ref f ∧ H1 = H) I ⟨.ref f, e1, rfl, rfl⟩) fun u s1 ⟨v, H1, I1, r1, q1⟩ => ?_)
  obtain ⟨rfl, rfl⟩ := q1
  cases r1
  refine PySem.W.callWith_K (h₀ := X.base) I.ok.mod.kin hk (thn (ha.run pos pins s1 σ _ _ I1 h) fun us s2 ⟨vs, H2, I2, r, q⟩ => ⟨I2.kIn, ?_⟩) he hpl
  exact run_fnS F hr hb (passAt tk σ) I2 r q
/-! ### what is frozen -/
def eFrz (f : Rho → Mo SV) : Rho → Mo SV := fun ρ S => bindM (f ρ S) fun x S1 => (frz x).map fun y => .ok y S1
theorem noOwn_frz {x y : SV} (h : frz x = some y) : noOwn y = true := by
  unfold frz at h
  split at h
  · rename_i hn; cases h; exact hn
  · simp only [Option.map_eq_some_iff] at h
    obtain ⟨d, _, rfl⟩ := h
    rfl
theorem v_frz (h : PE X e (tV C W .fe f)) : PE X e (tV C W kd (eFrz f)) := by
  refine pe_imp h fun σ H Q ⟨P, ρ, S, A, G, hP, I, q⟩ => ⟨P, ρ, S, A, G, hP, I, EGood.step q (fun _ _ _ _ _ _ z => z) fun x S1 q v H1 p => ?_⟩
  obtain ⟨A1, g, e1, I1, r⟩ := p
  cases hf : frz x with
  | none => rw [hf] at q; exact q.elim
  | some y =>
    rw [hf] at q
    refine q v H1 ⟨A1, [], e1, (I1.pgw).pg0, Rk.noOwn (C := C.pr P) (r.frz (C := C.pr P) (new_not1 (P := P) (S1 := S1) I r) hf) (noOwn_frz hf)⟩
/-- a slot's list becomes data for good -/
def ghF (is : List Nat) (s : Rho → Sto → Option Fl) : Rho → Sto → Option Fl := fun ρ S => match is with
  | [] => s ρ S
  | i :: r => match ρ[i]? with
    | some (some x) => match frz x with
      | some y => ghF r s (ρ.set i (some y)) S
      | none => none
    | _ => none
/-- a slot's list becomes a shared one -/
def ghA (i : Nat) (s : Rho → Sto → Option Fl) : Rho → Sto → Option Fl := fun ρ S => match ρ[i]? with
  | some (some (.own zs)) => (frzs zs).bind fun ys => s (ρ.set i (some (.ref S.length))) (S ++ [ys])
  | _ => none
end
section
variable {C : Ct} {ρ : Rho} {S : Sto} {A : List Addr} {G : List (List Addr)} {σ : L2.St} {H : Hp}
theorem flatten_set_nil {G : List (List Addr)} {i : Nat} : (G.set i []).flatten.Sublist G.flatten := by
  induction G generalizing i with
  | nil => exact List.Sublist.refl _
  | cons l G ih =>
    cases i with
    | zero => simp
    | succ i => simpa using List.Sublist.append_left ih l
/-- a slot is let go of -/
theorem Sim.drop (I : Sim C ρ S A G σ H) (i : Nat) : Sim (C.pr fun a => C.Pr a ∨ a ∈ G[i]?.getD []) (ρ.set i none) S A (G.set i []) σ H := by
  have sub := flatten_set_nil (G := G) (i := i)
  have hg : ∀ a ∈ G[i]?.getD [], a ∉ (G.set i []).flatten ∧ a ∈ G.flatten := fun a m => by
    refine ⟨fun z => ?_, getD_mem m⟩
    obtain ⟨l, hl, hz⟩ := List.mem_flatten.mp z
    obtain ⟨j, hj⟩ := List.getElem?_of_mem hl
    have nd := (List.nodup_append.mp I.nd).2.1
    cases hG : G[i]? with
    | none => rw [hG] at m; cases m
    | some g =>
      rw [hG] at m
      by_cases e : j = i
      · subst e
        rw [List.getElem?_set_self (List.getElem?_eq_some_iff.mp hG).1] at hj
        cases hj
        cases hz
      · rw [List.getElem?_set_ne (Ne.symm e)] at hj
        have pw := (List.pairwise_flatten.mp nd).2
        rw [List.pairwise_iff_getElem] at pw
        obtain ⟨h1, e1⟩ := List.getElem?_eq_some_iff.mp hG
        obtain ⟨h2, e2⟩ := List.getElem?_eq_some_iff.mp hj
        rcases Nat.lt_or_gt_of_ne e with lt | lt
        · exact pw j i h2 h1 lt a (by rw [e2]; exact hz) a (by rw [e1]; exact m) rfl
        · exact pw i j h1 h2 lt a (by rw [e1]; exact m) a (by rw [e2]; exact hz) rfl
  have hF : ∀ a, Fs (C.pr fun a => C.Pr a ∨ a ∈ G[i]?.getD []) A (G.set i []) a → Fs C A G a := fun a z => by
    rcases z with z | z | z | z
    · exact .inl z
    · exact .inr (.inl (sub.subset z))
    · exact .inr (.inr z)
    · exact .inr (.inl (hg a z).2)
  refine ⟨I.pre, by simp [I.lr], by simp [I.lg], I.ls, I.nd.sublist (List.Sublist.append_left sub A), fun a m => I.trk a ((List.Sublist.append_left sub A).subset m), fun a q => ?_, fun j x e => ?_, fun n xs e => ?_, I.frame, fun a m => I.fresh a ((List.Sublist.append_left sub A).subset m), I.a0⟩
  · rcases q with q | q
    · exact ⟨fun z => (I.prot a q).1 ((List.Sublist.append_left sub A).subset z), (I.prot a q).2⟩
    · refine ⟨fun z => ?_, I.trk a (List.mem_append_right _ (hg a q).2)⟩
      rcases List.mem_append.mp z with z | z
      · exact (List.nodup_append.mp I.nd).2.2 a z a (hg a q).2 rfl
      · exact (hg a q).1 z
  · by_cases hj : j = i
    · subst hj
      rw [List.getElem?_set] at e
      split at e
      · split at e <;> cases e
      · rename_i h; exact absurd rfl h
    · rw [List.getElem?_set_ne (Ne.symm hj)] at e
      obtain ⟨v, g, e1, r, sb⟩ := I.slots j x e
      exact ⟨v, g, e1, Rs.mono (fun _ _ q => q) (fun a z => .inl (hF a z)) (fun a o q n => q) _ _ _ (fun a m o q => q) r, by rw [List.getElem?_set_ne (Ne.symm hj)]; exact sb⟩
  · obtain ⟨a, vs, e1, e2, l, r⟩ := I.sto n xs e
    exact ⟨a, vs, e1, e2, l, RsL.mono (fun _ _ q => q) (fun a z => .inl (hF a z)) (fun a o q n => q) _ _ _ (fun a m o q => q) r⟩
theorem set_same {σ : L2.St} {i : Nat} {v : V} (h : σ[i]? = some (some v)) : σ.set i (some v) = σ := by
  obtain ⟨h1, h2⟩ := List.getElem?_eq_some_iff.mp h
  apply List.ext_getElem?
  intro j
  by_cases e : j = i
  · subst e; rw [List.getElem?_set_self h1, h]
  · rw [List.getElem?_set_ne (Ne.symm e)]
theorem Sim.frz (I : Sim C ρ S A G σ H) {i : Nat} {x y : SV} (h : ρ[i]? = some (some x)) (hf : VL.frz x = some y) : Sim C (ρ.set i (some y)) S A (G.set i []) σ H := by
  obtain ⟨v, g, e1, r, sb⟩ := I.slots i x h
  have J := I.drop i
  have J0 : Sim C (ρ.set i none) S A (G.set i []) σ H := J.prw fun a z => .inl z
  have r2 : Rs C.K C.mg H A (Fs C A (G.set i [])) y v [] := Rs.frzF (fun _ _ q => q) (fun a z => by
    rcases z with z | z | z
    · exact .inl z
    · exact .inr (.inl (flatten_set_nil.subset z))
    · exact .inr (.inr z)) r (fun a m z => by
    have hp := (J.prot a (.inr (sb.subset m))).1
    rcases z with z | z | z
    · exact hp (List.mem_append_left _ z)
    · exact hp (List.mem_append_right _ z)
    · exact (I.prot a z).1 (List.mem_append_right _ (getD_mem (sb.subset m)))) hf
  have K := J0.putV (i := i) r2
  rw [List.set_set, set_same e1] at K
  exact K
theorem set_ext {i : Nat} : ExtS A G H A (G.set i []) H := ⟨List.prefix_refl _, fun a m => .inl ((List.Sublist.append_left flatten_set_nil A).subset m), fun _ _ h _ => h, fun _ h => h⟩
theorem t_ghF {C : Ct} {W : WX} {s : Rho → Sto → Option Fl} : ∀ (is : List Nat) (D : Ends) (σ : L2.St) (H : Hp), tS C W (ghF is s) D σ H → tS C W s D σ H
  | [], D, σ, H, h => by
    obtain ⟨ρ, S, A, G, I, q⟩ := h
    unfold ghF at q
    exact ⟨ρ, S, A, G, I, q⟩
  | i :: r, D, σ, H, h => by
    obtain ⟨ρ, S, A, G, I, q⟩ := h
    unfold ghF at q
    split at q
    · rename_i x hx
      split at q
      · rename_i y hy
        exact t_ghF r D σ H ⟨_, S, A, _, I.frz hx hy, q.ext set_ext⟩
      · exact q.elim
    · exact q.elim
theorem ss_ghF {X : Cx} {C : Ct} {W : WX} {sts : List Stmt} {s : Rho → Sto → Option Fl} (is : List Nat) (h : PSs X sts (tS C W s)) : PSs X sts (tS C W (ghF is s)) := pss_imp h (t_ghF is)
theorem s_ghF {X : Cx} {C : Ct} {W : WX} {st : Stmt} {s : Rho → Sto → Option Fl} (is : List Nat) (h : PS X st (tS C W s)) : PS X st (tS C W (ghF is s)) := ps_imp h (t_ghF is)
end
section
variable {X : Cx} {C : Ct} {W : WX} {e : Expr} {pos : Pos} {x : Str}
/-! ### raise X() -/
structure ExcOk (K : PySem.W.Frag) (mg : Str → Option Value) (x : Str) : Prop where
  ex : ∃ Ca, mg x = some (.ref Ca) ∧ PySem.W.excIn K Ca [.type "ValueError", .type "Exception", .type "BaseException", .type "object"] "ValueError.__new__" = true ∧ PySem.W.keepIn K (.ref Ca) = true ∧ PySem.W.subIn K (.ref Ca) (.type "BaseException") = some true ∧ PySem.W.typeIn K (.ref Ca) = some (.type "type")
theorem pmk_own0 {Ca : Addr} {bmB : List Value} {B newId initId : String} {p : Pos} (F : ExcBaseFacts B newId initId bmB) (q : PySem.W.excIn X.K Ca bmB newId = true) (gC : X.mg x = some (.ref Ca)) (kC : PySem.W.keepIn X.K (.ref Ca) = true) (r : Raises X (.ref Ca)) (hg : Gl X x)
    (hdb : (x == ("__debug__" : Str)) = false := by decide) : PMk X (.Call (.Name x p) [] [] pos) (fun _ H Q => Q (.ref Ca) none H) := by
  intro pins s σ H Q I h
  refine wpAny_Call_Name_kw (ld_glob I hg gC ?_ hdb)
  refine PySem.W.callWith_K0 I.kIn kC ?_
  show wpAny _ _ (call (.ref Ca) []) _ _ _
  obtain ⟨bm, N, nm, qn, bs, hdct, sn, sub, ab, col, dd, k0, k1, k2, k3, k5, mN, hC, hN, hni, T⟩ := exc_obj I.kIn q
  refine wpAny_call_exc_subT F T hC hN hni (fun h' e hm => ?_) (by show 0 ≤ sizeLine; omega)
  exact mk_of I hm r h (I.hok.gone hm.new)
def sRaise (c : Str) : Rho → Sto → Option Fl := fun ρ S => some (.exc c [] ρ S)
theorem s_raise0 {p : Pos} (hM : C.mg = X.mg) (E : ExcOk X.K X.mg x) (hc : X.calm = true) (tk : Takes X W) (hg : Gl X x) (hdb : (x == ("__debug__" : Str)) = false := by decide) : PS X (.Raise (some (.Call (.Name x p) [] [] pos)) none pos) (tS C W (sRaise x)) := by
  obtain ⟨Ca, hm, q, kC, s1, s2⟩ := E.ex
  refine ps_imp (ps_raise hc tk (pmk_own0 PySem.F.excBase_ValueError q hm kC (raises_own s1 s2) hg hdb)) fun D σ H ⟨ρ, S, A, G, I, q⟩ => ?_
  exact q A G σ H (.ref Ca) none ExtS.refl I ⟨Ca, by rw [hM]; exact hm, rfl, .inl ⟨rfl, rfl⟩⟩
theorem s_raise {p p2 : Pos} (hM : C.mg = X.mg) (E : ExcOk X.K X.mg x) (hc : X.calm = true) (tk : Takes X W) (hg : Gl X x) (hdb : (x == ("__debug__" : Str)) = false := by decide) : PS X (.Raise (some (.Call (.Name x p) [] [] pos)) none p2) (tS C W (sRaise x)) := by
  obtain ⟨Ca, hm, q, kC, s1, s2⟩ := E.ex
  refine ps_imp (ps_raise hc tk (pmk_own0 PySem.F.excBase_ValueError q hm kC (raises_own s1 s2) hg hdb)) fun D σ H ⟨ρ, S, A, G, I, q⟩ => ?_
  exact q A G σ H (.ref Ca) none ExtS.refl I ⟨Ca, by rw [hM]; exact hm, rfl, .inl ⟨rfl, rfl⟩⟩
/-! ### try .. except X: -/
/-- which class a clause takes -/
def MtOk (K : PySem.W.Frag) (mg : Str → Option Value) (mt : Str → Str → Option Bool) : Prop := ∀ c x b Ca Cx, mt c x = some b → mg c = some (.ref Ca) → mg x = some (.ref Cx) → PySem.W.exmOne K (.ref Ca) (.ref Cx) = some b
/-- .. that raises nothing -/
def noX : Option Fl → Option Fl
  | some (.exc _ _ _ _) => none
  | r => r
theorem SGood.noX {W' : WX} {A : List Addr} {G : List (List Addr)} {H : Hp} {D : Ends} {r : Option Fl} (h : SGood C W A G H D (noX r)) : SGood C W' A G H D r := by
  cases r with
  | none => exact h
  | some f => cases f <;> first | exact h | exact h.elim
def sTry (mt : Str → Str → Option Bool) (x : Str) (b h : Rho → Sto → Option Fl) : Rho → Sto → Option Fl := fun ρ S => match b ρ S with
  | some (.exc c fs ρ1 S1) => match mt c x with
    | some true => noX (h ρ1 S1)
    | some false => some (.exc c fs ρ1 S1)
    | none => none
  | r => r
theorem s_try {mt : Str → Str → Option Bool} {fb fh : Rho → Sto → Option Fl} {body suite : List Stmt} {b₀ : Stmt} {np pos' : Pos} {Cx : Addr} (hK : C.K = X.K) (hM : C.mg = X.mg) (hmt : MtOk X.K X.mg mt) (hs : X.stack = X.env :: X.outer) (hf : X.env.frame = some X.env.locals)
    (hg : Gl X x) (hx : X.mg x = some (.ref Cx)) (tk : Takes X W)
    (hb : ∀ (W : WX) (pn : List (Addr × Obj)) (xe : Value → Shared → Prop), Takes (X.tr pn xe) W → PassesOwn (model X.prog X.w) X.A X.env xe → PSs (X.tr pn xe) body (tS C W fb))
    (hsu : ∀ (a : Addr) (oe : Obj) (pn : List (Addr × Obj)), PSs (X.suite a ((a, oe) :: pn)) (b₀ :: suite) (tS C WF fh)) (hdb : (x == ("__debug__" : Str)) = false := by decide) :
    PS X (.Try body [.ExceptHandler (some (.Name x np)) none (b₀ :: suite) pos'] [] [] pos) (tS C W (sTry mt x fb fh)) := by
  refine ps_imp (ps_try_only (c := .ref Cx) (tb := fun W => tS C W fb) (ts := fun _ _ _ => tS C WF fh) hs hf ⟨hg, hdb, .inl hx⟩ tk hb fun a oe cls d pn _ _ => hsu a oe pn) fun D σ H ⟨ρ, S, A, G, I, q⟩ => ⟨ρ, S, A, G, I, ?_⟩
  unfold sTry at q
  cases hr : fb ρ S with
  | none => rw [hr] at q; exact q
  | some r =>
    rw [hr] at q
    cases r with
    | nx ρ' S' => exact q
    | bk ρ' S' => exact q
    | ct ρ' S' => exact q
    | rt z S' => exact q
    | exc c fs ρ' S' =>
      rintro A' G' σ' H' cls d ex J ⟨Ca, hc, rfl, hfs⟩
      simp only at q
      cases hmc : mt c x with
      | none => rw [hmc] at q; exact q.elim
      | some k =>
        rw [hmc] at q
        refine ⟨k, hmt c x k Ca Cx hmc (by rw [← hM]; exact hc) hx, fun e a _ => ?_, fun e => ?_⟩
        · subst e
          exact ⟨ρ', S', A', G', J, SGood.ext ex (SGood.noX q)⟩
        · subst e
          exact q A' G' σ' H' (.ref Ca) d ex J ⟨Ca, hc, rfl, hfs⟩
end
end VL

end
section
set_option Elab.async false
set_option linter.all false
set_option maxRecDepth 100000
/-! VL11: lists that are changed: a slot's own (within others of its own) or a shared one. -/
namespace VL
open PySem PySem.Spec PyProof.Rows L2

def getP : List Nat → SV → Option (List SV)
  | [], .own xs => some xs
  | j :: p, .own xs => (xs[j]?).bind (getP p)
  | _, _ => none
def putP : List Nat → List SV → SV → SV
  | [], ys, .own _ => .own ys
  | j :: p, ys, .own xs => match xs[j]? with
    | some z => .own (xs.set j (putP p ys z))
    | none => .own xs
  | _, _, x => x
def addrP (H : Hp) : List Nat → V → Option Addr
  | [], .ref a => some a
  | j :: p, .ref a => match H a with
    | some (.lst vs) => (vs[j]?).bind (addrP H p)
    | _ => none
  | _, _ => none
section
variable {K : PySem.W.Frag} {mg : Str → Option Value} {H H' : Hp} {A : List Addr} {F F' : Addr → Prop}
theorem RsL.at' : ∀ {xs : List SV} {vs : List V} {g : List Addr} {j : Nat} {z : SV}, RsL K mg H A F xs vs g → xs[j]? = some z → ∃ v gl gz gr, vs[j]? = some v ∧ Rs K mg H A F z v gz ∧ g = gl ++ (gz ++ gr) ∧
    ∀ (H' : Hp) (F' : Addr → Prop), (∀ a, F' a → F a ∨ H a = none) → (∀ a o, H a = some o → ¬ F a → H' a = some o) → (∀ b ∈ gl ++ gr, ∀ o, H b = some o → H' b = some o) → ∀ z' gz', Rs K mg H' A F' z' v gz' → RsL K mg H' A F' (xs.set j z') vs (gl ++ (gz' ++ gr))
  | [], _, _, _, _, _, e => by simp at e
  | x :: xs, _, _, j, z, r, e => by
    cases r with
    | cons r1 r2 =>
      rename_i v vs g1 g2
      cases j with
      | zero =>
        simp only [List.getElem?_cons_zero, Option.some.injEq] at e
        subst e
        refine ⟨v, [], g1, g2, rfl, r1, rfl, fun H' F' hF hH hk z' gz' r' => ?_⟩
        show RsL K mg H' A F' _ _ (gz' ++ g2)
        exact .cons r' (RsL.mono (fun _ _ q => q) hF hH _ _ _ (fun a m o q => hk a m o q) r2)
      | succ j =>
        obtain ⟨v', gl, gz, gr, h1, h2, h3, h4⟩ := RsL.at' r2 (by simpa using e)
        refine ⟨v', g1 ++ gl, gz, gr, by simpa using h1, h2, by rw [h3, List.append_assoc], fun H' F' hF hH hk z' gz' r' => ?_⟩
        have q := h4 H' F' hF hH (fun b m => hk b (by
          rw [List.append_assoc]
          exact List.mem_append_right _ m)) z' gz' r'
        rw [List.append_assoc]
        exact .cons (Rs.mono (fun _ _ q => q) hF hH _ _ _ (fun a m o q => hk a (List.mem_append_left _ (List.mem_append_left _ m)) o q) r1) q
structure PutOk (K : PySem.W.Frag) (mg : Str → Option Value) (H : Hp) (A : List Addr) (F : Addr → Prop) (p : List Nat) (x : SV) (v : V) (g : List Addr) (a : Addr) (gx : List Addr) : Prop where
  to : ∀ (F' : Addr → Prop), (∀ b, F' b → F b ∨ H b = none) → (∀ b ∈ g, F b) → g.Nodup → ∀ ys ws gy, RsL K mg (upd H a (.lst ws)) A F' ys ws gy → ws.length ≤ sizeLine → gy.Nodup → (∀ b ∈ gy, b ∉ g ∨ b ∈ gx) →
    ∃ g', Rs K mg (upd H a (.lst ws)) A F' (putP p ys x) v g' ∧ g'.Nodup ∧ ∀ b ∈ g', b ∈ g ∨ b ∈ gy
theorem Rs.path : ∀ {p : List Nat} {x : SV} {v : V} {g : List Addr} {xs : List SV}, Rs K mg H A F x v g → getP p x = some xs → ∃ a us gx, addrP H p v = some a ∧ H a = some (.lst us) ∧ us.length ≤ sizeLine ∧ (a :: gx).Sublist g ∧ RsL K mg H A F xs us gx ∧ PutOk K mg H A F p x v g a gx
  | [], .own zs, _, _, xs, r, h => by
    simp only [getP, Option.some.injEq] at h
    subst h
    cases r with
    | own e l r =>
      rename_i a vs g
      refine ⟨a, vs, g, rfl, e, l, List.Sublist.refl _, r, ⟨fun F' hF hg nd ys ws gy ry lw ng hy => ⟨a :: gy, .own upd_same lw ry, List.nodup_cons.mpr ⟨fun m => ?_, ng⟩, fun b m => ?_⟩⟩⟩
      · rcases hy a m with z | z
        · exact z List.mem_cons_self
        · exact (List.nodup_cons.mp nd).1 z
      · rcases List.mem_cons.mp m with rfl | m
        · exact .inl List.mem_cons_self
        · exact .inr m
  | j :: p, .own zs, _, _, xs, r, h => by
    simp only [getP, Option.bind_eq_some_iff] at h
    obtain ⟨z, hz, h⟩ := h
    cases r with
    | own e l r =>
      rename_i a0 vs g1
      obtain ⟨v, gl, gz, gr, h1, h2, rfl, h4⟩ := RsL.at' r hz
      obtain ⟨a, us, gx, q1, q2, q3, q4, q5, q6⟩ := Rs.path h2 h
      have sub : (a :: gx).Sublist (a0 :: (gl ++ (gz ++ gr))) := (q4.trans ((List.sublist_append_left _ _).trans (List.sublist_append_right _ _))).trans (List.sublist_cons_self _ _)
      have maz : a ∈ gz := q4.subset List.mem_cons_self
      refine ⟨a, us, gx, by simp only [addrP, e, h1, Option.bind_some]; exact q1, q2, q3, sub, q5, ⟨fun F' hF hg nd ys ws gy ry lw ng hy => ?_⟩⟩
      have nd1 := (List.nodup_cons.mp nd).2
      have n1 := List.nodup_append.mp nd1
      have n2 := List.nodup_append.mp n1.2.1
      obtain ⟨gz', r', nz, sz⟩ := q6.to F' hF (fun b m => hg b (List.mem_cons_of_mem _ (List.mem_append_right _ (List.mem_append_left _ m)))) n2.1 ys ws gy ry lw ng (fun b m => (hy b m).imp (fun z w => z (List.mem_cons_of_mem _ (List.mem_append_right _ (List.mem_append_left _ w)))) id)
      have ha : ∀ b, b ∈ gl ∨ b ∈ gr → b ≠ a := fun b m e => by
        subst e
        rcases m with m | m
        · exact n1.2.2 b m b (List.mem_append_left _ maz) rfl
        · exact n2.2.2 b maz b m rfl
      have hne0 : a0 ≠ a := fun e => (List.nodup_cons.mp nd).1 (by rw [e]; exact List.mem_append_right _ (List.mem_append_left _ maz))
      have hFa : F a := hg a (sub.subset List.mem_cons_self)
      have rr := h4 (upd H a (.lst ws)) F' hF (fun b o q n => by rw [upd_ne (show b ≠ a from fun e => n (by rw [e]; exact hFa))]; exact q) (fun b m o q => by rw [upd_ne (ha b (List.mem_append.mp m))]; exact q) _ gz' r'
      -- what is in the new part, but was elsewhere
      have key : ∀ b ∈ gz', b ∈ gz ∨ (b ∉ a0 :: (gl ++ (gz ++ gr))) := fun b m => by
        rcases sz b m with z | z
        · exact .inl z
        · rcases hy b z with w | w
          · exact .inr w
          · exact .inl (q4.subset (List.mem_cons_of_mem _ w))
      refine ⟨a0 :: (gl ++ (gz' ++ gr)), by simp only [putP, hz]; exact .own (by rw [upd_ne hne0]; exact e) l rr, List.nodup_cons.mpr ⟨fun m => ?_, List.nodup_append.mpr ⟨n1.1, List.nodup_append.mpr ⟨nz, n2.2.1, fun b m c m' e => ?_⟩, fun b m c m' e => ?_⟩⟩, fun b m => ?_⟩
      · rcases List.mem_append.mp m with m | m
        · exact (List.nodup_cons.mp nd).1 (List.mem_append_left _ m)
        · rcases List.mem_append.mp m with m | m
          · rcases key a0 m with z | z
            · exact (List.nodup_cons.mp nd).1 (List.mem_append_right _ (List.mem_append_left _ z))
            · exact z List.mem_cons_self
          · exact (List.nodup_cons.mp nd).1 (List.mem_append_right _ (List.mem_append_right _ m))
      · subst e
        rcases key b m with z | z
        · exact n2.2.2 b z b m' rfl
        · exact z (List.mem_cons_of_mem _ (List.mem_append_right _ (List.mem_append_right _ m')))
      · subst e
        rcases List.mem_append.mp m' with m' | m'
        · rcases key b m' with z | z
          · exact n1.2.2 b m b (List.mem_append_left _ z) rfl
          · exact z (List.mem_cons_of_mem _ (List.mem_append_left _ m))
        · exact n1.2.2 b m b (List.mem_append_right _ m') rfl
      · rcases List.mem_cons.mp m with rfl | m
        · exact .inl List.mem_cons_self
        · rcases List.mem_append.mp m with m | m
          · exact .inl (List.mem_cons_of_mem _ (List.mem_append_left _ m))
          · rcases List.mem_append.mp m with m | m
            · rcases sz b m with z | z
              · exact .inl (List.mem_cons_of_mem _ (List.mem_append_right _ (List.mem_append_left _ z)))
              · exact .inr z
            · exact .inl (List.mem_cons_of_mem _ (List.mem_append_right _ (List.mem_append_right _ m)))
  | [], .d _, _, _, _, _, h => by simp [getP] at h
  | [], .ref _, _, _, _, _, h => by simp [getP] at h
  | [], .fn _, _, _, _, _, h => by simp [getP] at h
  | [], .scr _, _, _, _, _, h => by simp [getP] at h
  | [], .dic _ _, _, _, _, _, h => by simp [getP] at h
  | _ :: _, .d _, _, _, _, _, h => by simp [getP] at h
  | _ :: _, .ref _, _, _, _, _, h => by simp [getP] at h
  | _ :: _, .fn _, _, _, _, _, h => by simp [getP] at h
  | _ :: _, .scr _, _, _, _, _, h => by simp [getP] at h
  | _ :: _, .dic _ _, _, _, _, _, h => by simp [getP] at h
theorem addrP_ext {g : List Addr} (hk : ∀ b ∈ g, ∀ o, H b = some o → H' b = some o) : ∀ {p : List Nat} {x : SV} {v : V} {xs : List SV} {g0 : List Addr}, (∀ b ∈ g0, b ∈ g) → Rs K mg H A F x v g0 → getP p x = some xs → addrP H' p v = addrP H p v
  | [], .own zs, _, xs, g0, hs, r, h => by
    cases r with
    | own e l r => rfl
  | j :: p, .own zs, _, xs, g0, hs, r, h => by
    simp only [getP, Option.bind_eq_some_iff] at h
    obtain ⟨z, hz, h⟩ := h
    cases r with
    | own e l r =>
      rename_i a0 vs g1
      obtain ⟨v, gl, gz, gr, h1, h2, rfl, _⟩ := RsL.at' r hz
      simp only [addrP, e, hk a0 (hs a0 List.mem_cons_self) _ e, h1, Option.bind_some]
      exact addrP_ext hk (fun b m => hs b (List.mem_cons_of_mem _ (List.mem_append_right _ (List.mem_append_left _ m)))) h2 h
  | [], .d _, _, _, _, _, _, h => by simp [getP] at h
  | [], .ref _, _, _, _, _, _, h => by simp [getP] at h
  | [], .fn _, _, _, _, _, _, h => by simp [getP] at h
  | [], .scr _, _, _, _, _, _, h => by simp [getP] at h
  | [], .dic _ _, _, _, _, _, _, h => by simp [getP] at h
  | _ :: _, .d _, _, _, _, _, _, h => by simp [getP] at h
  | _ :: _, .ref _, _, _, _, _, _, h => by simp [getP] at h
  | _ :: _, .fn _, _, _, _, _, _, h => by simp [getP] at h
  | _ :: _, .scr _, _, _, _, _, _, h => by simp [getP] at h
  | _ :: _, .dic _ _, _, _, _, _, _, h => by simp [getP] at h
theorem getP_app : ∀ {p : List Nat} {x : SV} {xs zs : List SV} {j : Nat}, getP p x = some xs → xs[j]? = some (.own zs) → getP (p ++ [j]) x = some zs
  | [], .own ys, xs, zs, j, h, e => by
    simp only [getP, Option.some.injEq] at h
    subst h
    simp [getP, e]
  | i :: p, .own ys, xs, zs, j, h, e => by
    simp only [getP, Option.bind_eq_some_iff] at h
    obtain ⟨z, hz, h⟩ := h
    show (ys[i]?).bind (getP (p ++ [j])) = some zs
    rw [hz]
    exact getP_app h e
  | [], .d _, _, _, _, h, _ => by simp [getP] at h
  | [], .ref _, _, _, _, h, _ => by simp [getP] at h
  | [], .fn _, _, _, _, h, _ => by simp [getP] at h
  | [], .scr _, _, _, _, h, _ => by simp [getP] at h
  | [], .dic _ _, _, _, _, h, _ => by simp [getP] at h
  | _ :: _, .d _, _, _, _, h, _ => by simp [getP] at h
  | _ :: _, .ref _, _, _, _, h, _ => by simp [getP] at h
  | _ :: _, .fn _, _, _, _, h, _ => by simp [getP] at h
  | _ :: _, .scr _, _, _, _, h, _ => by simp [getP] at h
  | _ :: _, .dic _ _, _, _, _, h, _ => by simp [getP] at h
theorem addrP_app : ∀ {p : List Nat} {v : V} {a : Addr} {us : List V} {j : Nat} {b : Addr}, addrP H p v = some a → H a = some (.lst us) → us[j]? = some (.ref b) → addrP H (p ++ [j]) v = some b
  | [], .ref c, a, us, j, b, h, e, q => by
    simp only [addrP, Option.some.injEq] at h
    subst h
    simp [addrP, e, q]
  | i :: p, .ref c, a, us, j, b, h, e, q => by
    simp only [addrP] at h
    show addrP H (i :: (p ++ [j])) (.ref c) = some b
    simp only [addrP]
    split at h
    · rename_i vs hc
      simp only [Option.bind_eq_some_iff] at h ⊢
      obtain ⟨w, hw, h⟩ := h
      exact ⟨w, hw, addrP_app h e q⟩
    · cases h
  | [], .non, _, _, _, _, h, _, _ => by simp [addrP] at h
  | _, .int _, _, _, _, _, h, _, _ => by cases ‹List Nat› <;> simp [addrP] at h
  | _, .bl _, _, _, _, _, h, _, _ => by cases ‹List Nat› <;> simp [addrP] at h
  | _, .str _, _, _, _, _, h, _, _ => by cases ‹List Nat› <;> simp [addrP] at h
  | _ :: _, .non, _, _, _, _, h, _, _ => by simp [addrP] at h
end
end VL

end
section
set_option Elab.async false
set_option linter.all false
set_option maxRecDepth 100000
/-! VL12: places of lists; stores into them, append, pop. -/
namespace VL
open PySem PySem.Spec PyProof.Rows L2

/-- where a list lies: within slot i's own, by a path; the shared list n -/
inductive Lo where
  | sl (i : Nat) (p : List Nat)
  | st (n : Nat)
def Lo.get (ρ : Rho) (S : Sto) : Lo → Option (List SV)
  | .sl i p => match ρ[i]? with
    | some (some x) => getP p x
    | _ => none
  | .st n => S[n]?
def Lo.put (ρ : Rho) (S : Sto) (ys : List SV) : Lo → Option (Rho × Sto)
  | .sl i p => match ρ[i]? with
    | some (some x) => some (ρ.set i (some (putP p ys x)), S)
    | _ => none
  | .st n => if ys.all noOwn then some (ρ, S.set n ys) else none
def LoA (A : List Addr) (σ : L2.St) (H : Hp) : Lo → Option Addr
  | .sl i p => match σ[i]? with
    | some (some v) => addrP H p v
    | _ => none
  | .st n => A[n]?
section
variable {C : Ct} {ρ ρ' : Rho} {S S' : Sto} {A A' : List Addr} {G : List (List Addr)} {σ : L2.St} {H H' : Hp} {l : Lo} {xs ys : List SV} {a : Addr} {us ws : List V} {gn : List Addr}
theorem Sim.lget (I : Sim C ρ S A G σ H) (h : l.get ρ S = some xs) : ∃ a us gx, LoA A σ H l = some a ∧ H a = some (.lst us) ∧ us.length ≤ sizeLine ∧ RsL C.K C.mg H A (Fs C A G) xs us gx ∧ gx.Nodup ∧ a ∉ gx ∧ a ∈ A ++ G.flatten ∧ (∀ b ∈ gx, b ∈ G.flatten) ∧ ∀ n, l = .st n → gx = [] := by
  cases l with
  | sl i p =>
    simp only [Lo.get] at h
    split at h
    · rename_i x hx
      obtain ⟨v, g, e1, r, sb⟩ := I.slots i x hx
      obtain ⟨a, us, gx, q1, q2, q3, q4, q5, _⟩ := Rs.path r h
      have nd : g.Nodup := by
        have n := (List.nodup_append.mp I.nd).2.1
        cases hG : G[i]? with
        | none => rw [hG] at sb; rw [List.sublist_nil.mp sb]; exact List.nodup_nil
        | some l => rw [hG] at sb; exact ((List.pairwise_flatten.mp n).1 l (List.mem_of_getElem? hG)).sublist sb
      have nd2 := List.nodup_cons.mp (nd.sublist q4)
      exact ⟨a, us, gx, by simp only [LoA, e1]; exact q1, q2, q3, q5, nd2.2, nd2.1, List.mem_append_right _ (getD_mem (sb.subset (q4.subset List.mem_cons_self))), fun b m => getD_mem (sb.subset (q4.subset (List.mem_cons_of_mem _ m))), fun n e => by cases e⟩
    · cases h
  | st n =>
    obtain ⟨a, vs, e1, e2, l, r⟩ := I.sto n xs h
    exact ⟨a, vs, [], e1, e2, l, r, List.nodup_nil, by simp, List.mem_append_left _ (List.mem_of_getElem? e1), (fun b m => by cases m), fun _ _ => rfl⟩
theorem LoA.ext (I : Sim C ρ S A G σ H) (e : Ext A H A' H') (h : l.get ρ S = some xs) (ha : LoA A σ H l = some a) : LoA A' σ H' l = some a := by
  cases l with
  | sl i p =>
    simp only [Lo.get] at h
    split at h
    · rename_i x hx
      obtain ⟨v, g, e1, r, sb⟩ := I.slots i x hx
      simp only [LoA, e1] at ha ⊢
      rw [addrP_ext (g := g) (fun b m o q => e.keep b o q fun z => (List.nodup_append.mp I.nd).2.2 b z b (getD_mem (sb.subset m)) rfl) (fun b m => m) r h]
      exact ha
    · cases h
  | st n => exact prefix_get e.pre n a ha
theorem Lo.get_ext (h : l.get ρ S = some xs) (hl : S.length ≤ S'.length) : ∃ ys, l.get ρ S' = some ys := by
  cases l with
  | sl i p => exact ⟨xs, h⟩
  | st n =>
    have := (List.getElem?_eq_some_iff.mp h).1
    exact ⟨S'[n]'(by omega), List.getElem?_eq_getElem (by omega)⟩
/-- a list's contents are put anew; gn: new lists that come in -/
theorem Sim.lput (I : Sim (C.pr fun a => C.Pr a ∨ a ∈ gn) ρ S A G σ H) (ngn : gn.Nodup) (h0 : ∀ b ∈ gn, C.E0 b = none) (hp : ∀ b ∈ gn, ¬ C.Pr b) (hx : l.get ρ S = some xs) (ha : LoA A σ H l = some a) (hu : H a = some (.lst us)) (lw : ws.length ≤ sizeLine) (hput : l.put ρ S ys = some (ρ', S'))
    (hc : ∀ gx, RsL C.K C.mg H A (Fs (C.pr fun a => C.Pr a ∨ a ∈ gn) A G) xs us gx → gx.Nodup → (∀ b ∈ gx, b ∉ gn) → ∃ gy, RsL C.K C.mg H A (fun b => Fs (C.pr fun a => C.Pr a ∨ a ∈ gn) A G b) ys ws gy ∧ gy.Nodup ∧ ∀ b ∈ gy, b ∈ gx ∨ b ∈ gn) :
    ∃ G', Sim C ρ' S' A G' σ (upd H a (.lst ws)) ∧ ∀ b ∈ G'.flatten, b ∈ G.flatten ∨ b ∈ gn := by
  have hgn : ∀ b ∈ gn, b ∉ A ++ G.flatten ∧ H b ≠ none := fun b m => I.prot b (.inr m)
  have hFs : ∀ b, Fs (C.pr fun a => C.Pr a ∨ a ∈ gn) A G b ↔ Fs C A G b ∨ b ∈ gn := fun b => by
    constructor
    · rintro (z | z | z | z)
      · exact .inl (.inl z)
      · exact .inl (.inr (.inl z))
      · exact .inl (.inr (.inr z))
      · exact .inr z
    · rintro ((z | z | z) | z)
      · exact .inl z
      · exact .inr (.inl z)
      · exact .inr (.inr (.inl z))
      · exact .inr (.inr (.inr z))
  cases l with
  | st n =>
    simp only [Lo.put] at hput
    split at hput
    case isFalse => cases hput
    rename_i hno
    cases hput
    obtain ⟨a', us', e1, e2, l', r⟩ := I.sto n xs hx
    have e1' : A[n]? = some a := ha
    rw [e1'] at e1
    cases e1
    rw [hu] at e2
    cases e2
    obtain ⟨gy, ry, _, _⟩ := hc [] r List.nodup_nil fun b m => by cases m
    obtain rfl := RsL.noOwn ry hno
    have aA : a ∈ A := List.mem_of_getElem? e1'
    have hFa : Fs C A G a := .inl aA
    have hH : ∀ b o, H b = some o → ¬ Fs C A G b → upd H a (.lst ws) b = some o := fun b o q n => by rw [upd_ne (show b ≠ a from fun e => n (by rw [e]; exact hFa))]; exact q
    have tr : ∀ b, H b ≠ none → upd H a (.lst ws) b ≠ none := fun b h => by
      by_cases e : b = a
      · rw [e, upd_same]; simp
      · rw [upd_ne e]; exact h
    have I0 : Sim C ρ S A G σ H := I.prw fun a z => .inl z
    refine ⟨G, ⟨I0.pre, I0.lr, I0.lg, by simp [I0.ls], I0.nd, fun b m => tr b (I0.trk b m), fun b p => ⟨(I0.prot b p).1, tr b (I0.prot b p).2⟩, fun i x e => ?_, fun k zs e => ?_, fun b o e n => ?_, I0.fresh, I0.a0⟩, fun b m => .inl m⟩
    · obtain ⟨v, g, e1, r, sb⟩ := I0.slots i x e
      refine ⟨v, g, e1, Rs.mono (fun _ _ q => q) (fun a z => .inl z) hH _ _ _ (fun b m o q => ?_) r, sb⟩
      rw [upd_ne (show b ≠ a from fun e => (List.nodup_append.mp I.nd).2.2 a aA b (getD_mem (sb.subset m)) e.symm)]
      exact q
    · by_cases hk : k = n
      · subst hk
        have hlt : k < S.length := (List.getElem?_eq_some_iff.mp hx).1
        rw [List.getElem?_set_self hlt] at e
        cases e
        exact ⟨a, ws, e1', upd_same, lw, RsL.mono (fun _ _ q => q) (fun b z => .inl ((hFs b).mpr (.inl z))) (fun b o q n => by rw [upd_ne (show b ≠ a from fun e => n (by rw [e]; exact (hFs a).mpr (.inl hFa)))]; exact q) _ _ _ (fun b m => by cases m) ry⟩
      · rw [List.getElem?_set_ne (Ne.symm hk)] at e
        obtain ⟨b, vs, q1, q2, q3, q4⟩ := I0.sto k zs e
        refine ⟨b, vs, q1, ?_, q3, RsL.mono (fun _ _ q => q) (fun a z => .inl z) hH _ _ _ (fun a m => by cases m) q4⟩
        rw [upd_ne]
        · exact q2
        · intro e
          subst e
          have nA := (List.nodup_append.mp I.nd).1
          obtain ⟨p1, p2⟩ := List.getElem?_eq_some_iff.mp q1
          obtain ⟨p3, p4⟩ := List.getElem?_eq_some_iff.mp e1'
          rw [List.nodup_iff_pairwise_ne, List.pairwise_iff_getElem] at nA
          rcases Nat.lt_or_gt_of_ne hk with lt | lt
          · exact nA k n p1 p3 lt (p2.trans p4.symm)
          · exact nA n k p3 p1 lt (p4.trans p2.symm)
    · rw [upd_ne]
      · exact I0.frame b o e n
      · intro z
        subst z
        rcases I0.fresh b (List.mem_append_left _ aA) with q | q
        · exact n q
        · rw [q] at e; cases e
  | sl i p =>
    simp only [Lo.put] at hput
    simp only [Lo.get] at hx
    split at hput
    case h_2 => cases hput
    rename_i x hρ
    cases hput
    rw [hρ] at hx
    simp only at hx
    obtain ⟨v, g, e1, r, sb⟩ := I.slots i x hρ
    obtain ⟨a', us', gx, q1, q2, q3, q4, q5, q6⟩ := Rs.path r hx
    simp only [LoA, e1] at ha
    rw [q1] at ha
    cases ha
    rw [hu] at q2
    cases q2
    have gG : ∀ b ∈ g, b ∈ G.flatten := fun b m => getD_mem (sb.subset m)
    have nd : g.Nodup := by
      have n := (List.nodup_append.mp I.nd).2.1
      cases hG : G[i]? with
      | none => rw [hG] at sb; rw [List.sublist_nil.mp sb]; exact List.nodup_nil
      | some l => rw [hG] at sb; exact ((List.pairwise_flatten.mp n).1 l (List.mem_of_getElem? hG)).sublist sb
    have nd2 := List.nodup_cons.mp (nd.sublist q4)
    have ag : a ∈ g := q4.subset List.mem_cons_self
    have xg : ∀ b ∈ gx, b ∈ g := fun b m => q4.subset (List.mem_cons_of_mem _ m)
    obtain ⟨gy, ry, ny, sy⟩ := hc gx q5 nd2.2 fun b m z => (hgn b z).1 (List.mem_append_right _ (gG b (xg b m)))
    have aF : Fs (C.pr fun a => C.Pr a ∨ a ∈ gn) A G a := .inr (.inl (gG a ag))
    have yna : ∀ b ∈ gy, b ≠ a := fun b m e => by
      subst e
      rcases sy b m with z | z
      · exact nd2.1 z
      · exact (hgn b z).1 (List.mem_append_right _ (gG b ag))
    have ry' : RsL C.K C.mg (upd H a (.lst ws)) A (Fs (C.pr fun a => C.Pr a ∨ a ∈ gn) A G) ys ws gy := RsL.mono (fun _ _ q => q) (fun b z => .inl z) (fun b o q n => by rw [upd_ne (show b ≠ a from fun e => n (by rw [e]; exact aF))]; exact q) _ _ _ (fun b m o q => by rw [upd_ne (yna b m)]; exact q) ry
    obtain ⟨g', r', n', s'⟩ := q6.to (Fs (C.pr fun a => C.Pr a ∨ a ∈ gn) A G) (fun b z => .inl z) (fun b m => .inr (.inl (gG b m))) nd ys ws gy ry' lw ny fun b m => by
      rcases sy b m with z | z
      · exact .inr z
      · exact .inl fun w => (hgn b z).1 (List.mem_append_right _ (gG b w))
    have s2 : ∀ b ∈ g', b ∈ g ∨ b ∈ gn := fun b m => by
      rcases s' b m with z | z
      · exact .inl z
      · exact (sy b z).imp (xg b) id
    have E0g : ∀ b ∈ g, C.E0 b = none := fun b m => by
      rcases I.fresh b (List.mem_append_right _ (gG b m)) with z | z
      · exact absurd rfl ((List.nodup_append.mp I.nd).2.2 b (I.pre.subset z) b (gG b m))
      · exact z
    have J := (I.drop i).updP (D := a) (o := .lst ws) (.inr (sb.subset ag)) (E0g a ag)
    have J2 : Sim (C.pr fun b => C.Pr b ∨ b ∈ g') (ρ.set i none) S A (G.set i []) σ (upd H a (.lst ws)) := J.prc fun b z => by
      rcases z with z | z
      · exact .inl (.inl z)
      · rcases s2 b z with w | w
        · exact .inr (sb.subset w)
        · exact .inl (.inr w)
    have K := Sim.put (C := C) (i := i) (x := putP p ys x) (v := v) (g := g') J2 (Rs.mono (fun _ _ q => q) (fun b z => .inl (by
      rcases z with (z | z | z) | z
      · exact .inl z
      · exact .inr (.inl (flatten_set_nil.subset z))
      · exact .inr (.inr (.inl z))
      · rcases s2 b z with w | w
        · exact .inr (.inl (gG b w))
        · exact .inr (.inr (.inr w)))) (fun b o q n => q) _ _ _ (fun b m o q => q) r') n' (fun b m => (s2 b m).elim (E0g b) (h0 b)) (fun b m z => (s2 b m).elim (fun w => (I.prot b (.inl z)).1 (List.mem_append_right _ (gG b w))) fun w => hp b w z)
    rw [List.set_set, set_same e1] at K
    refine ⟨_, K, fun b m => ?_⟩
    rw [List.set_set] at m
    rcases flatten_set_sub m with z | z
    · exact .inl z
    · exact (s2 b z).imp (gG b) id
end
end VL

end
section
set_option Elab.async false
set_option linter.all false
set_option maxRecDepth 100000
/-! VL13: statements that change lists. -/
namespace VL
open PySem PySem.Spec PyProof.Rows L2
def LPost (C : Ct) (ρ : Rho) (A : List Addr) (G : List (List Addr)) (σ : L2.St) (H : Hp) (l : Lo) (S' : Sto) (v : V) (H' : Hp) : Prop :=
  ∃ A' a xs, v = .ref a ∧ Ext A H A' H' ∧ Sim C ρ S' A' G σ H' ∧ l.get ρ S' = some xs ∧ LoA A' σ H' l = some a
def tL (C : Ct) (W : WX) (f : Rho → Mo Lo) : TE := fun σ H Q => ∃ P ρ S A G, (∀ a, C.Pr a → P a) ∧ Sim (C.pr P) ρ S A G σ H ∧ EGood (LPost (C.pr P) ρ A G σ H) (XPost C ρ A G σ H) W σ Q (f ρ S)
def lVar (i : Nat) : Rho → Mo Lo := fun ρ S => match ρ[i]? with
  | some (some (.own _)) => some (.ok (.sl i []) S)
  | some (some (.ref n)) => if n < S.length then some (.ok (.st n) S) else none
  | _ => none
def Lo.sub (ρ : Rho) (S : Sto) (l : Lo) (k : Int) : Option Lo := (l.get ρ S).bind fun xs => (ixN xs.length k).bind fun j => match xs[j]? with
  | some (.own _) => (match l with
    | .sl i p => some (.sl i (p ++ [j]))
    | .st _ => none)
  | some (.ref m) => if m < S.length then some (.st m) else none
  | _ => none
def lIx (fl : Rho → Mo Lo) (f : Rho → Mo SV) : Rho → Mo Lo := fun ρ S => bindM (fl ρ S) fun l S1 => bindM (f ρ S1) fun x S2 => match x with
  | .d (.int k) => (l.sub ρ S2 k).map fun l' => .ok l' S2
  | _ => none
section
variable {X : Cx} {C : Ct} {W : WX} {kd ka kb : Kd} {e a b c : Expr} {es : List Expr} {pos : Pos} {f fa fb fc : Rho → Mo SV} {fl : Rho → Mo Lo} {fs : Rho → Mo (List SV)}
theorem l_var {i : Nat} (h : PE X e (tVar i)) : PE X e (tL C W (lVar i)) := by
  refine pe_imp h fun σ H Q ⟨P, ρ, S, A, G, hP, I, q⟩ => ?_
  unfold lVar at q
  split at q
  · rename_i xs hx
    obtain ⟨v, g, e1, r, sb⟩ := I.slots i _ hx
    cases r with
    | own e l r =>
      exact ⟨_, e1, q _ H ⟨A, _, xs, rfl, Ext.refl, I, by simp only [Lo.get, hx, getP], by simp only [LoA, e1, addrP]⟩⟩
  · rename_i n hx
    obtain ⟨v, g, e1, r, sb⟩ := I.slots i _ hx
    split at q
    · rename_i hn
      cases r with
      | ref hA => exact ⟨_, e1, q _ H ⟨A, _, S[n], rfl, Ext.refl, I, List.getElem?_eq_getElem hn, hA⟩⟩
    · exact q.elim
  · exact q.elim
theorem l_ix (hk : C.K = X.K) (ha : PE X a (tL C W fl)) (hb : PE X b (tV C W kb fb)) (hs : PlainIx b) : PE X (.Subscript a b pos) (tL C W (lIx fl fb)) := by
  refine pe_imp (pe_ix ix_seq ha hb hs) fun σ H Q ⟨P, ρ, S, A, G, hP, I, q⟩ => ⟨P, ρ, S, A, G, hP, I, EGood.step q (fun _ _ _ _ _ _ z => z) fun l S1 q v H1 p => ?_⟩
  obtain ⟨A1, a, xs, rfl, e1, I1, hget, hA⟩ := p
  refine ⟨P, ρ, S1, A1, G, hP, I1, EGood.step q (fun _ _ _ _ _ _ z => z.trans e1) fun x S2 q u H2 p => ?_⟩
  obtain ⟨A2, g2, e2, I2, r2⟩ := p
  split at q
  case h_2 => exact q.elim
  rename_i k
  have I2' : Sim (C.pr P) ρ S2 A2 G σ H2 := I2.pgw
  obtain rfl := r2.int
  cases hsub : l.sub ρ S2 k with
  | none => rw [hsub] at q; exact q.elim
  | some l' =>
  rw [hsub] at q
  have hA2 := LoA.ext I1 e2 hget hA
  unfold Lo.sub at hsub
  simp only [Option.bind_eq_some_iff] at hsub
  obtain ⟨ys, hy, j, hj, hsub⟩ := hsub
  obtain ⟨a', us, gx, q1, q2, q3, q4, q5, q6, q7, q8, q9⟩ := I2'.lget hy
  rw [hA2] at q1
  cases q1
  have hlen : us.length = ys.length := q4.length
  have fin : ∀ w, us[j]? = some w → Q w H2 → rIx X.K (.ref a) (.int k) H2 Q := fun w hw hq => .inl ⟨a, us, k, w, rfl, rfl, .inl (.inl q2), by unfold atI; rw [hlen, hj]; exact hw, hq⟩
  split at hsub
  · rename_i zs hz
    obtain ⟨w, gl, gz, gr, h1, h2, _, _⟩ := RsL.at' q4 hz
    split at hsub
    · rename_i i p
      cases hsub
      cases h2 with
      | @own b _ vs g e l r =>
        refine fin (.ref b) h1 (q _ H2 ⟨A2, b, zs, rfl, e1.trans e2, I2', ?_, ?_⟩)
        · simp only [Lo.get] at hy ⊢
          split at hy
          · exact getP_app hy hz
          · cases hy
        · simp only [LoA] at hA2 ⊢
          split at hA2
          · exact addrP_app hA2 q2 h1
          · cases hA2
    · cases hsub
  · rename_i m hz
    obtain ⟨w, gl, gz, gr, h1, h2, _, _⟩ := RsL.at' q4 hz
    split at hsub
    · rename_i hm
      cases hsub
      cases h2 with
      | ref hA => exact fin _ h1 (q _ H2 ⟨A2, _, S2[m], rfl, e1.trans e2, I2', List.getElem?_eq_getElem hm, hA⟩)
    · cases hsub
  · cases hsub
theorem RsL.setN {K : PySem.W.Frag} {mg : Str → Option Value} {H : Hp} {A : List Addr} {F : Addr → Prop} : ∀ {xs : List SV} {vs : List V} {g : List Addr} {j : Nat} {z : SV}, RsL K mg H A F xs vs g → xs[j]? = some z → ∃ gl gz gr, g = gl ++ (gz ++ gr) ∧ ∀ z' v' gz', Rs K mg H A F z' v' gz' → RsL K mg H A F (xs.set j z') (vs.set j v') (gl ++ (gz' ++ gr))
  | [], _, _, _, _, _, e => by simp at e
  | x :: xs, _, _, j, z, r, e => by
    cases r with
    | cons r1 r2 =>
      rename_i v vs g1 g2
      cases j with
      | zero => exact ⟨[], g1, g2, rfl, fun z' v' gz' r' => show RsL K mg H A F _ _ (gz' ++ g2) from .cons r' r2⟩
      | succ j =>
        obtain ⟨gl, gz, gr, h3, h4⟩ := RsL.setN r2 (by simpa using e)
        refine ⟨g1 ++ gl, gz, gr, by rw [h3, List.append_assoc], fun z' v' gz' r' => ?_⟩
        rw [List.append_assoc]
        exact .cons r1 (h4 z' v' gz' r')
theorem SGood.step2 {α V1 : Type} {ρ : Rho} {A A1 : List Addr} {G : List (List Addr)} {σ : L2.St} {H H1 : Hp} {D : Ends} {post1 : α → Sto → V1 → Hp → Prop} {m : Option (Res α)} {k : α → Sto → Option Fl} {Q1 : V1 → Hp → Prop} (e : Ext A H A1 H1) (q : SGood C W A G H D (bindS ρ m k))
    (h : ∀ x S', SGood C W A G H D (k x S') → ∀ v H', post1 x S' v H' → Q1 v H') : EGood post1 (XPost C ρ A1 G σ H1) W σ Q1 m := by
  cases m with
  | none => exact q
  | some r =>
    cases r with
    | ok x S' => exact h x S' q
    | exc c fs S' => exact fun cls d H' ⟨A', e', I, r⟩ => q A' G σ H' cls d (e.trans e').s I r
/-! ### x[i] = e -/
def sStore (fl : Rho → Mo Lo) (fi f : Rho → Mo SV) : Rho → Sto → Option Fl := fun ρ S => bindS ρ (f ρ S) fun y S1 => bindS ρ (fl ρ S1) fun l S2 => bindS ρ (fi ρ S2) fun k S3 => match k with
  | .d (.int k) => (l.get ρ S3).bind fun xs => (ixN xs.length k).bind fun j => (l.put ρ S3 (xs.set j y)).map fun p => .nx p.1 p.2
  | _ => none
/-- what comes of a list's change -/
theorem lput_ends {A A3 : List Addr} {G G' : List (List Addr)} {H H3 : Hp} {gn : List Addr} {a : Addr} {ws : List V} (e : Ext A H A3 H3) (hg : ∀ b ∈ gn, H b = none) (ha : a ∈ A3 ++ G.flatten) (hG : ∀ b ∈ G'.flatten, b ∈ G.flatten ∨ b ∈ gn) : ExtS A G H A3 G' (upd H3 a (.lst ws)) := by
  refine ⟨e.pre, fun b m => ?_, fun b o q n => ?_, fun b h => ?_⟩
  · rcases List.mem_append.mp m with m | m
    · exact (e.new b m).imp (List.mem_append_left _) id
    · exact (hG b m).imp (List.mem_append_right _) (hg b)
  · have hb : b ≠ a := fun z => by
      subst z
      rcases List.mem_append.mp ha with z | z
      · rcases e.new b z with w | w
        · exact n (List.mem_append_left _ w)
        · rw [q] at w; cases w
      · exact n (List.mem_append_right _ z)
    rw [upd_ne hb]
    exact e.keep b o q fun z => n (List.mem_append_left _ z)
  · by_cases hb : b = a
    · rw [hb, upd_same]; simp
    · rw [upd_ne hb]; exact e.there b h
theorem s_store {o i : Expr} {pos' : Pos} (hl : PE X o (tL C W fl)) (hi : PE X i (tV C W kb fb)) (he : PE X e (tV C W .fe f)) (hs : swapsWithSole [.Subscript o i pos'] e pos.line X.env = pure false := by rfl) (hw : swappedStores [.Subscript o i pos'] e X.env = pure none := by rfl)
    (h1 : (assignEach [.Subscript o i pos'] X.env).map (·.2) = [assign (.Subscript o i pos') X.env] := by rfl)
    (ha : ∀ v, assign (.Subscript o i pos') X.env v = (do
      let ov ← holding [v] (eval o X.env)
      let iv ← holding [v, ov] (eval i X.env)
      standAt pos'
      holding [v, ov, iv] (setItem ov iv v)
      release [v, ov, iv] []) := by intro _; rfl) : PS X (.Assign [.Subscript o i pos'] e pos) (tS C W (sStore fl fb f)) := by
  refine ps_imp (ps_asg he (L2.pg_sub hl hi set_list ha) hs hw h1) fun D σ H ⟨ρ, S, A, G, I, q⟩ => ⟨C.Pr, ρ, S, A, G, fun _ h => h, I, SGood.step q fun y S1 q v H1 p => ?_⟩
  obtain ⟨A1, gn, e1, I1, r1⟩ := p
  have I1 : Sim (C.pr fun b => C.Pr b ∨ b ∈ gn) ρ S1 A1 G σ H1 := I1
  refine ⟨fun b => C.Pr b ∨ b ∈ gn, ρ, S1, A1, G, fun _ h => .inl h, I1, SGood.step2 e1 q fun l S2 q v2 H2 p => ?_⟩
  obtain ⟨A2, a, xs2, rfl, e2, I2, hget, hA⟩ := p
  refine ⟨fun b => C.Pr b ∨ b ∈ gn, ρ, S2, A2, G, fun _ h => .inl h, I2, SGood.step2 (e1.trans e2) q fun k S3 q v3 H3 p => ?_⟩
  obtain ⟨A3, g3, e3, I3, r3⟩ := p
  have I3 : Sim (C.pr fun b => C.Pr b ∨ b ∈ gn) ρ S3 A3 G σ H3 := Sim.pgw (C := C.pr fun b => C.Pr b ∨ b ∈ gn) (kd := kb) I3
  split at q
  case h_2 => exact q.elim
  rename_i k
  obtain rfl := r3.int
  cases hx : l.get ρ S3 with
  | none => rw [hx] at q; exact q.elim
  | some xs =>
  rw [hx] at q
  simp only [Option.bind_some] at q
  cases hj : ixN xs.length k with
  | none => rw [hj] at q; exact q.elim
  | some j =>
  rw [hj] at q
  simp only [Option.bind_some] at q
  cases hput : l.put ρ S3 (xs.set j y) with
  | none => rw [hput] at q; exact q.elim
  | some p =>
  obtain ⟨ρ', S'⟩ := p
  rw [hput] at q
  have hA3 := LoA.ext I2 e3 hget hA
  obtain ⟨a', us, gx, q1, q2, q3, q4, q5, q6, q7, q8, q9⟩ := I3.lget hx
  rw [hA3] at q1
  cases q1
  have hlen : us.length = xs.length := q4.length
  have e13 := e2.trans e3
  have ry : Rk (C.pr C.Pr) .fe gn A3 G H H3 y v := Rk.ext (C := C.pr C.Pr) e13 r1
  obtain ⟨ry, ngn, hgn⟩ := ry
  have hj2 := ixN_seq hj
  have hxj : xs[j]? = some xs[j] := List.getElem?_eq_getElem hj2.2.1
  have nF : ∀ b ∈ gn, ¬ C.Pr b := fun b m z => (I.prot b z).2 (hgn b m).1
  obtain ⟨G', J, sG⟩ := Sim.lput (C := C) (ys := xs.set j y) (ws := us.set j v) I3 ngn (fun b m => I.e0 b (hgn b m).1) nF hx hA3 q2 (by rw [List.length_set]; exact q3) hput (fun gx r n d => by
    obtain ⟨gl, gz, gr, h3, h4⟩ := RsL.setN r hxj
    subst h3
    have n1 := List.nodup_append.mp n
    have n2 := List.nodup_append.mp n1.2.1
    have mgn : ∀ b, (Fs (C.pr fun a => C.Pr a ∨ a ∈ gn) A3 G b) → (Fs (C.pr C.Pr) A3 G b ∨ b ∈ gn) := fun b z => by
      rcases z with z | z | z | z
      · exact .inl (.inl z)
      · exact .inl (.inr (.inl z))
      · exact .inl (.inr (.inr z))
      · exact .inr z
    have rset : RsL C.K C.mg H3 A3 (Fs (C.pr fun a => C.Pr a ∨ a ∈ gn) A3 G) (xs.set j y) (us.set j v) (gl ++ (gn ++ gr)) := by
      exact h4 y v gn (Rs.mono (fun _ _ q => q) (fun b z => .inl (mgn b z)) (fun b o q n => q) _ _ _ (fun b m o q => q) ry)
    refine ⟨_, rset, List.nodup_append.mpr ⟨n1.1, List.nodup_append.mpr ⟨ngn, n2.2.1, fun b m c m' e => ?_⟩, fun b m c m' e => ?_⟩, fun b m => ?_⟩
    · subst e
      exact d b (List.mem_append_right _ (List.mem_append_right _ m')) m
    · subst e
      rcases List.mem_append.mp m' with m' | m'
      · exact d b (List.mem_append_left _ m) m'
      · exact n1.2.2 b m b (List.mem_append_right _ m') rfl
    · rcases List.mem_append.mp m with m | m
      · exact .inl (List.mem_append_left _ m)
      · rcases List.mem_append.mp m with m | m
        · exact .inr m
        · exact .inl (List.mem_append_right _ (List.mem_append_right _ m)))
  refine ⟨a, us, k, j, rfl, rfl, q2, by rw [hlen]; exact hj, ?_⟩
  exact q _ _ _ _ (lput_ends (e1.trans e13) (fun b m => (hgn b m).1) q7 sG) J
/-! ### x.append(e) -/
def sAppend (fl : Rho → Mo Lo) (fs : Rho → Mo (List SV)) : Rho → Sto → Option Fl := fun ρ S => bindS ρ (fl ρ S) fun l S1 => bindS ρ (fs ρ S1) fun ys S2 => match ys with
  | [y] => (l.get ρ S2).bind fun xs => if xs.length < sizeLine then (l.put ρ S2 (xs ++ [y])).map fun p => .nx p.1 p.2 else none
  | _ => none
theorem RsL.lref {K : PySem.W.Frag} {H : Hp} {a : Addr} {us : List V} (h : H a = some (.lst us)) : tyV K "list" (.ref a) H := .inl ⟨rfl, us, .inl (.inl h)⟩
theorem s_append {o e : Expr} {es : List Expr} {apos cpos : Pos} (hl : PE X o (tL C W fl)) (ha : PA X (e :: es) (tVs C W .fe fs)) (hs : swapsWith (.Call (.Attribute o "append" apos) (e :: es) [] cpos) none pos.line X.env = pure false := by rfl)
    (hbase : attributeBase o "append" X.env (eval o X.env) = eval o X.env := by rfl)
    (hfew : ((backTo cpos (starEach (e :: es) X.env)).all (fun x => !x.1) && (backToKw cpos (keywordEach [] X.env)).all (fun x => x.1.isSome)
      && decide ((e :: es).length + ([] : List Keyword).length + (if ([] : List Keyword).isEmpty then 0 else 1) < 30)) = true := by rfl)
    (hline : (apos.endLine == cpos.line) = true := by rfl) (hst : starEach (e :: es) X.env = (false, eval e X.env) :: starEach es X.env := by rfl) (hplain : (backTo cpos (starEach es X.env)).any (·.1) = false := by rfl) :
    PS X (.Expr (.Call (.Attribute o "append" apos) (e :: es) [] cpos) pos) (tS C W (sAppend fl fs)) := by
  refine ps_imp (ps_expr (pe_bm PySem.F.plainAttrs_list PySem.F.slot_list_append PySem.F.type_list_append mt_append hl ha hbase hfew hline hst hplain) hs) fun D σ H ⟨ρ, S, A, G, I, q⟩ => ⟨C.Pr, ρ, S, A, G, fun _ h => h, I, SGood.step q fun l S2 q v2 H2 p => ?_⟩
  obtain ⟨A2, a, xs2, rfl, e2, I2, hget, hA⟩ := p
  obtain ⟨a', us0, gx0, w1, w2, _⟩ := I2.lget hget
  rw [hA] at w1
  cases w1
  refine ⟨RsL.lref w2, C.Pr, ρ, S2, A2, G, fun _ h => h, I2, SGood.step2 e2 q fun ys S3 q v3 H3 p => ?_⟩
  obtain ⟨A3, gn, e3, I3, r3⟩ := p
  have I3 : Sim (C.pr fun b => C.Pr b ∨ b ∈ gn) ρ S3 A3 G σ H3 := I3
  split at q
  case h_2 => exact q.elim
  rename_i y
  cases hx : l.get ρ S3 with
  | none => rw [hx] at q; exact q.elim
  | some xs =>
  rw [hx] at q
  simp only [Option.bind_some] at q
  split at q
  case isFalse => exact q.elim
  rename_i hlt
  cases hput : l.put ρ S3 (xs ++ [y]) with
  | none => rw [hput] at q; exact q.elim
  | some p =>
  obtain ⟨ρ', S'⟩ := p
  rw [hput] at q
  have hA3 := LoA.ext I2 e3 hget hA
  obtain ⟨a', us, gx, q1, q2, q3, q4, q5, q6, q7, q8, q9⟩ := I3.lget hx
  rw [hA3] at q1
  cases q1
  have hlen : us.length = xs.length := q4.length
  obtain ⟨ry, ngn, hgn⟩ := r3
  cases ry with
  | @cons _ _ v _ gn _ ry rn =>
  cases rn
  simp only [List.append_nil] at ngn hgn I3 ry
  have hgn0 : ∀ b ∈ gn, H b = none := fun b m => none_back e2 (hgn b m).1
  have nF : ∀ b ∈ gn, ¬ C.Pr b := fun b m z => (I.prot b z).2 (hgn0 b m)
  obtain ⟨G', J, sG⟩ := Sim.lput (C := C) (ys := xs ++ [y]) (ws := us ++ [v]) I3 ngn (fun b m => I.e0 b (hgn0 b m)) nF hx hA3 q2 (by rw [List.length_append, List.length_singleton]; omega) hput (fun gx r n d => by
    have mgn : ∀ b, (Fs (C.pr fun a => C.Pr a ∨ a ∈ gn) A3 G b) → (Fs (C.pr C.Pr) A3 G b ∨ b ∈ gn) := fun b z => by
      rcases z with z | z | z | z
      · exact .inl (.inl z)
      · exact .inl (.inr (.inl z))
      · exact .inl (.inr (.inr z))
      · exact .inr z
    have ryF : Rs C.K C.mg H3 A3 (Fs (C.pr fun a => C.Pr a ∨ a ∈ gn) A3 G) y v gn := Rs.mono (fun _ _ q => q) (fun b z => .inl (mgn b z)) (fun b o q n => q) _ _ _ (fun b m o q => q) ry
    have r1 : RsL C.K C.mg H3 A3 (Fs (C.pr fun a => C.Pr a ∨ a ∈ gn) A3 G) [y] [v] gn := by
      have := RsL.cons ryF RsL.nil
      rw [List.append_nil] at this
      exact this
    exact ⟨gx ++ gn, RsL.app r r1, List.nodup_append.mpr ⟨n, ngn, fun b m c m' e => d b m (by rw [e]; exact m')⟩, fun b m => List.mem_append.mp m⟩)
  exact ⟨a, us, v, rfl, rfl, q2, by omega, q _ _ _ _ (lput_ends (e2.trans e3) hgn0 q7 sG) J⟩
/-! ### y = x.pop(), x.pop() -/
def popL (fl : Rho → Mo Lo) (k : Rho → Sto → SV → Option Fl) : Rho → Sto → Option Fl := fun ρ S => bindS ρ (fl ρ S) fun l S1 => (l.get ρ S1).bind fun xs => (xs[xs.length - 1]?).bind fun y => if noOwn y then (l.put ρ S1 xs.dropLast).bind fun p => k p.1 p.2 y else none
def sPop (fl : Rho → Mo Lo) (i : Nat) : Rho → Sto → Option Fl := popL fl fun ρ S y => some (.nx (ρ.set i (some y)) S)
def sPopD (fl : Rho → Mo Lo) : Rho → Sto → Option Fl := popL fl fun ρ S _ => some (.nx ρ S)
theorem RsL.dropLast {K : PySem.W.Frag} {mg : Str → Option Value} {H : Hp} {A : List Addr} {F : Addr → Prop} : ∀ {xs : List SV} {vs : List V} {g : List Addr}, RsL K mg H A F xs vs g → ∃ g', RsL K mg H A F xs.dropLast vs.dropLast g' ∧ g'.Sublist g
  | [], _, _, r => by cases r; exact ⟨[], .nil, List.Sublist.refl _⟩
  | [x], _, _, r => by
    cases r with
    | cons r1 r2 => cases r2; exact ⟨[], .nil, List.nil_sublist _⟩
  | x :: y :: xs, _, _, r => by
    cases r with
    | cons r1 r2 =>
      obtain ⟨g', r', s⟩ := RsL.dropLast r2
      cases r2 with
      | cons r3 r4 => exact ⟨_, .cons r1 r', List.Sublist.append_left s _⟩
theorem t_pop {k : Rho → Sto → SV → Option Fl} {D : Ends} {σ : L2.St} {H : Hp} {Q : VK}
    (hQ : ∀ (ρ' : Rho) (S' : Sto) (y : SV) (A' : List Addr) (G' : List (List Addr)) (v : V) (H' : Hp) (A : List Addr) (G : List (List Addr)) (H0 : Hp), SGood C W A G H0 D (k ρ' S' y) → ExtS A G H0 A' G' H' → Sim C ρ' S' A' G' σ H' → Rs C.K C.mg H' A' (Fs C A' G') y v [] → Q v H')
    (h : tS C W (popL fl k) D σ H) : tBM0 C.K "list" rPop (tL C W fl) σ H Q := by
  obtain ⟨ρ, S, A, G, I, q⟩ := h
  refine ⟨C.Pr, ρ, S, A, G, fun _ h => h, I, SGood.step q fun l S2 q v2 H2 p => ?_⟩
  obtain ⟨A2, a, xs, rfl, e2, I2, hx, hA⟩ := p
  have I2 : Sim C ρ S2 A2 G σ H2 := I2
  rw [hx] at q
  simp only [Option.bind_some] at q
  obtain ⟨a', us, gx, q1, q2, q3, q4, q5, q6, q7, q8, q9⟩ := I2.lget hx
  rw [hA] at q1
  cases q1
  have hlen : us.length = xs.length := q4.length
  cases hy : xs[xs.length - 1]? with
  | none => rw [hy] at q; exact q.elim
  | some y =>
  rw [hy] at q
  simp only [Option.bind_some] at q
  split at q
  case isFalse => exact q.elim
  rename_i hno
  cases hput : l.put ρ S2 xs.dropLast with
  | none => rw [hput] at q; exact q.elim
  | some p =>
  obtain ⟨ρ', S'⟩ := p
  rw [hput] at q
  simp only [Option.bind_some] at q
  obtain ⟨v, gl, gz, gr, h1, h2, _, _⟩ := RsL.at' q4 hy
  obtain rfl := h2.noOwn hno
  have I3 : Sim (C.pr fun b => C.Pr b ∨ b ∈ ([] : List Addr)) ρ S2 A2 G σ H2 := I2.prc fun b h => h.elim id fun m => by cases m
  obtain ⟨G', J, sG⟩ := Sim.lput (C := C) (ys := xs.dropLast) (ws := us.dropLast) I3 List.nodup_nil (fun b m => by cases m) (fun b m => by cases m) hx hA q2 (by rw [List.length_dropLast]; omega) hput (fun gx r n d => by
    obtain ⟨g', r', s⟩ := RsL.dropLast r
    exact ⟨g', r', n.sublist s, fun b m => .inl (s.subset m)⟩)
  refine ⟨RsL.lref q2, a, us, v, rfl, rfl, q2, by rw [hlen]; exact h1, ?_⟩
  refine hQ _ _ _ _ _ _ _ A G H q (lput_ends e2 (fun b m => by cases m) q7 sG) J (Rs.mono (fun _ _ q => q) (fun b z => ?_) (fun b o q n => ?_) _ _ _ (fun b m => by cases m) h2)
  · rcases z with z | z | z
    · exact .inl (.inl z)
    · exact .inl (.inr (.inl ((sG b z).elim id fun m => by cases m)))
    · exact .inl (.inr (.inr z))
  · rw [upd_ne (show b ≠ a from fun e => n (by
      subst e
      rcases List.mem_append.mp q7 with z | z
      · exact .inl z
      · exact .inr (.inl z)))]
    exact q
theorem s_pop {i : Nat} {x : Str} {o : Expr} {apos cpos pos' : Pos} (hk : C.K = X.K) (hN : X.N.Nodup) (hi : X.N[i]? = some x) (hx : Loc X.env.scope x) (hl : PE X o (tL C W fl)) (hs : swapsWith (.Call (.Attribute o "pop" apos) [] [] cpos) (some (.Name x pos')) pos.line X.env = pure false := by rfl)
    (hf : X.fn x = true ∨ X.env.scope.names.lookup x = some .local := by first | exact .inl rfl | exact .inr rfl | assumption)
    (hbase : attributeBase o "pop" X.env (eval o X.env) = eval o X.env := by rfl) (hline : (apos.endLine == cpos.line) = true := by rfl) :
    PS X (.Assign [.Name x pos'] (.Call (.Attribute o "pop" apos) [] [] cpos) pos) (tS C W (sPop fl i)) := by
  refine ps_imp (ps_set hN hi hx (pe_bm0 PySem.F.plainAttrs_list PySem.F.slot_list_pop PySem.F.type_list_pop mt_pop hl hbase hline) hs hf) fun D σ H h => ?_
  rw [← hk]
  refine t_pop (k := fun ρ S y => some (.nx (ρ.set i (some y)) S)) (fun ρ' S' y A' G' v H' A G H0 q e J r => ?_) h
  exact q _ _ _ _ e (J.putV r)
theorem s_popD {o : Expr} {apos cpos : Pos} (hk : C.K = X.K) (hl : PE X o (tL C W fl)) (hs : swapsWith (.Call (.Attribute o "pop" apos) [] [] cpos) none pos.line X.env = pure false := by rfl)
    (hbase : attributeBase o "pop" X.env (eval o X.env) = eval o X.env := by rfl) (hline : (apos.endLine == cpos.line) = true := by rfl) :
    PS X (.Expr (.Call (.Attribute o "pop" apos) [] [] cpos) pos) (tS C W (sPopD fl)) := by
  refine ps_imp (ps_expr (pe_bm0 PySem.F.plainAttrs_list PySem.F.slot_list_pop PySem.F.type_list_pop mt_pop hl hbase hline) hs) fun D σ H h => ?_
  rw [← hk]
  exact t_pop (k := fun ρ S y => some (.nx ρ S)) (fun ρ' S' y A' G' v H' A G H0 q e J r => q _ _ _ _ e J) h
end
end VL

end
section
set_option Elab.async false
set_option linter.all false
set_option maxRecDepth 100000
/-! VL14: a law's defs, its end. -/
namespace VL
open PySem PySem.Spec PyProof.Rows L2

/-- no name of a builtin is the module's own -/
structure Fr (mg : Str → Option Value) : Prop where
  len : mg "len" = none
  range : mg "range" = none
  isinstance : mg "isinstance" = none
  int : mg "int" = none
  bool : mg "bool" = none
  str : mg "str" = none
  tuple : mg "tuple" = none
  list : mg "list" = none
  abs : mg "abs" = none
  max : mg "max" = none
  min : mg "min" = none
  all : mg "all" = none
  any : mg "any" = none
  sum : mg "sum" = none
  sorted : mg "sorted" = none
  enumerate : mg "enumerate" = none
  zip : mg "zip" = none
  set : mg "set" = none
  dict : mg "dict" = none
  repr : mg "repr" = none
/-- a constant of the module -/
structure GlobC (K : PySem.W.Frag) (mg : Str → Option Value) (x : Str) (d : PyData) : Prop where
  ex : ∃ u v, mg x = some u ∧ RelV v u ∧ ∀ (H : Hp) (F : Addr → Prop), Dq K H F d v
section
variable {X : Cx} {C : Ct} {W : WX} {kd : Kd} {pos : Pos} {x : Str} {d : PyData}
theorem v_gc (hK : C.K = X.K) (G : GlobC X.K X.mg x d) (hg : Gl X x) (hd : (x == ("__debug__" : Str)) = false := by decide) : PE X (.Name x pos) (tV C W kd (eCon d)) := by
  obtain ⟨u, v, hm, r, q⟩ := G.ex
  exact v_glob hg hm r (by rw [hK]; exact q) hd
theorem v_fnD {P : Program} {w : World} {base : Heap} {k n : Nat} {F : List SV → Mo SV} (hM : C.mg = X.mg) (D : DefOk P w X.K X.mg base k x n F) (hg : Gl X x) (hd : (x == ("__debug__" : Str)) = false := by decide) : PE X (.Name x pos) (tV C W kd (eFn x)) := by
  obtain ⟨f, fd, ps, _, hm, _⟩ := D.ex
  exact v_fn hM hg hm hd
end
section
variable {P : Program} {w : World} {K : PySem.W.Frag} {mg : Str → Option Value} {base : Heap} {x qual : Str} {params : Arguments} {body : List Stmt} {scope : Scope} {f : Addr} {fd : FuncData} {N ps : List Str} {k : Nat} {fb : Rho → Sto → Option Fl}
theorem fn_vl2 (F : FunD K x qual params body scope [] [] f fd) (Sc : FnScope N ps scope) (hl : ps.length ≤ N.length)
    (hb : ∀ (cdv : Value) (A : Around) (outer : List Env) (s : Shared) (H : Hp) (E : XK), Room k (A.deeper (envOfC qual scope s.heap.objs.size f cdv)) → ∀ (E0 : Hp) (A0 : List Addr) (Pr : Addr → Prop),
      PSs (cxOf (L2.CX P w) P w K mg base N qual scope f cdv A outer s H E) body (tS ⟨K, mg, E0, A0, Pr⟩ (fun cls d _ H => E cls d H) fb)) : FnOk P w K mg base (L2.CX P w) (k + 1) f fd ps (spF K mg ps.length (runF N.length fb)) := by
  refine fn_vl F Sc hl fun cdv A outer s H E hr C hK hm => ?_
  obtain ⟨K', mg', E0, A0, Pr⟩ := C
  have hK : K' = K := hK
  have hm : mg' = mg := hm
  subst hK
  subst hm
  exact hb cdv A outer s H E hr E0 A0 Pr
theorem mk_def (F : FunD K x qual params body scope [] [] f fd) (hm : mg x = some (.ref f)) (Sc : FnScope N ps scope) (hl : ps.length ≤ N.length)
    (hbind : ∀ (kV doc pm : Value) (an : Option Addr) (cdv ct : Value) (us : List Value), us.length = ps.length → bindArgs (PySem.W.fnOf x qual params body scope .none kV doc pm an cdv ct) ⟨us, []⟩ = pure (ps.zip us))
    (hb : ∀ (cdv : Value) (A : Around) (outer : List Env) (s : Shared) (H : Hp) (E : XK), Room k (A.deeper (envOfC qual scope s.heap.objs.size f cdv)) → ∀ (E0 : Hp) (A0 : List Addr) (Pr : Addr → Prop),
      PSs (cxOf (L2.CX P w) P w K mg base N qual scope f cdv A outer s H E) body (tS ⟨K, mg, E0, A0, Pr⟩ (fun cls d _ H => E cls d H) fb)) : DefOk P w K mg base (k + 1) x ps.length (runF N.length fb) :=
  ⟨f, fd, ps, fn_vl2 F Sc hl hb, hm, F.kp, F.bindsN hbind⟩
theorem DefOk.mono {j k n : Nat} {Fn : List SV → Mo SV} (D : DefOk P w K mg base j x n Fn) (h : j ≤ k) : DefOk P w K mg base k x n Fn := by
  obtain ⟨f, fd, ps, F, hm, hk, hb⟩ := D.ex
  exact ⟨f, fd, ps, F.mono h, hm, hk, hb⟩
end
/-- the law's promise -/
theorem spF_law {K : PySem.W.Frag} {mg : Str → Option Value} {Fn : List SV → Mo SV} {H : Hp} {a : Addr} {ns : List Int} {S' : Sto} (hl : ns.length ≤ sizeLine) (hO : Only H) (hS : SqL K H a (ns.map V.int)) (h : Fn [.scr ns] [] = some (.ok (.d (.bool true)) S')) :
    spF K mg 1 Fn [.ref a] H (fun v _ => v = .bl true) fun _ _ _ => False := by
  refine ⟨rfl, ⟨K, mg, H, [], fun _ => False⟩, [.scr ns], [], rfl, rfl, rfl, ⟨?_, rfl, List.nodup_nil, (fun b m => by cases m), (fun b m => False.elim m), fun n xs e => by cases n <;> cases e⟩, ?_⟩
  · refine .cons (g := []) (g' := []) ?_ .nil
    have nf : ¬ (a ∈ ([] : List Addr) ∨ False) := fun z => by rcases z with z | z <;> cases z
    rcases hS with hS | hS
    · rcases hS with hS | ⟨o, hS⟩
      · rcases hO a with e | ⟨o, xs, e⟩
        · rw [hS] at e; cases e
        · rw [hS] at e; cases e
      · exact .scr hS nf hl
    · exact .scrK (.inr hS) hl
  · rw [h]
    rintro v H' ⟨A', g, R, r⟩
    obtain ⟨_, r⟩ := r.nil_d
    cases r
    rfl
theorem walk_vl {l : PySem.W.OpenLaw} {n k : Nat} {q : Program} {loose : List Str} {XP : (Str → Option Value) → Heap → Prop} {YP : World → Heap → Prop} {d : DefRec} {x : Str} {Fn : List SV → Mo SV}
    (hn : l.most = some n) (hn2 : n ≤ sizeLine) (hdf : d.params.defaults = []) (hr : Room k callerA)
    (hlaw : ∀ ns : List Int, ns.length ≤ n → (∀ z ∈ ns, Builtin.Int.intBits z ≤ 1048576) → ∃ S, Fn [.scr ns] [] = some (.ok (.d (.bool true)) S))
    (F : ∀ (w : World) (mg : Str → Option Value) (fa : Addr) (h : Heap), YP w h → h.Ns mainGlobals mg → mg d.name = some (.ref fa) →
      ∃ (K : PySem.W.Frag) (fd : FuncData), K.In h ∧ (∀ (s : Shared) (u : Value), BindsTo s fd ⟨[u], []⟩ [(x, u)]) ∧
        ∀ base : Heap, K.In base → base.Ns mainGlobals mg → FnOk l.prog w K mg base (L2.CX l.prog w) k fa fd [x] (spF K mg 1 Fn)) :
    PySem.W.WalkO q loose XP YP l.row.toRowW d [] (fun f vs => PySem.call f vs) := by
  refine Att.attach_callB hn hdf fun w s₀ s₁ mg mb fa o pm cd doc a vs ns G Y ho hd hcd hmg hobj hints hlen hbits hg => ?_
  obtain ⟨K, fd, KX, hb, hF⟩ := F w mg fa _ Y G.T.g hmg
  obtain ⟨S, hS⟩ := hlaw ns hlen hbits
  exact law_call KX G.T.g G.T.b G.T.builtins G.T.nolimit hg hobj hints (Nat.le_trans hlen hn2) hr hF hb (fun H hO hs => spF_law (Nat.le_trans hlen hn2) hO hs hS) fun H e s' z => by
    obtain ⟨_, _, _, _, _, _, _, _, _, _, _, _, z⟩ := z
    exact z
abbrev FnP (K : PySem.W.Frag) (x : Str) (st : Stmt) (f : Addr) (fd : FuncData) : Prop := FunD K x x (defArgs st) (defBody st) (defScope st) [] [] f fd
end VL

end
section
set_option Elab.async false
set_option linter.all false
set_option maxRecDepth 100000
/-! VL15: short names for what a program prints. -/
namespace VL
open PySem PySem.Spec PyProof.Rows L2
section
variable {X : Cx} {C : Ct} {W : WX} {kd ka kb : Kd} {a b c e : Expr} {es : List Expr} {pos : Pos} {f fa fb fc : Rho → Mo SV} {fs : Rho → Mo (List SV)}
theorem u65 {k : Nat} {A : Around} (r : Room k A) : A.units + 65 < cLine := by have := r.un; omega
theorem t_lt (hk : C.K = X.K) (hu : X.A.units + 64 < cLine) (ha : PE X a (tV C W ka fa)) (hb : PE X b (tV C W kb fb)) : PT X (.Compare a [.Lt] [b] pos) (tTs C W (bB (eBin (cB gLt) fa fb))) := t_cmp (op_lt.or (op_ltD hu)) (hk ▸ c_lt) ha hb (nomark _)
theorem t_le (ha : PE X a (tV C W ka fa)) (hb : PE X b (tV C W kb fb)) : PT X (.Compare a [.LtE] [b] pos) (tTs C W (bB (eBin (cB gLe) fa fb))) := t_cmp op_le (c_le (K := C.K)) ha hb (nomark _)
theorem t_gt (ha : PE X a (tV C W ka fa)) (hb : PE X b (tV C W kb fb)) : PT X (.Compare a [.Gt] [b] pos) (tTs C W (bB (eBin (cB gGt) fa fb))) := t_cmp op_gt (c_gt (K := C.K)) ha hb (nomark _)
theorem t_ge (ha : PE X a (tV C W ka fa)) (hb : PE X b (tV C W kb fb)) : PT X (.Compare a [.GtE] [b] pos) (tTs C W (bB (eBin (cB gGe) fa fb))) := t_cmp op_ge (c_ge (K := C.K)) ha hb (nomark _)
theorem t_eq (hk : C.K = X.K) (hu : X.A.units + 64 < cLine) (ha : PE X a (tV C W ka fa)) (hb : PE X b (tV C W kb fb)) : PT X (.Compare a [.Eq] [b] pos) (tTs C W (bB (eBin (cB gEq) fa fb))) := t_cmp (op_eqD hu) (hk ▸ c_eq) ha hb (nomark _)
theorem t_ne (hk : C.K = X.K) (hu : X.A.units + 64 < cLine) (ha : PE X a (tV C W ka fa)) (hb : PE X b (tV C W kb fb)) : PT X (.Compare a [.NotEq] [b] pos) (tTs C W (bB (eBin (cB gNe) fa fb))) := t_cmp (op_neD hu) (hk ▸ c_ne) ha hb (nomark _)
theorem t_isN (ha : PE X a (tV C W ka fa)) (hb : PE X b (tV C W kb fb)) : PT X (.Compare a [.Is] [b] pos) (tTs C W (bB (eBin (cB gIsN) fa fb))) := t_cmp op_isN (c_isN (K := C.K)) ha hb (nomark _)
theorem t_notN (ha : PE X a (tV C W ka fa)) (hb : PE X b (tV C W kb fb)) : PT X (.Compare a [.IsNot] [b] pos) (tTs C W (bB (eBin (cB gNotN) fa fb))) := t_cmp op_notN (c_notN (K := C.K)) ha hb (nomark _)
theorem t_in (hk : C.K = X.K) (hu : X.A.units + 65 < cLine) (ha : PE X a (tV C W ka fa)) (hb : PE X b (tV C W kb fb)) (hm : behindInMarks .In b = false := by rfl) : PT X (.Compare a [.In] [b] pos) (tTs C W (bB (eBin (cB gIn) fa fb))) := t_cmp (op_inD hu) (hk ▸ c_in) ha hb hm
theorem t_notIn (hk : C.K = X.K) (hu : X.A.units + 65 < cLine) (ha : PE X a (tV C W ka fa)) (hb : PE X b (tV C W kb fb)) (hm : behindInMarks .NotIn b = false := by rfl) : PT X (.Compare a [.NotIn] [b] pos) (tTs C W (bB (eBin (cB gNotIn) fa fb))) := t_cmp (op_notInD hu) (hk ▸ c_notIn) ha hb hm
end
section
variable {X : Cx} {C : Ct} {W : WX} {kd ka kb : Kd} {e : Expr} {es : List Expr} {pos p : Pos} {fs : Rho → Mo (List SV)}
theorem boot_tuple' : bootBuiltins "tuple" = some (.type "tuple") := by decide +kernel
theorem boot_list' : bootBuiltins "list" = some (.type "list") := by decide +kernel
theorem boot_int' : bootBuiltins "int" = some (.type "int") := by decide +kernel
theorem boot_bool' : bootBuiltins "bool" = some (.type "bool") := by decide +kernel
theorem boot_str' : bootBuiltins "str" = some (.type "str") := by decide +kernel
theorem boot_len' : bootBuiltins "len" = some (.builtin "len") := by decide +kernel
theorem boot_abs' : bootBuiltins "abs" = some (.builtin "abs") := by decide +kernel
theorem boot_max' : bootBuiltins "max" = some (.builtin "max") := by decide +kernel
theorem boot_min' : bootBuiltins "min" = some (.builtin "min") := by decide +kernel
theorem boot_all' : bootBuiltins "all" = some (.builtin "all") := by decide +kernel
theorem boot_any' : bootBuiltins "any" = some (.builtin "any") := by decide +kernel
theorem boot_sum' : bootBuiltins "sum" = some (.builtin "sum") := by decide +kernel
end
/-- a, b, c = x, y, z -/
def sPar3 (i j l : Nat) (fs : Rho → Mo (List SV)) : Rho → Sto → Option Fl := fun ρ S => bindS ρ (fs ρ S) fun xs S1 => (frzs xs).bind fun ys => match ys with
  | [x, y, z] => some (.nx (((ρ.set i (some x)).set j (some y)).set l (some z)) S1)
  | _ => none
theorem new_notL {C : Ct} {P : Addr → Prop} {ρ : Rho} {S : Sto} {A A1 : List Addr} {G : List (List Addr)} {σ : L2.St} {H H1 : Hp} {g : List Addr} (I : Sim (C.pr P) ρ S A G σ H) {xs : List SV} {vs : List V} (r : RkL (C.pr P) .fe g A1 G H H1 xs vs) : ∀ a ∈ g, ¬ Fs (C.pr P) A1 G a := fun a m z => by
  obtain ⟨h0, _, hA⟩ := r.2.2 a m
  rcases z with z | z | z
  · exact hA z
  · exact I.trk a (List.mem_append_right _ z) h0
  · exact I.prTrk z h0
theorem s_par3 {X : Cx} {C : Ct} {W : WX} {i j l : Nat} {x y z : Str} {a b c : Expr} {px py pz pt pos : Pos} {kt k2 pt2} {fs : Rho → Mo (List SV)} (hc : X.calm = true) (hN : X.N.Nodup) (hi : X.N[i]? = some x) (hj : X.N[j]? = some y) (hl : X.N[l]? = some z) (hij : i ≠ j) (hil : i ≠ l) (hjl : j ≠ l)
    (hx : X.env.scope.names.lookup x = some .local) (hy : X.env.scope.names.lookup y = some .local) (hz : X.env.scope.names.lookup z = some .local) (ha : PA X [a, b, c] (tVs C W .fe fs))
    (hw : swappedStores [.Tuple [.Name x px, .Name y py, .Name z pz] kt pt] (.Tuple [a, b, c] k2 pt2) X.env = pure (some [x, y, z]))
    (hs : swapsWithSole [.Tuple [.Name x px, .Name y py, .Name z pz] kt pt] (.Tuple [a, b, c] k2 pt2) pos.line X.env = pure false := by rfl) :
    PS X (.Assign [.Tuple [.Name x px, .Name y py, .Name z pz] kt pt] (.Tuple [a, b, c] k2 pt2) pos) (tS C W (sPar3 i j l fs)) := by
  refine ps_imp (ps_par3 hc hN hi hj hl hij hil hjl hx hy hz ha hw hs) fun D σ H ⟨ρ, S, A, G, I, q⟩ => ⟨C.Pr, ρ, S, A, G, fun _ h => h, I, SGood.step q fun xs S1 q vs H1 p => ?_⟩
  obtain ⟨A1, g, e1, I1, r⟩ := p
  have I1' : Sim C ρ S1 A1 G σ H1 := Sim.prw (C := C) (P := fun a => C.Pr a ∨ a ∈ g) I1 fun a h => .inl h
  cases hf : frzs xs with
  | none => rw [hf] at q; exact q.elim
  | some ys =>
  rw [hf] at q
  simp only [Option.bind_some] at q
  have ry : RsL C.K C.mg H1 A1 (Fs C A1 G) ys vs [] := RkL.frz (C := C) r (new_notL (P := C.Pr) (S := S) I r) hf
  split at q
  case h_2 => exact q.elim
  rename_i x y z
  have hlen : vs.length = 3 := ry.length
  match vs, hlen with
  | [v1, v2, v3], _ =>
  obtain ⟨_, e1', r1⟩ := RsL.get1 (i := 0) ry rfl
  cases e1'
  obtain ⟨_, e2', r2⟩ := RsL.get1 (i := 1) ry rfl
  cases e2'
  obtain ⟨_, e3', r3⟩ := RsL.get1 (i := 2) ry rfl
  cases e3'
  exact ⟨v1, v2, v3, rfl, q _ _ _ _ e1.s (((I1'.putV r1).putV r2).putV r3)⟩
end VL

end
section
set_option Elab.async false
set_option linter.all false
set_option maxRecDepth 100000
/-! VL16: more short names. -/
namespace VL
open PySem PySem.Spec PyProof.Rows L2
section
variable {X : Cx} {C : Ct} {W : WX} {tg elt iter : Expr} {ifs : List Expr} {scope : Scope} {own : List (Str × Nat)} {pos spos py : Pos} {fi : Rho → Mo (List SV)} {ft : Rho → Mo Bool} {fe : Rho → Mo SV} {tf : TgF} {is : List Nat} {g : TG} {i : Nat} {y : Str}
theorem s_setLc (hy : X.N[i]? = some y) (hyl : X.env.scope.names.lookup y = some .local) (hc : X.calm = true) (hN : X.N.Nodup) (hi : PI X tg iter (tI C W false fi)) (ok : BlkOk X.N X.env.scope scope own) (hg : ∀ (s : Shared) (H : Hp) (Ca : Addr) (cl : List (Str × Addr)) (fp : List Addr), PG (X.blk s H scope (compEnvC scope cl Ca X.env) fp) tg g) (hgo : GOk C tf is g)
    (his : ∀ j ∈ is, j ∈ own.map (·.2)) (ht : ∀ (s : Shared) (H : Hp) (Ca : Addr) (cl : List (Str × Addr)) (fp : List Addr), PTs (X.blk s H scope (compEnvC scope cl Ca X.env) fp) ifs (tTs C WF ft))
    (he : ∀ (s : Shared) (H : Hp) (Ca : Addr) (cl : List (Str × Addr)) (fp : List Addr), PE (X.blk s H scope (compEnvC scope cl Ca X.env) fp) elt (tV C WF .fe fe))
    (hsw : swapsWith (.ListComp elt [⟨tg, iter, ifs, 0⟩] scope pos) (some (.Name y py)) spos.line X.env = pure true := by rfl) (hs : ∀ x, foldedSetIterable iter X.env x = pure x := by intro _; rfl) :
    PS X (.Assign [.Name y py] (.ListComp elt [⟨tg, iter, ifs, 0⟩] scope pos) spos) (tS C W (sSet i (eLc fi tf ft fe (own.map (·.2))))) := ps_imp (ps_setLc hc hN hy hyl hsw hi ok hg ht he hs) (t_setlc (t_lc hgo his))
end
section
variable {P : Program} {w : World} {K : PySem.W.Frag} {mg : Str → Option Value} {base : Heap} {k n : Nat} {l : List (Str × (List SV → Mo SV))} {y : Str} {F : List SV → Mo SV}
theorem hd_nil : ∀ x Fn, ([] : List (Str × (List SV → Mo SV))).lookup x = some Fn → DefOk P w K mg base k x n Fn := fun x Fn h => by cases h
theorem hd_cons (D : DefOk P w K mg base k y n F) (h : ∀ x Fn, l.lookup x = some Fn → DefOk P w K mg base k x n Fn) : ∀ x Fn, ((y, F) :: l).lookup x = some Fn → DefOk P w K mg base k x n Fn := fun x Fn e => by
  rw [List.lookup_cons] at e
  split at e
  · rename_i hx
    cases e
    rw [beq_iff_eq.mp hx]
    exact D
  · exact h x Fn e
/-- classes of exceptions by a table -/
def mtOf (l : List ((Str × Str) × Bool)) (c x : Str) : Option Bool := l.lookup (c, x)
def EmOk (K : PySem.W.Frag) (mg : Str → Option Value) (q : (Str × Str) × Bool) : Prop := ∃ Ca Cx, mg q.1.1 = some (.ref Ca) ∧ mg q.1.2 = some (.ref Cx) ∧ PySem.W.exmOne K (.ref Ca) (.ref Cx) = some q.2
theorem mt_ok : ∀ {l : List ((Str × Str) × Bool)}, (∀ q ∈ l, EmOk K mg q) → MtOk K mg (mtOf l)
  | [], _, c, x, b, Ca, Cx, h, _, _ => by cases h
  | q :: l, hl, c, x, b, Ca, Cx, h, h1, h2 => by
    obtain ⟨⟨c', x'⟩, b'⟩ := q
    unfold mtOf at h
    rw [List.lookup_cons] at h
    split at h
    · rename_i e
      cases h
      have e := beq_iff_eq.mp e
      cases e
      obtain ⟨Ca', Cx', e1, e2, e3⟩ := hl _ List.mem_cons_self
      have e1 : mg c = some (.ref Ca') := e1
      have e2 : mg x = some (.ref Cx') := e2
      rw [h1] at e1
      rw [h2] at e2
      cases e1
      cases e2
      exact e3
    · exact mt_ok (fun q m => hl q (List.mem_cons_of_mem _ m)) c x b Ca Cx h h1 h2
end
section
variable {X : Cx} {C : Ct} {W : WX} {x : Str} {pos : Pos}
theorem s_tryE {mt : Str → Str → Option Bool} {fb fh : Rho → Sto → Option Fl} {body suite : List Stmt} {b₀ : Stmt} {np pos' : Pos} (hK : C.K = X.K) (hM : C.mg = X.mg) (hmt : MtOk X.K X.mg mt) (E : ExcOk X.K X.mg x) (hs : X.stack = X.env :: X.outer) (hf : X.env.frame = some X.env.locals)
    (hg : Gl X x) (tk : Takes X W)
    (hb : ∀ (W : WX) (pn : List (Addr × Obj)) (xe : Value → Shared → Prop), Takes (X.tr pn xe) W → PassesOwn (model X.prog X.w) X.A X.env xe → PSs (X.tr pn xe) body (tS C W fb))
    (hsu : ∀ (a : Addr) (oe : Obj) (pn : List (Addr × Obj)), PSs (X.suite a ((a, oe) :: pn)) (b₀ :: suite) (tS C WF fh)) (hdb : (x == ("__debug__" : Str)) = false := by decide) :
    PS X (.Try body [.ExceptHandler (some (.Name x np)) none (b₀ :: suite) pos'] [] [] pos) (tS C W (sTry mt x fb fh)) := by
  obtain ⟨Ca, hm, _⟩ := E.ex
  exact s_try hK hM hmt hs hf hg hm tk hb hsu hdb
end
/-- a comprehension's block, by a look -/
def blkB (N : List Str) (sc scope : Scope) (own : List (Str × Nat)) : Bool :=
  (match scope.kind with
    | .function => true
    | _ => false) && scope.names.all (fun y => decide (scope.names.lookup y.1 = some y.2)) && own.all (fun p => decide (N[p.2]? = some p.1)) &&
  scope.names.all (fun y => decide (y.2 ≠ .free) || decide (sc.names.lookup y.1 = some .cell) || decide (sc.names.lookup y.1 = some .free)) &&
  scope.names.all fun y => decide (y.2 ≠ .local ∧ y.2 ≠ .cell) || decide (y.1 ∈ own.map (·.1)) || decide (y.1 ∉ N)
theorem blk_of {N : List Str} {sc scope : Scope} {own : List (Str × Nat)} (h : blkB N sc scope own = true) : BlkOk N sc scope own := by
  unfold blkB at h
  simp only [Bool.and_eq_true, List.all_eq_true, Bool.or_eq_true, decide_eq_true_eq] at h
  obtain ⟨⟨⟨⟨h1, h2⟩, h3⟩, h4⟩, h5⟩ := h
  refine ⟨?_, fun y m => h2 y m, fun p m => h3 p m, fun y m e => ?_, fun y m e => ?_⟩
  · split at h1
    · assumption
    · cases h1
  · rcases h4 y m with (z | z) | z
    · exact absurd e z
    · exact .inl z
    · exact .inr z
  · rcases h5 y m with (z | z) | z
    · exact absurd e (fun w => w.elim z.1 z.2)
    · exact .inl z
    · exact .inr z
end VL

end
section
set_option Elab.async false
set_option linter.all false
set_option maxRecDepth 100000
/-! VL17: what the head tells. -/
namespace VL
open PySem PySem.Spec PyProof.Rows L2
mutual
/-- constant data -/
def dqB (K : PySem.W.Frag) : PyData → Value → Bool
  | .none, .none => true
  | .bool b, .bool c => b == c
  | .int i, .int j _ => i == j
  | .str x, .str y _ => decide (x = y)
  | .tuple ds, .ref a => (match K.lookup a with
    | some ⟨.type c, _, .seq its _, _⟩ => decide (c = "tuple") && (decide (its.size ≤ sizeLine) && dqBs K ds its.toList)
    | _ => false)
  | _, _ => false
def dqBs (K : PySem.W.Frag) : List PyData → List Value → Bool
  | [], [] => true
  | d :: ds, u :: us => dqB K d u && dqBs K ds us
  | _, _ => false
end
mutual
theorem dqB_ok {K : PySem.W.Frag} : ∀ (d : PyData) (u : Value), dqB K d u = true → ∃ v, RelV v u ∧ ∀ (H : Hp) (F : Addr → Prop), Dq K H F d v
  | .none, u, h => by
    cases u <;> simp only [dqB, Bool.false_eq_true] at h
    exact ⟨.non, rfl, fun _ _ => .non⟩
  | .bool b, u, h => by
    cases u <;> simp only [dqB, Bool.false_eq_true] at h
    rename_i c
    have h := beq_iff_eq.mp h
    subst h
    exact ⟨.bl b, rfl, fun _ _ => .bl b⟩
  | .int i, u, h => by
    cases u <;> simp only [dqB, Bool.false_eq_true] at h
    rename_i c t
    have h := beq_iff_eq.mp h
    subst h
    exact ⟨.int i, ⟨t, rfl⟩, fun _ _ => .int i⟩
  | .str x, u, h => by
    cases u <;> simp only [dqB, Bool.false_eq_true] at h
    rename_i c t
    have h := of_decide_eq_true h
    subst h
    exact ⟨.str x, ⟨t, rfl⟩, fun _ _ => .str x⟩
  | .tuple ds, u, h => by
    cases u <;> simp only [dqB, Bool.false_eq_true] at h
    rename_i a
    split at h
    · rename_i c od its n sl hl
      obtain ⟨h1, h2⟩ := He.ba h
      obtain ⟨h3, h4⟩ := He.ba h2
      obtain ⟨vs, r, q⟩ := dqBs_ok ds its.toList h4
      have hlen : vs.length = its.size := by rw [r.length]; simp
      refine ⟨.ref a, rfl, fun H F => .ctup (.inr ⟨_, its, n, hl, congrArg Value.type (of_decide_eq_true h1), rfl, of_decide_eq_true h3, r⟩) (by rw [hlen]; exact of_decide_eq_true h3) (q H F)⟩
    · cases h
  | .list _, u, h => by cases u <;> simp [dqB] at h
  | .dict _, u, h => by cases u <;> simp [dqB] at h
theorem dqBs_ok {K : PySem.W.Frag} : ∀ (ds : List PyData) (us : List Value), dqBs K ds us = true → ∃ vs, Vals vs us ∧ ∀ (H : Hp) (F : Addr → Prop), DqL K H F ds vs
  | [], us, h => by
    cases us with
    | nil => exact ⟨[], .nil, fun _ _ => .nil⟩
    | cons _ _ => simp [dqBs] at h
  | d :: ds, us, h => by
    cases us with
    | nil => simp [dqBs] at h
    | cons u us =>
      obtain ⟨h1, h2⟩ := He.ba (by simpa only [dqBs] using h)
      obtain ⟨v, r, q⟩ := dqB_ok d u h1
      obtain ⟨vs, r2, q2⟩ := dqBs_ok ds us h2
      exact ⟨v :: vs, .cons r r2, fun H F => .cons (q H F) (q2 H F)⟩
end
def gcB (K : PySem.W.Frag) (x : Str) (d : PyData) : Bool := match PySem.W.nsIn K mainGlobals x with
  | some (some u) => dqB K d u
  | _ => false
section
variable {K : PySem.W.Frag} {h : Heap} {mg : Str → Option Value}
theorem gc_of (X : K.In h) (G : h.Ns mainGlobals mg) {x : Str} {d : PyData} (e : gcB K x d = true) : GlobC K mg x d := by
  unfold gcB at e
  split at e
  · rename_i u hu
    obtain ⟨v, r, q⟩ := dqB_ok d u e
    exact ⟨u, v, PySem.W.mg_of X G hu, r, q⟩
  · cases e
theorem exc_of (X : K.In h) (G : h.Ns mainGlobals mg) {x : Str} (c1 : (He.Fa.glo x).ok K = true) (c2 : (He.Fa.exc x).ok K = true) : ExcOk K mg x := by
  obtain ⟨a, b, c, d⟩ := He.exc_ok c2
  exact ⟨He.ga K x, He.glo_ok X G c1, a, b, c, d⟩
theorem em_of (X : K.In h) (G : h.Ns mainGlobals mg) {x y : Str} {b : Bool} (c1 : (He.Fa.glo x).ok K = true) (c2 : (He.Fa.glo y).ok K = true) (c3 : (He.Fa.exm x y b).ok K = true) : EmOk K mg ((x, y), b) := ⟨_, _, He.glo_ok X G c1, He.glo_ok X G c2, He.exm_ok c3⟩
def frs : List Str := ["len", "range", "isinstance", "int", "bool", "str", "tuple", "list", "abs", "max", "min", "all", "any", "sum", "sorted", "enumerate", "zip", "set", "dict", "repr"]
theorem fr_of (X : K.In h) (G : h.Ns mainGlobals mg) (c : ∀ x ∈ frs, (He.Fa.free x).ok K = true) : Fr mg := by
  have g : ∀ x ∈ frs, mg x = none := fun x m => He.free_ok X G (c x m)
  exact ⟨g _ (by decide), g _ (by decide), g _ (by decide), g _ (by decide), g _ (by decide), g _ (by decide), g _ (by decide), g _ (by decide), g _ (by decide), g _ (by decide), g _ (by decide), g _ (by decide), g _ (by decide), g _ (by decide), g _ (by decide), g _ (by decide), g _ (by decide), g _ (by decide), g _ (by decide), g _ (by decide)⟩
end
end VL

end
section
set_option Elab.async false
set_option linter.all false
set_option maxRecDepth 100000
/-! VL18: t[::-1] of a tuple, {k: v, ..}[e] of texts, several except clauses. -/
namespace VL
open PySem PySem.Spec PyProof.Rows L2
section
variable {prog : Program} {w : World} {A : Around} {E : Value → Shared → Prop} {s : Shared}
theorem adjust_rev (n : Nat) : Builtin.Slice.sliceAdjust none none (-1) (n : Int) = ((n : Int) - 1, -1) := rfl
theorem places_rev (n : Nat) : Builtin.Slice.slicePlaces ((n : Int) - 1) (-1) (-1) = n := by
  unfold Builtin.Slice.slicePlaces
  have h1 : ¬ ((-1 : Int) > 0) := by omega
  simp only [h1, if_false]
  by_cases h : (n : Int) - 1 > -1
  · rw [if_pos h, show (-(-1 : Int)) = 1 from rfl, Int.ediv_one]
    omega
  · rw [if_neg h]
    omega
theorem pick_rev (xs : Array Value) : ((List.range xs.size).filterMap fun (m : Nat) => xs[(((xs.size : Int) - 1) + (m : Int) * (-1)).toNat]?).toArray = xs.toList.reverse.toArray := by
  have e : (List.range xs.size).filterMap (fun (m : Nat) => xs[(((xs.size : Int) - 1) + (m : Int) * (-1)).toNat]?) = ((List.range xs.size).map fun k => xs.size - 1 - k).filterMap (xs[·]?) := by
    rw [List.filterMap_map]
    have cg : ∀ (l : List Nat) (f g : Nat → Option Value), (∀ k ∈ l, f k = g k) → l.filterMap f = l.filterMap g := by
      intro l f g h
      induction l with
      | nil => rfl
      | cons k l ih => rw [List.filterMap_cons, List.filterMap_cons, h k List.mem_cons_self, ih fun j m => h j (List.mem_cons_of_mem _ m)]
    refine cg _ _ _ fun k hk => ?_
    have hk := List.mem_range.mp hk
    have e : (((xs.size : Int) - 1) + (k : Int) * (-1)).toNat = xs.size - 1 - k := by omega
    show xs[(((xs.size : Int) - 1) + (k : Int) * (-1)).toNat]? = xs[xs.size - 1 - k]?
    rw [e]
  rw [e, PySem.W.krv_range, List.filterMap_reverse, PySem.W.krv_all]
theorem rev_ap {sl : Addr} {vl vu vs : Value} {n : Nat} {Q : Int × Int × Nat → Shared → Prop} (hs : s.heap.IsSliceOf sl vl vu vs) (pl : IsPart vl none) (pu : IsPart vu none) (ps : IsPart vs (some (-1))) (h : Q (((n : Int) - 1), -1, n) s) : wpAny (model prog w) A (Builtin.Slice.sliceApplied (.ref sl) (pure (n : Int))) Q E s := by
  obtain ⟨os, hos, hcs, hds⟩ := id hs
  unfold Builtin.Slice.sliceApplied Builtin.Slice.sliceFields
  refine wpAny_bind (wpAny_bind (wpAny_field hos hds (x := vl) rfl (wpAny_bind (wpAny_field hos hds (x := vu) rfl (wpAny_bind (wpAny_field hos hds (x := vs) rfl (wpAny_pure ?_)))))))
  refine wpAny_bind (HT.slicePart_ ps ?_)
  show wpAny _ _ (if ((-1 : Int) == 0) = true then _ else _) _ _ s
  rw [if_neg (by decide)]
  refine wpAny_bind (HT.slicePart_ pl (wpAny_bind (HT.slicePart_ pu (wpAny_bind (wpAny_pure ?_)))))
  show wpAny _ _ (match Builtin.Slice.sliceAdjust none none (-1) (n : Int) with | (lo, hi) => pure (lo, (-1 : Int), Builtin.Slice.slicePlaces lo hi (-1))) _ _ s
  rw [adjust_rev]
  show wpAny _ _ (pure (((n : Int) - 1), (-1 : Int), Builtin.Slice.slicePlaces ((n : Int) - 1) (-1) (-1))) _ _ s
  rw [places_rev]
  exact wpAny_pure h
theorem getItem_tuple_rev {t sl : Addr} {items : Array Value} {vl vu vs : Value} {Q : Value → Shared → Prop} (ht : IsTup s.heap t items) (hs : s.heap.IsSliceOf sl vl vu vs) (pl : IsPart vl none) (pu : IsPart vu none) (ps : IsPart vs (some (-1)))
    (h : Q (.ref s.heap.objs.size) { s with heap := s.heap.push { cls := .type "tuple", data := .seq items.toList.reverse.toArray } })
    (hsz : items.size ≤ sizeLine) : wpAny (model prog w) A (getItem (.ref t) (.ref sl)) Q E s := by
  have htake : sizeOk (.seq items.toList.reverse.toArray) := by
    show items.toList.reverse.toArray.size ≤ sizeLine
    rw [List.size_toArray, List.length_reverse, Array.length_toList]
    exact hsz
  obtain ⟨os, hos, hcs, hds⟩ := id hs
  have hTs : s.TypeIs (.ref sl) "slice" := ⟨os, hos, hcs⟩
  unfold getItem
  try with_reducible refine wpAny_holding ?_
  first | refine wpAny_bind (wpAny_pure ?_) | skip
  refine wpAny_bind (wpAny_sequenceKey ht.typeIs (by decide) ?_)
  refine wpAny_bind (wpAny_callSpecial?_slot (name := Str.ofString "__getitem__") ht.typeIs PyProof.Rows.slot_tuple_getitem
    (wpAny_call_entry PyProof.Rows.slot_tuple_getitem ht.typeIs entry_tuple_getitem ?_ (args_tuple_getitem _ _)))
  show wpAny _ _ (Builtin.Tuple.tupleItemsOf (.ref t) >>= _) _ _ s
  refine wpAny_bind (tupleItemsOf_ ht ?_)
  refine wpAny_bind (wpAny_typeOf hTs ?_)
  rw [if_pos (by decide)]
  refine wpAny_bind (rev_ap hs pl pu ps ?_)
  have hno : ¬ ((((items.size : Int) - 1) == 0 && (-1 : Int) == 1 && items.size == items.size) = true) := by
    intro q
    rw [Bool.and_eq_true, Bool.and_eq_true] at q
    exact absurd q.1.2 (by decide)
  show wpAny _ _ (if (((items.size : Int) - 1) == 0 && (-1 : Int) == 1 && items.size == items.size) = true then _ else _) _ _ s
  rw [if_neg hno, pick_rev]
  first
    | exact wpAny_bind (m := Builtin.Tuple.tupleExact _) (wpAny_newObj_type (wpAny_pure ⟨_, rfl, wpAny_pure h⟩) htake)
    | exact wpAny_bind (m := Builtin.Tuple.tupleExact _) (wpAny_newObj_type (wpAny_bind (wpAny_pure (wpAny_pure ⟨_, rfl, wpAny_pure h⟩))) htake)
    | exact wpAny_bind (wpAny_bind (m := Builtin.Tuple.tupleExact _) (wpAny_newObj_type (wpAny_pure (wpAny_pure ⟨_, rfl, wpAny_pure h⟩)) htake))
    | exact wpAny_bind (wpAny_bind (m := Builtin.Tuple.tupleExact _) (wpAny_newObj_type (wpAny_pure ⟨_, rfl, wpAny_pure h⟩) htake))
end
section
variable {X : Cx} {C : Ct} {W : WX} {pos : Pos}
/-- x[::-1] of a tuple or a list -/
def tRevA (K : PySem.W.Frag) (te : TE) : TE := fun σ H Q => te σ H fun x H1 => ∃ a xs, x = .ref a ∧ ((SqT K H1 a xs ∧ ∀ p, H1 p = none → Q (.ref p) (upd H1 p (.tup xs.reverse))) ∨ (SqL K H1 a xs ∧ ∀ p, H1 p = none → Q (.ref p) (upd H1 p (.lst xs.reverse))))
theorem pe_revA {e : Expr} {te : TE} {k : Nat} {p1 p2 p3 pos : Pos} (he : PE X e te) : PE X (.Subscript e (.Slice none none (some (.UnaryOp .USub (.Constant (.int 1) k p1) p2)) p3) pos) (tRevA X.K te) := by
  refine ⟨fun pins s σ H Q I h => ?_⟩
  refine Subscript_ (thn (he.run pins s σ H _ I h) fun v s1 ⟨x, H1, I1, r1, q1⟩ => ?_)
  obtain ⟨a, xs, ex, q⟩ := q1
  subst ex
  cases r1
  have hst : PO X (some (.UnaryOp .USub (.Constant (.int 1) k p1) p2)) (tPart (tUn (rU fun i => .int (-i)) (tC (.int 1)))) := po_some (pe_un un_neg pe_int)
  refine wpAny_Slice (thn (po_none.run pins s1 σ H1 (fun o H2 => o = none ∧ H2 = H1) I1 ⟨rfl, rfl⟩) fun vl s2 ⟨l, H2, I2, pl, el, e2⟩ => ?_)
  subst el e2
  refine thn (po_none.run pins s2 σ H2 (fun o H3 => o = none ∧ H3 = H2) I2 ⟨rfl, rfl⟩) fun vu s3 ⟨u, H3, I3, pu, eu, e3⟩ => ?_
  subst eu e3
  refine thn (hst.run pins s3 σ H3 (fun o H4 => o = some (-1) ∧ H4 = H3) I3 ⟨1, rfl, -1, rfl, rfl, rfl⟩) fun vs s4 ⟨o, H4, I4, ps, eo, e4⟩ => ?_
  subst eo e4
  have I5 : Inv X pins σ H4 { s4 with heap := s4.heap.push { cls := .type "slice", data := .fields #[vl, vu, vs] } } := I4.kept (t' := s4.toks) fun b ob q => Heap.get?_push_of_some _ q
  show wpAny (model X.prog X.w) X.A (subscriptTail e (.Slice none none (some (.UnaryOp .USub (.Constant (.int 1) k p1) p2)) p3) (.ref a) (.ref s4.heap.objs.size)) (EP X pins σ Q) X.xe { s4 with heap := s4.heap.push { cls := .type "slice", data := .fields #[vl, vu, vs] } }
  rcases q with ⟨hx, q⟩ | ⟨hx, q⟩
  · obtain ⟨its, r, ht, hz⟩ := I5.tuple hx
    have hlen := r.length
    refine tail_any (ops := [.ref a, .ref s4.heap.objs.size]) ht.typeIs (PyProof.Rows.slot_tuple_getitem.lookup) ?_ (by with_unfolding_all rfl)
    refine getItem_tuple_rev ht (Heap.IsSliceOf.new _ vl vu vs) pl pu ps ?_ (by rw [List.size_toArray]; omega)
    refine ⟨.ref _, _, I5.laid (t' := s4.toks) (o := .tup xs.reverse) (fun b ob q => Heap.get?_push_of_some _ q) (Nat.le_refl _) ?_, rfl, q _ (I5.hok.fresh (Nat.le_refl _))⟩
    exact ⟨by rw [List.length_reverse]; exact hz, _, r.reverse, IsTup.new _ _⟩
  · obtain ⟨its, r, ht, hz⟩ := I5.list hx
    have hlen := r.length
    refine tail_any (ops := [.ref a, .ref s4.heap.objs.size]) ht.isList.typeIs (PySem.slot_list_getitem.lookup) ?_ (by with_unfolding_all rfl)
    refine wpAny_getItem_list_slice ht.isList (Heap.IsSliceOf.new _ vl vu vs) pl pu ps (by decide) ?_ (by rw [List.size_toArray]; omega)
    rw [PySem.W.krv_pick]
    refine ⟨.ref _, _, I5.laid (t' := s4.toks) (o := .lst xs.reverse) (fun b ob q => Heap.get?_push_of_some _ q) (Nat.le_refl _) ?_, rfl, q _ (I5.hok.fresh (Nat.le_refl _))⟩
    exact ⟨by rw [List.length_reverse]; exact hz, _, 0, r.reverse, Heap.get?_push_size _ rfl⟩
theorem DqL.reverse {K : PySem.W.Frag} {H : Hp} {F : Addr → Prop} : ∀ {ds : List PyData} {vs : List V}, DqL K H F ds vs → DqL K H F ds.reverse vs.reverse
  | [], _, h => by cases h; exact .nil
  | d :: ds, _, h => by
    cases h with
    | cons h1 h2 =>
      rw [List.reverse_cons, List.reverse_cons]
      exact DqL.app (DqL.reverse h2) (.cons h1 .nil)
def gRev (_ : Sto) (x : SV) : Option SV := match x with
  | .d (.tuple ds) => some (.d (.tuple ds.reverse))
  | _ => none
def eRev (f : Rho → Mo SV) : Rho → Mo SV := fun ρ S => bindM (f ρ S) fun x S1 => match x with
  | .d (.tuple ds) => some (.ok (.d (.tuple ds.reverse)) S1)
  | _ => none
theorem v_rev (hk : C.K = X.K) {e : Expr} {fa : Rho → Mo SV} {ka kd : Kd} {k : Nat} {p1 p2 p3 : Pos} (ha : PE X e (tV C W ka fa)) : PE X (.Subscript e (.Slice none none (some (.UnaryOp .USub (.Constant (.int 1) k p1) p2)) p3) pos) (tV C W kd (eRev fa)) := by
  refine pe_imp (pe_revA ha) fun σ H Q ⟨P, ρ, S, A, G, hP, I, q⟩ => ⟨P, ρ, S, A, G, hP, I, EGood.step q (fun _ _ _ _ _ _ z => z) fun x S1 q v H1 p__ => ?_⟩
  obtain ⟨A1, g1, P1, e1, hP1, I1, k1, _⟩ := p__.next
  split at q
  · rename_i ds
    obtain ⟨a, vs, rfl, hs, l, r⟩ := k1.tup
    have I2 : Sim (C.pr P) ρ S1 A1 G σ H1 := (show Sim ((C.pr P1).pr P) ρ S1 A1 G σ H1 from Sim.prc I1 hP1)
    refine ⟨a, vs, rfl, .inl ⟨hk ▸ hs, fun p hp => q _ _ ((EPost.tup I2 (DqL.reverse r) (by rw [List.length_reverse]; exact l) hp).trans e1)⟩⟩
  · exact q.elim
/-! ### {k: v, ..}[e] -/
theorem u1 {k : Nat} {A : Around} (r : Room k A) : A.units + 1 < cLine := by have := r.un; omega
def mapAt (l : List (Str × Str)) (s : Str) : Option Str := l.foldl (fun o kv => if s = kv.1 then some kv.2 else o) none
def eMap (l : List (Str × Str)) (f : Rho → Mo SV) : Rho → Mo SV := fun ρ S => bindM (f ρ S) fun x S1 => match x with
  | .d (.str s) => (mapAt l s).map fun t => .ok (.d (.str t)) S1
  | _ => none
theorem tPairs_str {σ : L2.St} : ∀ (l : List (Str × Str)) (H : Hp) (Q : List (V × V) → Hp → Prop), Q (l.map fun kv => (V.str kv.1, V.str kv.2)) H → tPairs (l.map fun kv => (tC (.str kv.1), tC (.str kv.2))) σ H Q
  | [], H, Q, h => h
  | kv :: l, H, Q, h => tPairs_str l H _ h
theorem valV_merge (s : Str) : ∀ (l : List (Str × Str)) (acc : List (Key × V)) (o : Option Str), valV acc (.inr s) = o.map V.str → valV (mergeK acc (l.map fun kv => ((.inr kv.1 : Key), V.str kv.2))) (.inr s) = (l.foldl (fun o kv => if s = kv.1 then some kv.2 else o) o).map V.str
  | [], acc, o, h => h
  | kv :: l, acc, o, h => by
    refine valV_merge s l (putK acc (.inr kv.1) (.str kv.2)) _ ?_
    rw [valV_put]
    by_cases e : s = kv.1
    · simp [e]
    · have e2 : ¬ kv.1 = s := fun z => e z.symm
      simp [e, e2, h]
theorem v_map (l : List (Str × Str)) {keys : List (Option Expr)} {values : List Expr} {i : Expr} {f : Rho → Mo SV} {kd : Kd} {p2 : Pos} (hu : X.A.units + 1 < cLine) (h : PPs X p2 keys values (l.map fun kv => (tC (.str kv.1), tC (.str kv.2))))
    (hall : keys.all (·.isSome) = true) (hl : keys.length = values.length) (h0 : keys ≠ []) (h15 : keys.length ≤ 15) (hl15 : l.length ≤ 15) (ha : PE X i (tV C W .be f)) (hs : NoSl i) :
    PE X (.Subscript (.Dict keys values p2) i pos) (tV C W kd (eMap l f)) := by
  refine pe_imp (pe_dget hu (pe_disp h hall hl h0 h15) ha hs) fun σ H Q ⟨P, ρ, S, A, G, hP, I, q⟩ => fun p hp => tPairs_str l _ _ ⟨upd_same .., l.map fun kv => ((.inr kv.1 : Key), V.str kv.2), by rw [List.map_map]; rfl, by rw [List.length_map]; exact hl15, ?_⟩
  rw [upd_upd]
  have I1 := Sim.newP (o := .dK (mergeK [] (l.map fun kv => ((.inr kv.1 : Key), V.str kv.2)))) I hp
  refine ⟨fun a => P a ∨ a = p, ρ, S, A, G, fun a z => .inl (hP a z), I1, EGood.step q (fun _ _ _ _ _ _ z => z.trans (Ext.upd hp)) fun x S1 q v H1 p__ => ?_⟩
  obtain ⟨A1, g1, P1, e1, hP1, I2, k1, _⟩ := p__.next
  split at q
  · rename_i s
    have hv := k1.str
    subst hv
    cases hm : mapAt l s with
    | none => rw [hm] at q; exact q.elim
    | some t =>
      rw [hm] at q
      have np : p ∉ A := fun z => (I.fsTrk (.inl z)) hp
      have hH : H1 p = some (.dK (mergeK [] (l.map fun kv => ((.inr kv.1 : Key), V.str kv.2)))) := e1.keep p _ (upd_same ..) np
      have hg : DGet H1 p (.str s) (some (.str t)) := by
        have := DGet.k (k := .inr s) hH
        rw [valV_merge s l [] none rfl] at this
        rw [show (l.foldl (fun o kv => if s = kv.1 then some kv.2 else o) none) = some t from hm] at this
        exact this
      have I3 : Sim (C.pr P) ρ S1 A1 G σ H1 := (show Sim ((C.pr P1).pr P) ρ S1 A1 G σ H1 from Sim.prc I2 fun a z => hP1 a (.inl z))
      exact ⟨p, .str t, rfl, hg, q _ _ ((EPost.same I3 (Rk.dat (.str _))).trans ((Ext.upd hp).trans e1))⟩
  · exact q.elim
/-! ### several except clauses -/
abbrev SFn := Rho → Sto → Option Fl
def exM (mt : Str → Str → Option Bool) : List (Str × SFn) → Str → List (Str × SV) → Rho → Sto → Option Fl
  | [], c, fs, ρ, S => some (.exc c fs ρ S)
  | (x, h) :: r, c, fs, ρ, S => match mt c x with
    | some true => noX (h ρ S)
    | some false => exM mt r c fs ρ S
    | none => none
def sTryM (mt : Str → Str → Option Bool) (l : List (Str × SFn)) (b : SFn) : SFn := fun ρ S => match b ρ S with
  | some (.exc c fs ρ1 S1) => exM mt l c fs ρ1 S1
  | r => r
inductive HdM (X : Cx) (C : Ct) : List ExceptHandler → List (Str × SFn) → Prop
  | nil : HdM X C [] []
  | cons {x : Str} {fh : SFn} {b₀ : Stmt} {suite : List Stmt} {np pos' : Pos} {hds : List ExceptHandler} {l : List (Str × SFn)} (E : ExcOk X.K X.mg x) (hg : Gl X x)
      (hsu : ∀ (a : Addr) (oe : Obj) (pn : List (Addr × Obj)), PSs (X.suite a ((a, oe) :: pn)) (b₀ :: suite) (tS C WF fh)) (r : HdM X C hds l) (hdb : (x == ("__debug__" : Str)) = false := by decide) :
      HdM X C (.ExceptHandler (some (.Name x np)) none (b₀ :: suite) pos' :: hds) ((x, fh) :: l)
theorem HdM.ok {mt : Str → Str → Option Bool} (hM : C.mg = X.mg) (hmt : MtOk X.K X.mg mt) {hds : List ExceptHandler} {l : List (Str × SFn)} (h : HdM X C hds l) :
    ∃ l', HdsOk X hds l' ∧ ∀ (D : Ends) (A : List Addr) (G : List (List Addr)) (H : Hp) (c : Str) (fs : List (Str × SV)) (ρ : Rho) (S : Sto), SGood C W A G H D (exM mt l c fs ρ S) → SGood C (wMany X.K W D l') A G H D (some (.exc c fs ρ S)) := by
  induction h with
  | nil => exact ⟨[], .nil, fun D A G H c fs ρ S q => q⟩
  | @cons x fh b₀ suite np pos' hds l E hg hsu r hdb ih =>
    obtain ⟨l', hl, ih⟩ := ih
    obtain ⟨Cx, hx, _⟩ := E.ex
    refine ⟨(.ref Cx, fun _ _ _ => tS C WF fh) :: l', .cons ⟨hg, hdb, .inl hx⟩ (fun a oe cls d pn _ _ => hsu a oe pn) hl, fun D A G H c fs ρ S q => ?_⟩
    unfold exM at q
    rintro A' G' σ' H' cls d ex J ⟨Ca, hc, rfl, hfs⟩
    cases hmc : mt c x with
    | none => rw [hmc] at q; exact q.elim
    | some k =>
      rw [hmc] at q
      refine ⟨k, hmt c x k Ca Cx hmc (by rw [← hM]; exact hc) hx, fun e a _ => ?_, fun e => ?_⟩
      · subst e
        exact ⟨ρ, S, A', G', J, SGood.ext ex (SGood.noX q)⟩
      · subst e
        exact ih D A G H c fs ρ S q A' G' σ' H' (.ref Ca) d ex J ⟨Ca, hc, rfl, hfs⟩
theorem s_tryM {mt : Str → Str → Option Bool} {fb : SFn} {body : List Stmt} {h₀ : ExceptHandler} {hds : List ExceptHandler} {l : List (Str × SFn)} (hM : C.mg = X.mg) (hmt : MtOk X.K X.mg mt) (hd : HdM X C (h₀ :: hds) l) (hs : X.stack = X.env :: X.outer) (hf : X.env.frame = some X.env.locals)
    (tk : Takes X W)
    (hb : ∀ (W : WX) (pn : List (Addr × Obj)) (xe : Value → Shared → Prop), Takes (X.tr pn xe) W → PassesOwn (model X.prog X.w) X.A X.env xe → PSs (X.tr pn xe) body (tS C W fb)) :
    PS X (.Try body (h₀ :: hds) [] [] pos) (tS C W (sTryM mt l fb)) := by
  obtain ⟨l', hl, hw⟩ := hd.ok (W := W) hM hmt
  refine ps_imp (ps_try_many (tb := fun W => tS C W fb) hs hf tk hb hl) fun D σ H ⟨ρ, S, A, G, I, q⟩ => ⟨ρ, S, A, G, I, ?_⟩
  unfold sTryM at q
  cases hr : fb ρ S with
  | none => rw [hr] at q; exact q
  | some r =>
    rw [hr] at q
    cases r with
    | nx ρ' S' => exact q
    | bk ρ' S' => exact q
    | ct ρ' S' => exact q
    | rt z S' => exact q
    | exc c fs ρ' S' => exact hw D A G H c fs ρ' S' q
end
end VL

end
section
set_option Elab.async false
set_option linter.all false
set_option maxRecDepth 100000
/-! VL19: tuple * int; x in a tuple of flat items. -/
namespace VL
open PySem PySem.Spec PyProof.Rows L2
section
variable {X : Cx} {C : Ct} {W : WX} {kd ka kb : Kd} {a b : Expr} {pos : Pos} {fa fb : Rho → Mo SV}
/-! ### tuple * int -/
def gMulA (S : Sto) (x y : SV) : Option SV := match x, y with
  | .d (.tuple ds), .d (.int k) => if decide (ds ≠ []) && decide (2 ≤ k ∧ k ≤ 1000) && decide (ds.length ≤ 1000) then some (.d (.tuple (List.replicate k.toNat ds).flatten)) else none
  | x, y => gMul S x y
theorem DqL.rep {K : PySem.W.Frag} {H : Hp} {F : Addr → Prop} {ds : List PyData} {vs : List V} (r : DqL K H F ds vs) : ∀ n : Nat, DqL K H F (List.replicate n ds).flatten (List.replicate n vs).flatten
  | 0 => .nil
  | n + 1 => by
    rw [List.replicate_succ, List.replicate_succ, List.flatten_cons, List.flatten_cons]
    exact r.app (DqL.rep r n)
theorem sizeL : 1000000 ≤ sizeLine := by rw [sizeLine_eq]; omega
theorem ok_mulA {K : PySem.W.Frag} : OpOk K ka kb kd gMulA (fun x y H Q => rRepT K x y H Q ∨ (rI IntMulOk (fun i j => .int (i * j))) x y H Q ∨ rRep x y H Q) := (fun C ρ S A G σ H0 H1 H x y z v u gx gy Q hK I rx ry h q => by
  unfold gMulA at h
  split at h
  · rename_i ds k
    split at h
    · rename_i hc
      cases h
      simp only [Bool.and_eq_true, decide_eq_true_eq] at hc
      obtain ⟨⟨h0, h2, h3⟩, h4⟩ := hc
      obtain ⟨a, vs, rfl, hs, l, r⟩ := rx.tup
      have hl := r.length
      refine .inl ⟨a, k, vs, rfl, ry.int, (by rw [← hK]; exact hs), fun e => h0 (by rw [e] at hl; exact List.length_eq_zero_iff.mp hl.symm), h2, h3, by rw [hl]; exact h4, fun p hp => q _ _ (EPost.tup I (r.rep k.toNat) ?_ hp)⟩
      simp only [List.length_flatten, List.map_replicate, List.sum_replicate_nat]
      refine Nat.le_trans (Nat.mul_le_mul (show k.toNat ≤ 1000 by omega) (show vs.length ≤ 1000 by omega)) sizeL
    · cases h
  · unfold gMul at h
    split at h
    · rename_i i j _
      split at h
      · rename_i hm
        cases h
        exact .inr (.inl ⟨i, j, rx.int, ry.int, mulOk.ok hm, q _ H (EPost.same I (Rk.dat (.int _)))⟩)
      · cases h
    · rename_i k _ _
      simp only [Option.bind_eq_some_iff] at h
      obtain ⟨xs, hx, h⟩ := h
      split at h
      · rename_i hc
        cases h
        simp only [Bool.and_eq_true, decide_eq_true_eq] at hc
        obtain ⟨a, vs, ga, rfl, ha, l1, r1⟩ := rx.lst I hx
        have hl := r1.len
        refine .inr (.inr ⟨a, k, vs, rfl, ry.int, ha, (smI_lt hc.1.2).1, (smI_lt hc.1.2).2, by rw [hl]; exact hc.2, fun p hp => q _ _ ?_⟩)
        obtain ⟨r1, n1⟩ := r1
        obtain rfl := r1.noOwn hc.1.1
        refine EPost.lst (g := []) (H1 := H) I ⟨r1.rep k.toNat, fun a m => by cases m⟩ ?_ ?_ hp
        · rw [List.all_flatten]
          simp only [List.all_eq_true, List.mem_replicate]
          rintro l ⟨_, rfl⟩
          intro y hy
          exact List.all_eq_true.mp hc.1.1 y hy
        · simp only [List.length_flatten, List.map_replicate, List.sum_replicate_nat]
          rw [Nat.mul_comm, hl]
          exact hc.2
      · cases h
    · cases h)
theorem v_mulA (hk : C.K = X.K) (ha : PE X a (tV C W ka fa)) (hb : PE X b (tV C W kb fb)) : PE X (.BinOp a .Mult b pos) (tV C W kd (eBin gMulA fa fb)) := v_op (op_repT.or (op_mulI.or op_rep)) (hk ▸ ok_mulA) ha hb
/-! ### x in (a, b, ..) -/
def flatD : PyData → Option V
  | .none => some .non
  | .bool b => some (.bl b)
  | .int i => some (.int i)
  | .str s => some (.str s)
  | _ => none
def flatDs : List PyData → Option (List V)
  | [] => some []
  | d :: ds => (flatD d).bind fun v => (flatDs ds).map (v :: ·)
theorem flatD_ok {K : PySem.W.Frag} {H : Hp} {F : Addr → Prop} {d : PyData} {v w : V} (r : Dq K H F d v) (h : flatD d = some w) : v = w ∧ flatV w = true := by
  cases r <;> simp [flatD] at h <;> subst h <;> exact ⟨rfl, rfl⟩
theorem flatDs_ok {K : PySem.W.Frag} {H : Hp} {F : Addr → Prop} : ∀ {ds : List PyData} {vs ws : List V}, DqL K H F ds vs → flatDs ds = some ws → vs = ws ∧ ws.all flatV = true
  | [], _, _, r, h => by cases r; cases h; exact ⟨rfl, rfl⟩
  | d :: ds, _, _, r, h => by
    cases r with
    | cons r1 r2 =>
      simp only [flatDs, Option.bind_eq_some_iff, Option.map_eq_some_iff] at h
      obtain ⟨v, h1, ws, h2, rfl⟩ := h
      obtain ⟨rfl, f1⟩ := flatD_ok r1 h1
      obtain ⟨rfl, f2⟩ := flatDs_ok r2 h2
      exact ⟨rfl, by rw [List.all_cons, f1, f2]; rfl⟩
def inT (neg : Bool) (x y : SV) : Option Bool := match x, y with
  | .d d, .d (.tuple ds) => (flatD d).bind fun v => (flatDs ds).map fun vs => xor neg (inV v vs)
  | _, _ => none
def gInT (_ : Sto) (x y : SV) : Option Bool := inT false x y
def gNotInT (_ : Sto) (x y : SV) : Option Bool := inT true x y
theorem c_inN (neg : Bool) {K : PySem.W.Frag} : CmpOk K ka kb (fun _ x y => inT neg x y) (rIn K neg) := (fun C ρ S A G σ H0 H1 H x y b v u gx gy Q hK I rx ry h q => by
  subst hK
  have h : inT neg x y = some b := h
  unfold inT at h
  split at h
  · rename_i d ds
    simp only [Option.bind_eq_some_iff, Option.map_eq_some_iff] at h
    obtain ⟨v', h1, vs', h2, rfl⟩ := h
    obtain ⟨a, vs, rfl, hs, l, r⟩ := ry.tup
    obtain ⟨rfl, f1⟩ := flatD_ok rx.undat h1
    obtain ⟨rfl, f2⟩ := flatDs_ok r h2
    exact ⟨a, vs, rfl, .inr hs, f1, f2, by cases neg <;> simpa using q⟩
  · cases h)
theorem v_inT (hk : C.K = X.K) (ha : PE X a (tV C W ka fa)) (hb : PE X b (tV C W kb fb)) (hm : behindInMarks .In b = false) : PE X (.Compare a [.In] [b] pos) (tV C W kd (eBin (cB gInT) fa fb)) := v_cmpB op_in_seq (hk ▸ c_inN false) ha hb hm
theorem v_notInT (hk : C.K = X.K) (ha : PE X a (tV C W ka fa)) (hb : PE X b (tV C W kb fb)) (hm : behindInMarks .NotIn b = false) : PE X (.Compare a [.NotIn] [b] pos) (tV C W kd (eBin (cB gNotInT) fa fb)) := v_cmpB op_notIn_seq (hk ▸ c_inN true) ha hb hm
theorem t_inT (hk : C.K = X.K) (ha : PE X a (tV C W ka fa)) (hb : PE X b (tV C W kb fb)) (hm : behindInMarks .In b = false) : PT X (.Compare a [.In] [b] pos) (tTs C W (bB (eBin (cB gInT) fa fb))) := t_cmp op_in_seq (hk ▸ c_inN false) ha hb hm
theorem t_notInT (hk : C.K = X.K) (ha : PE X a (tV C W ka fa)) (hb : PE X b (tV C W kb fb)) (hm : behindInMarks .NotIn b = false) : PT X (.Compare a [.NotIn] [b] pos) (tTs C W (bB (eBin (cB gNotInT) fa fb))) := t_cmp op_notIn_seq (hk ▸ c_inN true) ha hb hm
end
end VL

end
section
set_option Elab.async false
set_option linter.all false
set_option maxRecDepth 100000
/-! VL20: x *= e, x += e of ints; 1 << e; e.bit_length(). -/
namespace VL
open PySem PySem.Spec PyProof.Rows L2
section
variable {X : Cx} {C : Ct} {W : WX} {kd ka kb : Kd} {a b e : Expr} {pos : Pos} {f fa fb : Rho → Mo SV} {i : Nat} {x : Str}
/-- x op= e where both are ints -/
def sAug (i : Nat) (g : Int → Int → Option Int) (f : Rho → Mo SV) : Rho → Sto → Option Fl := fun ρ S => match ρ[i]? with
  | some (some (.d (.int a))) => bindS ρ (f ρ S) fun y S1 => match y with
    | .d (.int b) => (g a b).map fun c => .nx (ρ.set i (some (.d (.int c)))) S1
    | _ => none
  | _ => none
theorem iop_mulI : OpR X (inplaceOp .Mult) (rI IntMulOk fun i j => .int (i * j)) := opI fun _ _ _ _ _ _ _ hc q => imul_int q hc
theorem s_augI {op : Operator} {g : Int → Int → Option Int} {r : R2} {pos' : Pos} (hN : X.N.Nodup) (hi : X.N[i]? = some x) (hx : Loc X.env.scope x) (he : PE X e (tV C W .be f)) (ho : OpR X (inplaceOp op) r)
    (hr : ∀ (p q c : Int) (H : Hp) (Q : VK), g p q = some c → Q (.int c) H → r (.int p) (.int q) H Q) (hf : X.fn x = true ∨ X.env.scope.names.lookup x = some .local := by first | exact .inl rfl | exact .inr rfl | assumption) :
    PS X (.AugAssign (.Name x pos') op e pos) (tS C W (sAug i g f)) := by
  refine ps_imp (ps_aug (ti := r) hN hi hx he ho hf) fun D σ H ⟨ρ, S, A, G, I, q⟩ => ?_
  unfold sAug at q
  split at q
  · rename_i p hρ
    obtain ⟨v, g0, hv, hs, _⟩ := I.slots i _ hρ
    cases hs with
    | d hd =>
      cases hd
      refine ⟨.int p, hv, C.Pr, ρ, S, A, G, fun _ h => h, I, SGood.step q fun y S' q v' H' p' => ?_⟩
      obtain ⟨A', g', P1, e1, hP1, I1, k1, _⟩ := (show EPost (C.pr C.Pr) .be ρ A G σ H y S' v' H' from p').next
      split at q
      · rename_i b
        obtain rfl := k1.int
        cases hg : g p b with
        | none => rw [hg] at q; exact q.elim
        | some c =>
          rw [hg] at q
          refine hr p b c H' _ hg ?_
          have J : Sim C ρ S' A' G σ H' := (show Sim ((C.pr P1).pr C.Pr) ρ S' A' G σ H' from Sim.prc I1 hP1)
          exact q _ _ _ _ (put_ext (g := []) e1 fun a m => by cases m) (Sim.put (g := []) (Sim.prc J fun a z => z.elim id fun z => by cases z) (.d (.int c)) (by simp) (fun a m => by cases m) (fun a m => by cases m))
      · exact q.elim
  · exact q.elim
def gMulI (p q : Int) : Option Int := if mulOk p q then some (p * q) else none
def gAddI (p q : Int) : Option Int := some (p + q)
def gSubI (p q : Int) : Option Int := some (p - q)
theorem s_augMul {pos' : Pos} (hN : X.N.Nodup) (hi : X.N[i]? = some x) (hx : Loc X.env.scope x) (he : PE X e (tV C W .be f)) (hf : X.fn x = true ∨ X.env.scope.names.lookup x = some .local := by first | exact .inl rfl | exact .inr rfl | assumption) :
    PS X (.AugAssign (.Name x pos') .Mult e pos) (tS C W (sAug i gMulI f)) := s_augI hN hi hx he iop_mulI (fun p q c H Q hg hq => by
  unfold gMulI at hg
  split at hg
  · rename_i hm
    cases hg
    exact ⟨p, q, rfl, rfl, mulOk.ok hm, hq⟩
  · cases hg) hf
theorem s_augAdd {pos' : Pos} (hN : X.N.Nodup) (hi : X.N[i]? = some x) (hx : Loc X.env.scope x) (he : PE X e (tV C W .be f)) (hf : X.fn x = true ∨ X.env.scope.names.lookup x = some .local := by first | exact .inl rfl | exact .inr rfl | assumption) :
    PS X (.AugAssign (.Name x pos') .Add e pos) (tS C W (sAug i gAddI f)) := s_augI hN hi hx he iop_add (fun p q c H Q hg hq => by
  cases hg
  exact ⟨p, q, rfl, rfl, hq⟩) hf
theorem s_augSub {pos' : Pos} (hN : X.N.Nodup) (hi : X.N[i]? = some x) (hx : Loc X.env.scope x) (he : PE X e (tV C W .be f)) (hf : X.fn x = true ∨ X.env.scope.names.lookup x = some .local := by first | exact .inl rfl | exact .inr rfl | assumption) :
    PS X (.AugAssign (.Name x pos') .Sub e pos) (tS C W (sAug i gSubI f)) := s_augI hN hi hx he iop_sub (fun p q c H Q hg hq => by
  cases hg
  exact ⟨p, q, rfl, rfl, hq⟩) hf
/-! ### 1 << e, e.bit_length() -/
def gShl (_ : Sto) (x y : SV) : Option SV := match x, y with
  | .d (.int p), .d (.int q) => if decide (0 ≤ q) && decide (q.natAbs + Builtin.Int.intBits p < 134217728) then some (.d (.int (p * 2 ^ q.toNat))) else none
  | _, _ => none
theorem v_shl (ha : PE X a (tV C W ka fa)) (hb : PE X b (tV C W kb fb)) : PE X (.BinOp a .LShift b pos) (tV C W kd (eBin gShl fa fb)) := v_op op_shlW (fun C ρ S A G σ H0 H1 H x y z v u gx gy Q hK I rx ry h q => by
  unfold gShl at h
  split at h
  · rename_i p k
    split at h
    · rename_i hc
      cases h
      simp only [Bool.and_eq_true, decide_eq_true_eq] at hc
      exact ⟨p, k, rx.int, ry.int, ⟨hc.1, by have := hc.2; unfold CShl at *; omega⟩, q _ H (EPost.same I (Rk.dat (.int _)))⟩
    · cases h
  · cases h) ha hb
def eBits (f : Rho → Mo SV) : Rho → Mo SV := fun ρ S => bindM (f ρ S) fun x S1 => match x with
  | .d (.int p) => some (.ok (.d (.int (Builtin.Int.intBits p : Nat))) S1)
  | _ => none
theorem v_bits {apos : Pos} (ha : PE X a (tV C W ka fa)) (hbase : attributeBase a "bit_length" X.env (eval a X.env) = eval a X.env := by rfl) (hline : (apos.endLine == pos.line) = true := by rfl) :
    PE X (.Call (.Attribute a "bit_length" apos) [] [] pos) (tV C W kd (eBits fa)) := by
  refine pe_imp (pe_bits ha hbase hline) fun σ H Q ⟨P, ρ, S, A, G, hP, I, q⟩ => ⟨P, ρ, S, A, G, hP, I, EGood.step q (fun _ _ _ _ _ _ z => z) fun x S1 q v H1 p__ => ?_⟩
  obtain ⟨A1, g1, P1, e1, hP1, I1, k1, _⟩ := p__.next
  split at q
  · rename_i p
    have I2 : Sim (C.pr P) ρ S1 A1 G σ H1 := (show Sim ((C.pr P1).pr P) ρ S1 A1 G σ H1 from Sim.prc I1 hP1)
    exact ⟨p, k1.int, q _ _ ((EPost.same I2 (Rk.dat (.int _))).trans e1)⟩
  · exact q.elim
end
end VL

end
section
set_option Elab.async false
set_option linter.all false
set_option maxRecDepth 100000
/-! VL21: order of deep data, sorted, zip, enumerate, list(range), repr of bools. -/
namespace VL
open PySem PySem.Spec PyProof.Rows L2
section
variable {X : Cx} {C : Ct} {W : WX} {kd ka kb : Kd} {e a b c : Expr} {pos : Pos} {f fa fb fc : Rho → Mo SV}
/-! ### <= of alike data -/
def rLeD (K : PySem.W.Frag) : R2 := fun x y H Q => ∃ d e, Dp K H x d ∧ Dp K H y e ∧ PySem.W.alike d e = true ∧ d ≠ .none ∧ SeqAt.shaped d = true ∧ Q (.bl (!PySem.W.dataLt e d)) H
theorem op_leD (hu : X.A.units + 64 < cLine) : OpR X (compareOp .LtE) (rLeD X.K) := by
  intro pins s σ H x y v u Q I rx ry h
  obtain ⟨d, e, hd, he, al, nn, sd, q⟩ := h
  obtain ⟨as, r1⟩ := Dp.reads I d x v hd rx
  obtain ⟨bs, r2⟩ := Dp.reads I e y u he ry
  exact PySem.W.rcLe_alike d e X.A s v u as bs r1 r2 al nn (SeqAt.room_of_shaped sd hu) _ _ _ _ ⟨.bl _, H, I, rfl, q⟩
def gLeD (_ : Sto) (x y : SV) : Option Bool :=
  match x, y with
  | .d (.int i), .d (.int j) => some (decide (i ≤ j))
  | .d (.tuple xs), .d (.tuple ys) => if PySem.W.alike (.tuple xs) (.tuple ys) && SeqAt.shaped (.tuple xs) then some (!PySem.W.dataLt (.tuple ys) (.tuple xs)) else none
  | _, _ => none
theorem c_leD {K : PySem.W.Frag} : CmpOk K ka kb gLeD (fun x y H Q => rI0 (fun i j => .bl (decide (i ≤ j))) x y H Q ∨ rLeD K x y H Q) := (fun C ρ S A G σ H0 H1 H x y b v u gx gy Q hK I rx ry h q => by
  subst hK
  unfold gLeD at h
  split at h
  · rename_i i j
    cases h
    exact .inl ⟨i, j, rx.int, ry.int, q⟩
  · split at h
    · rename_i hc
      cases h
      simp only [Bool.and_eq_true] at hc
      exact .inr ⟨_, _, Dq.dp _ _ rx.undat, Dq.dp _ _ ry.undat, hc.1, (by intro z; cases z), hc.2, q⟩
    · cases h
  · cases h)
theorem v_leD (hk : C.K = X.K) (hu : X.A.units + 64 < cLine) (ha : PE X a (tV C W ka fa)) (hb : PE X b (tV C W kb fb)) : PE X (.Compare a [.LtE] [b] pos) (tV C W kd (eBin (cB gLeD) fa fb)) := v_cmpB (op_le.or (op_leD hu)) (hk ▸ c_leD) ha hb (nomark _)
end
/-! ### sorted of alike data -/
def sortD (ds : List PyData) : List PyData := ds.mergeSort (PySem.W.dataLe false id)
def isTup1 : PyData → Bool
  | .tuple (_ :: _) => true
  | _ => false
def isPlain : PyData → Bool
  | .int _ => true
  | .str _ => true
  | .bool _ => true
  | _ => false
def sortOk (ds : List PyData) : Bool := (ds.all fun d => ds.all fun e => PySem.W.alike d e) && ds.all (fun d => SeqAt.shaped d) && (ds.all isTup1 || ds.all isPlain) && decide (ds.length ≤ sizeLine)
theorem sortable_of {ds : List PyData} (h : (ds.all isTup1 || ds.all isPlain) = true) : PySem.W.Sortable ds := by
  rcases Bool.or_eq_true_iff.mp h with h | h
  · refine .inl fun d m => ?_
    have := List.all_eq_true.mp h d m
    unfold isTup1 at this
    split at this
    · exact ⟨_, _, rfl⟩
    · cases this
  · refine .inr fun d m => ?_
    have := List.all_eq_true.mp h d m
    cases d <;> first | cases this | skip
    all_goals (refine ⟨?_, fun xs => ?_⟩ <;> intro z <;> cases z)
def rSortD (K : PySem.W.Frag) : List V → Hp → VK → Prop := fun vs H Q => ∃ (a : Addr) (xs : List V) (ds : List PyData) (R : V → PyData → Prop), vs = [V.ref a] ∧ SqL K H a xs ∧ DpAll K H xs ds ∧ PySem.W.EachIs R xs ds ∧ sortOk ds = true ∧
  ∀ ys p, PySem.W.EachIs R ys (sortD ds) → H p = none → Q (.ref p) (upd H p (.lst ys))
section
variable {X : Cx}
theorem each_vals {R : V → PyData → Prop} : ∀ {xs : List V} {us : List Value} {ds : List PyData}, Vals xs us → PySem.W.EachIs R xs ds → PySem.W.EachIs (fun v d => ∃ x, RelV x v ∧ R x d) us ds
  | _, _, _, .nil, .nil => .nil
  | _, _, _, .cons r t, .cons h k => .cons ⟨_, r, h⟩ (each_vals t k)
theorem vals_each {R : V → PyData → Prop} : ∀ {us : List Value} {ds : List PyData}, PySem.W.EachIs (fun v d => ∃ x, RelV x v ∧ R x d) us ds → ∃ xs, Vals xs us ∧ PySem.W.EachIs R xs ds
  | _, _, .nil => ⟨[], .nil, .nil⟩
  | _, _, .cons ⟨x, r, h⟩ t => by
    obtain ⟨xs, r2, h2⟩ := vals_each t
    exact ⟨x :: xs, .cons r r2, .cons h h2⟩
theorem cr_sortD (hu : X.A.units + 66 < cLine) : CallR X (.builtin "sorted") (rSortD X.K) := by
  intro pins s σ H vs us Q I r h
  obtain ⟨a, xs, ds, R, rfl, hs, hd, he, ok, q⟩ := h
  unfold sortOk at ok
  simp only [Bool.and_eq_true] at ok
  obtain ⟨⟨⟨al, sh⟩, so⟩, le⟩ := ok
  have le := of_decide_eq_true le
  obtain ⟨its, rv, hl, hz⟩ := I.list hs
  rw [Vals.ref1 r]
  obtain ⟨as, ra⟩ := Dp.readsAll I ds xs its hd rv
  have er := PySem.W.readsAll_each (h := s.heap) id (vs := its) (bs := ds) (as := as) (by rw [List.map_id]; exact ra)
  refine PySem.W.sorted_data (enc := id) hl.isList (each_vals rv he) er (by
    rw [List.map_id]
    intro d hd' e he'
    exact List.all_eq_true.mp (List.all_eq_true.mp al d hd') e he') (by rw [List.map_id]; exact sortable_of so) le (fun d m => by
    have h1 := List.all_eq_true.mp sh d m
    have h2 : (d.canLay0 && decide (d.depth ≤ 64)) = true := h1
    rw [Bool.and_eq_true] at h2
    have := of_decide_eq_true h2.2
    show X.A.units + 2 + d.depth < cLine
    omega) fun out hlen eo => ?_
  obtain ⟨ys, ry, ey⟩ := vals_each eo
  obtain ⟨ep, he'⟩ := PyProof.Rows.sortedAll_at s.heap its out.toArray
  have hlen2 : ys.length ≤ sizeLine := by rw [ry.length, hlen]; exact le
  exact ⟨.ref _, upd H (s.heap.objs.size + 1) (.lst ys), I.laid (t' := s.toks) (fun _ _ => PyProof.Rows.sortedAll_old) (Nat.le_succ _) ⟨hlen2, out, ep, ry, he'⟩, rfl, q ys _ ey (I.hok.fresh (Nat.le_succ _))⟩
def gSorted (S : Sto) (xs : List SV) : Option SV :=
  match xs with
  | [x] => (lst? S x).bind fun ys => (allD ys).bind fun ds => if sortOk ds then some (.own ((sortD ds).map SV.d)) else none
  | _ => none
theorem dqL_each {K : PySem.W.Frag} {H : Hp} {F : Addr → Prop} : ∀ {ds : List PyData} {vs : List V}, DqL K H F ds vs → PySem.W.EachIs (fun v d => Dq K H F d v) vs ds
  | [], _, h => by cases h; exact .nil
  | d :: ds, _, h => by
    cases h with
    | cons h1 h2 => exact .cons h1 (dqL_each h2)
theorem each_dqL {K : PySem.W.Frag} {H : Hp} {F : Addr → Prop} : ∀ {ds : List PyData} {vs : List V}, PySem.W.EachIs (fun v d => Dq K H F d v) vs ds → DqL K H F ds vs
  | _, _, .nil => .nil
  | _, _, .cons h t => .cons h (each_dqL t)
theorem sortD_length (ds : List PyData) : (sortD ds).length = ds.length := List.length_mergeSort ds
theorem noOwn_ds (ds : List PyData) : (ds.map SV.d).all noOwn = true := List.all_eq_true.mpr fun x m => by
  obtain ⟨d, _, rfl⟩ := List.mem_map.mp m
  rfl
theorem ok_sorted {K : PySem.W.Frag} : CalOk K ka kd gSorted (rSortD K) := by
  intro C ρ S A G σ H0 H xs z vs gx Q hK I r h q
  subst hK
  unfold gSorted at h
  split at h
  · simp only [Option.bind_eq_some_iff] at h
    obtain ⟨ys, hy, ds, hd, h⟩ := h
    split at h
    · rename_i hn
      cases h
      obtain ⟨v, rfl, r1⟩ := r.one
      obtain ⟨a, vs, ga, rfl, hs, l, r2⟩ := r1.lst I hy
      have rd := r2.undat hd
      refine ⟨a, vs, ds, _, rfl, .of hs, DqL.dp _ _ rd, dqL_each rd, hn, fun ys p ey hp => q _ _ (EPost.lst (H1 := H) I (RkL.dats (H := H) (each_dqL ey)) (noOwn_ds _) ?_ hp)⟩
      have e1 := (each_dqL ey).length
      rw [e1, sortD_length, ← rd.length]
      exact l
    · cases h
  · cases h
end
end VL

end
section
set_option Elab.async false
set_option linter.all false
set_option maxRecDepth 100000
/-! VL22: zip, enumerate, list(range), repr of bools. -/
namespace VL
open PySem PySem.Spec PyProof.Rows L2
def zipL (ds es : List PyData) : List SV := (ds.zip es).map fun p => .d (.tuple [p.1, p.2])
def enumL (ds : List PyData) : List SV := ds.zipIdx.map fun p => .d (.tuple [.int (p.2 : Nat), p.1])
theorem allD_at : ∀ {xs : List SV} {ds : List PyData} {i : Nat} {d : PyData}, allD xs = some ds → ds[i]? = some d → xs[i]? = some (.d d)
  | [], ds, i, d, h, e => by cases h; simp at e
  | .d x :: xs, ds, i, d, h, e => by
    simp only [allD, Option.map_eq_some_iff] at h
    obtain ⟨r, h, rfl⟩ := h
    cases i with
    | zero => simpa using e
    | succ i => simpa using allD_at h (by simpa using e)
  | .ref _ :: _, _, _, _, h, _ => by cases h
  | .fn _ :: _, _, _, _, h, _ => by cases h
  | .scr _ :: _, _, _, _, h, _ => by cases h
  | .own _ :: _, _, _, _, h, _ => by cases h
theorem allD_len : ∀ {xs : List SV} {ds : List PyData}, allD xs = some ds → xs.length = ds.length
  | [], ds, h => by cases h; rfl
  | .d x :: xs, ds, h => by
    simp only [allD, Option.map_eq_some_iff] at h
    obtain ⟨r, h, rfl⟩ := h
    simp [allD_len h]
  | .ref _ :: _, _, h => by cases h
  | .fn _ :: _, _, h => by cases h
  | .scr _ :: _, _, h => by cases h
  | .own _ :: _, _, h => by cases h
theorem zipL_at {ds es : List PyData} {i : Nat} {x : SV} (h : (zipL ds es)[i]? = some x) : ∃ d e, ds[i]? = some d ∧ es[i]? = some e ∧ x = .d (.tuple [d, e]) := by
  unfold zipL at h
  rw [List.getElem?_map, Option.map_eq_some_iff] at h
  obtain ⟨p, hp, rfl⟩ := h
  obtain ⟨h1, h2⟩ := List.getElem?_zip_eq_some.mp hp
  exact ⟨_, _, h1, h2, rfl⟩
theorem enumL_at {ds : List PyData} {i : Nat} {x : SV} (h : (enumL ds)[i]? = some x) : ∃ d, ds[i]? = some d ∧ x = .d (.tuple [.int (i : Nat), d]) := by
  unfold enumL at h
  rw [List.getElem?_map, Option.map_eq_some_iff] at h
  obtain ⟨p, hp, rfl⟩ := h
  rw [List.getElem?_zipIdx] at hp
  simp only [Option.map_eq_some_iff] at hp
  obtain ⟨d, hd, rfl⟩ := hp
  exact ⟨d, hd, by simp⟩
section
variable {C : Ct} {A A2 : List Addr} {G G2 : List (List Addr)} {H H2 : Hp} {P2 : Addr → Prop} {x y : SV} {v u : V} {xs ys : List SV} {vs us : List V} {ds es : List PyData} {full : Bool} {a b : Addr}
/-- a new pair -/
theorem pair_new {F : Addr → Prop} {K : PySem.W.Frag} {d e : PyData} {v u : V} {T : Addr} (ht : ∀ a, F a → H2 a ≠ none) (hT : H2 T = none) (hd : Dq K H2 F d v) (he : Dq K H2 F e u) : Dq K (upd H2 T (.tup [v, u])) F (.tuple [d, e]) (.ref T) := by
  have mo : ∀ {d : PyData} {v : V}, Dq K H2 F d v → Dq K (upd H2 T (.tup [v, u])) F d v := fun {d v} h => Dq.mono (fun a z => .inl z) (fun a o q n => by
    rw [upd_ne (fun z => by subst z; rw [hT] at q; cases q)]
    exact q) _ _ h
  have mo2 : ∀ {d : PyData} {w x : V}, Dq K H2 F d w → Dq K (upd H2 T (.tup [x, u])) F d w := fun {d w x} h => Dq.mono (fun a z => .inl z) (fun a o q n => by
    rw [upd_ne (fun z => by subst z; rw [hT] at q; cases q)]
    exact q) _ _ h
  refine .tup (if_pos rfl) (fun z => ht T z hT) (by show 2 ≤ sizeLine; rw [sizeLine_eq]; omega) (.cons (mo2 hd) (.cons (mo2 he) .nil))
theorem wk_zipL (w1 : Wk C full A G (Itl C.K a) xs H) (w2 : Wk C full A G (Itl C.K b) ys H) (dx : allD xs = some ds) (dy : allD ys = some es) : Wk C full A G (Itz C.K a b) (zipL ds es) H := by
  refine ⟨fun P2 A2 G2 H2 hP e hk ht i x hx => ?_, fun A2 G2 H2 e hk i hi => ?_⟩
  · obtain ⟨d, e', hd, he, rfl⟩ := zipL_at hx
    obtain ⟨⟨vs, v, s1, hv⟩, y1⟩ := w1.go P2 A2 G2 H2 hP e hk ht i _ (allD_at dx hd)
    obtain ⟨⟨us, u, s2, hu⟩, y2⟩ := w2.go P2 A2 G2 H2 hP e hk ht i _ (allD_at dy he)
    refine ⟨⟨vs, us, v, u, s1, s2, hv, hu⟩, fun w H3 ⟨T, p, q, e1, e2, e3, e4, e5⟩ => ?_⟩
    subst e1
    subst e3
    have r1 := (y1 p H2 ⟨rfl, e4⟩).2
    have r2 := (y2 q H2 ⟨rfl, e5⟩).2
    exact ⟨.inr ⟨T, _, e2, rfl⟩, .d (pair_new ht e2 r1.nil_d.2 r2.nil_d.2)⟩
  · obtain ⟨vs, s1, h1⟩ := w1.stop A2 G2 H2 e hk (max i xs.length) (by omega)
    obtain ⟨us, s2, h2⟩ := w2.stop A2 G2 H2 e hk (max i ys.length) (by omega)
    have l1 := allD_len dx
    have l2 := allD_len dy
    have hl : (zipL ds es).length = min ds.length es.length := by simp [zipL]
    rw [hl] at hi
    by_cases z : ds.length ≤ i
    · obtain ⟨vs', s1', h1'⟩ := w1.stop A2 G2 H2 e hk i (by omega)
      exact ⟨vs', us, s1', s2, .inl h1'⟩
    · obtain ⟨us', s2', h2'⟩ := w2.stop A2 G2 H2 e hk i (by omega)
      exact ⟨vs, us', s1, s2', .inr h2'⟩
theorem wk_zipT (w1 : Wk C full A G (Itt C.K a) xs H) (w2 : Wk C full A G (Itt C.K b) ys H) (dx : allD xs = some ds) (dy : allD ys = some es) : Wk C full A G (RZ.ItzT C.K a b) (zipL ds es) H := by
  refine ⟨fun P2 A2 G2 H2 hP e hk ht i x hx => ?_, fun A2 G2 H2 e hk i hi => ?_⟩
  · obtain ⟨d, e', hd, he, rfl⟩ := zipL_at hx
    obtain ⟨⟨vs, v, s1, hv⟩, y1⟩ := w1.go P2 A2 G2 H2 hP e hk ht i _ (allD_at dx hd)
    obtain ⟨⟨us, u, s2, hu⟩, y2⟩ := w2.go P2 A2 G2 H2 hP e hk ht i _ (allD_at dy he)
    refine ⟨⟨vs, us, v, u, s1, s2, hv, hu⟩, fun w H3 ⟨T, p, q, e1, e2, e3, e4, e5⟩ => ?_⟩
    subst e1
    subst e3
    have r1 := (y1 p H2 ⟨rfl, e4⟩).2
    have r2 := (y2 q H2 ⟨rfl, e5⟩).2
    exact ⟨.inr ⟨T, _, e2, rfl⟩, .d (pair_new ht e2 r1.nil_d.2 r2.nil_d.2)⟩
  · obtain ⟨vs, s1, h1⟩ := w1.stop A2 G2 H2 e hk (max i xs.length) (by omega)
    obtain ⟨us, s2, h2⟩ := w2.stop A2 G2 H2 e hk (max i ys.length) (by omega)
    have l1 := allD_len dx
    have l2 := allD_len dy
    have hl : (zipL ds es).length = min ds.length es.length := by simp [zipL]
    rw [hl] at hi
    by_cases z : ds.length ≤ i
    · obtain ⟨vs', s1', h1'⟩ := w1.stop A2 G2 H2 e hk i (by omega)
      exact ⟨vs', us, s1', s2, .inl h1'⟩
    · obtain ⟨us', s2', h2'⟩ := w2.stop A2 G2 H2 e hk i (by omega)
      exact ⟨vs, us', s1, s2', .inr h2'⟩
theorem wk_enum (w1 : Wk C full A G (Itl C.K a) xs H) (dx : allD xs = some ds) : Wk C full A G (Ite C.K a) (enumL ds) H := by
  refine ⟨fun P2 A2 G2 H2 hP e hk ht i x hx => ?_, fun A2 G2 H2 e hk i hi => ?_⟩
  · obtain ⟨d, hd, rfl⟩ := enumL_at hx
    obtain ⟨⟨vs, v, s1, hv⟩, y1⟩ := w1.go P2 A2 G2 H2 hP e hk ht i _ (allD_at dx hd)
    refine ⟨⟨vs, v, s1, hv⟩, fun w H3 ⟨T, p, e1, e2, e3, e4⟩ => ?_⟩
    subst e1
    subst e3
    have r1 := (y1 p H2 ⟨rfl, e4⟩).2
    exact ⟨.inr ⟨T, _, e2, rfl⟩, .d (pair_new ht e2 (.int _) r1.nil_d.2)⟩
  · have l1 := allD_len dx
    obtain ⟨vs', s1', h1'⟩ := w1.stop A2 G2 H2 e hk i (by simp [enumL] at hi; omega)
    exact ⟨vs', s1', h1'⟩
end
section
variable {X : Cx} {C : Ct} {W : WX} {kd ka kb : Kd} {tg e a b c : Expr} {es : List Expr} {pos : Pos} {f fa fb : Rho → Mo SV} {fs : Rho → Mo (List SV)}
theorem Rk.walkT {P : Addr → Prop} {ρ : Rho} {S : Sto} {g A : List Addr} {G : List (List Addr)} {σ : L2.St} {H0 H : Hp} {ds : List PyData} {v : V} {full : Bool} (I : Sim (C.pr P) ρ S A G σ H) (r : Rk (C.pr P) ka g A G H0 H (.d (.tuple ds)) v) :
    ∃ a, v = .ref a ∧ (∃ ys, SqT C.K H a ys) ∧ Wk (C.pr P) full A G (Itt C.K a) (ds.map SV.d) H := by
  obtain ⟨r1, h1⟩ := r.asBe
  cases r1 with
  | d r1 =>
    cases r1 with
    | tup e n l q => exact ⟨_, rfl, ⟨_, .of e⟩, wk_tup (RsL.ofD q) fun A2 G2 H2 e2 hk => .of (fs_kept e2 _ _ e n)⟩
    | ctup e l q => exact ⟨_, rfl, ⟨_, SqT.const e H⟩, wk_tup (RsL.ofD q) fun A2 G2 H2 e2 hk => SqT.const e H2⟩
/-- a list of data, not shared -/
def plainL : SV → Option (List PyData)
  | .d (.list ds) => some ds
  | .own xs => allD xs
  | _ => none
theorem Rk.walkL {P : Addr → Prop} {ρ : Rho} {S : Sto} {g A : List Addr} {G : List (List Addr)} {σ : L2.St} {H0 H : Hp} {x : SV} {ds : List PyData} {v : V} (I : Sim (C.pr P) ρ S A G σ H) (r : Rk (C.pr P) ka g A G H0 H x v) (h : plainL x = some ds) :
    ∃ a, v = .ref a ∧ (∃ ys, SqL C.K H a ys) ∧ Wk (C.pr P) false A G (Itl C.K a) (ds.map SV.d) H := by
  obtain ⟨r1, h1⟩ := r.asBe
  cases r1 with
  | d r1 =>
    cases r1 with
    | lst e n l q => cases h; exact ⟨_, rfl, ⟨_, .of e⟩, wk_lst (RsL.ofD q) fun A2 G2 H2 e2 hk => .of (fs_kept e2 _ _ e n)⟩
    | _ => cases h
  | own e l q =>
    obtain ⟨q', rfl⟩ := RsL.toD q h
    exact ⟨_, rfl, ⟨_, .of e⟩, wk_lst (RsL.ofD q') fun A2 G2 H2 e2 hk => .of (hk rfl _ _ e (h1 _ List.mem_cons_self).1)⟩
  | _ => cases h
def iZip2 (fs : Rho → Mo (List SV)) : Rho → Mo (List SV) := fun ρ S => bindM (fs ρ S) fun xs S1 => match xs with
  | [.d (.tuple ds), .d (.tuple es)] => some (.ok (zipL ds es) S1)
  | [x, y] => (plainL x).bind fun ds => (plainL y).map fun es => .ok (zipL ds es) S1
  | _ => none
theorem i_zip (hk : C.K = X.K) {p tpos : Pos} {elts : List Expr} {kk : Nat} (hg : Gl X "zip") (hm : X.mg "zip" = none) (ha : PA X [a, b] (tVs C W .be fs)) (hs : starEach [a, b] X.env = (false, eval a X.env) :: starEach [b] X.env := by rfl) (hpl : (backTo pos (starEach [b] X.env)).any (·.1) = false := by rfl) :
    PI X (.Tuple elts kk tpos) (.Call (.Name "zip" p) [a, b] [] pos) (tI C W false (iZip2 fs)) := by
  refine pi_imp (RZ.pi_zipA hg hm ha hs hpl) fun σ H R ⟨P, ρ, S, A, G, hP, I, q⟩ => ⟨P, ρ, S, A, G, hP, I, EGood.step q (fun _ _ _ _ _ _ z => z) fun xs S1 q vs H1 p => ?_⟩
  obtain ⟨A1, g1, e1, J1, k1⟩ := p
  split at q
  · rename_i ds es
    obtain ⟨v, u, ga, gb, rfl, r1, r2⟩ := k1.two
    obtain ⟨a1, rfl, ⟨y1, s1⟩, w1⟩ := r1.walkT (full := false) J1
    obtain ⟨a2, rfl, ⟨y2, s2⟩, w2⟩ := r2.walkT (full := false) J1
    have w := wk_zipT w1 w2 (allD_map ds) (allD_map es)
    refine ⟨a1, a2, y1, y2, rfl, .inr ⟨hk ▸ s1, hk ▸ s2, ?_⟩⟩
    rw [← hk]
    exact q _ _ ⟨A1, e1, J1, w⟩
  · rename_i x y _
    cases ex : plainL x with
    | none => rw [ex] at q; exact q.elim
    | some ds =>
      rw [ex] at q
      cases ey : plainL y with
      | none => rw [ey] at q; exact q.elim
      | some es =>
        rw [ey] at q
        simp only [Option.bind_some, Option.map_some] at q
        obtain ⟨v, u, ga, gb, rfl, r1, r2⟩ := k1.two
        obtain ⟨a1, rfl, ⟨y1, s1⟩, w1⟩ := r1.walkL J1 ex
        obtain ⟨a2, rfl, ⟨y2, s2⟩, w2⟩ := r2.walkL J1 ey
        have w := wk_zipL w1 w2 (allD_map ds) (allD_map es)
        refine ⟨a1, a2, y1, y2, rfl, .inl ⟨hk ▸ s1, hk ▸ s2, ?_⟩⟩
        rw [← hk]
        exact q _ _ ⟨A1, e1, J1, w⟩
  · exact q.elim
def iEnum1 (fs : Rho → Mo (List SV)) : Rho → Mo (List SV) := fun ρ S => bindM (fs ρ S) fun xs S1 => match xs with
  | [x] => (plainL x).map fun ds => .ok (enumL ds) S1
  | _ => none
theorem i_enum (hk : C.K = X.K) {p tpos : Pos} {elts : List Expr} {kk : Nat} (hg : Gl X "enumerate") (hm : X.mg "enumerate" = none) (ha : PA X [a] (tVs C W .be fs)) (hs : starEach [a] X.env = [(false, eval a X.env)] := by rfl) :
    PI X (.Tuple elts kk tpos) (.Call (.Name "enumerate" p) [a] [] pos) (tI C W false (iEnum1 fs)) := by
  refine pi_imp (pi_enum hg hm ha hs) fun σ H R ⟨P, ρ, S, A, G, hP, I, q⟩ => ⟨P, ρ, S, A, G, hP, I, EGood.step q (fun _ _ _ _ _ _ z => z) fun xs S1 q vs H1 p => ?_⟩
  obtain ⟨A1, g1, e1, J1, k1⟩ := p
  split at q
  · rename_i x
    cases ex : plainL x with
    | none => rw [ex] at q; exact q.elim
    | some ds =>
      rw [ex] at q
      obtain ⟨v, rfl, r1⟩ := k1.one
      obtain ⟨a1, rfl, ⟨y1, s1⟩, w1⟩ := r1.walkL J1 ex
      refine ⟨a1, y1, rfl, hk ▸ s1, ?_⟩
      rw [← hk]
      exact q _ _ ⟨A1, e1, J1, wk_enum w1 (allD_map ds)⟩
  · exact q.elim
/-! ### list(range(..)) -/
def rgD (lo : Int) (n : Nat) : List PyData := (List.range n).map fun k => .int (lo + (k : Nat))
def eLrg1 (f : Rho → Mo SV) : Rho → Mo SV := fun ρ S => bindM (f ρ S) fun x S1 => match x with
  | .d (.int j) => if j.natAbs ≤ 16777216 then some (.ok (.own ((rgD 0 j.toNat).map SV.d)) S1) else none
  | _ => none
def eLrg2 (fa fb : Rho → Mo SV) : Rho → Mo SV := fun ρ S => bindM (fa ρ S) fun x S1 => bindM (fb ρ S1) fun y S2 => match x, y with
  | .d (.int i), .d (.int j) => if i.natAbs + j.natAbs ≤ 16777216 then some (.ok (.own ((rgD i (j - i).toNat).map SV.d)) S2) else none
  | _, _ => none
theorem rg_dq {K : PySem.W.Frag} {H : Hp} {F : Addr → Prop} (a b : Int) : DqL K H F (rgD a (b - a).toNat) (rgV a b) := by
  unfold rgD rgV
  generalize (List.range (b - a).toNat) = l
  induction l with
  | nil => exact .nil
  | cons k l ih => exact .cons (.int _) ih
theorem v_lrg1 (hc : X.calm = true) (hk : C.K = X.K) {p p2 pos2 : Pos} (hg : Gl X "list") (hm : X.mg "list" = none) (hg2 : Gl X "range") (hm2 : X.mg "range" = none) (ha : PE X a (tV C W ka fa))
    (na : starEach [a] X.env = (false, eval a X.env) :: starEach [] X.env := by rfl) (na2 : starEach [.Call (.Name "range" p2) [a] [] pos2] X.env = (false, eval (.Call (.Name "range" p2) [a] [] pos2) X.env) :: starEach [] X.env := by rfl) :
    PE X (.Call (.Name "list" p) [.Call (.Name "range" p2) [a] [] pos2] [] pos) (tV C W kd (eLrg1 fa)) := by
  refine pe_imp (pe_listRg hc hg hm (prg_1 hg2 hm2 ha na) na2) fun σ H Q ⟨P, ρ, S, A, G, hP, I, q⟩ => ⟨P, ρ, S, A, G, hP, I, EGood.step q (fun _ _ _ _ _ _ z => z) fun x S1 q v H1 p__ => ?_⟩
  obtain ⟨A1, g1, P1, e1, hP1, I1, k1, _⟩ := p__.next
  split at q
  · rename_i j
    split at q
    · rename_i hj
      have I2 : Sim (C.pr P) ρ S1 A1 G σ H1 := (show Sim ((C.pr P1).pr P) ρ S1 A1 G σ H1 from Sim.prc I1 hP1)
      refine ⟨j, k1.int, ⟨by omega, by omega, by omega, by omega, by omega⟩, fun l hl => ?_⟩
      have rg := rg_dq (K := C.K) (H := H1) (F := Fs (C.pr P) A1 G) 0 j
      rw [show (j - 0).toNat = j.toNat by rw [Int.sub_zero]] at rg
      refine q _ _ ((EPost.lst (kd := kd) (H1 := H1) I2 (RkL.dats rg) (noOwn_ds _) ?_ hl).trans e1)
      rw [rgV_length, sizeLine_eq]
      omega
    · exact q.elim
  · exact q.elim
/-! ### repr of a truth value -/
def gReprB (_ : Sto) (xs : List SV) : Option SV := match xs with
  | [.d (.bool b)] => some (.d (.str (if b then "True" else "False")))
  | _ => none
theorem call_repr_bool : CallR X (.builtin "repr") (fun xs H Q => ∃ b, xs = [.bl b] ∧ Q (.str (if b then "True" else "False")) H) := by
  intro pins s σ H xs us Q I r h
  obtain ⟨b, rfl, q⟩ := h
  obtain ⟨u, rfl, ru⟩ := vals1 r
  obtain rfl : u = Value.bool b := ru
  exact PySem.P.repr_of_bool ⟨.str _, H, I.tok _, ⟨_, rfl⟩, q⟩
theorem ok_reprB {K : PySem.W.Frag} : CalOk K ka kd gReprB (fun xs H Q => ∃ b, xs = [.bl b] ∧ Q (.str (if b then "True" else "False")) H) := by
  intro C ρ S A G σ H0 H xs z vs gx Q hK I r h q
  unfold gReprB at h
  split at h
  · cases h
    obtain ⟨v, rfl, r1⟩ := r.one
    exact ⟨_, by rw [r1.bl], q _ H (EPost.same I (Rk.dat (.str _)))⟩
  · cases h
end
end VL

end
section
set_option Elab.async false
set_option linter.all false
set_option maxRecDepth 100000
/-! VL23: dicts of one's own, their keys ints: {}, d.setdefault(k, []).append(v), sorted(d), d[k]. -/
namespace VL
open PySem PySem.Spec PyProof.Rows L2
def posK : List Int → Int → Option Nat
  | [], _ => none
  | a :: ks, k => if a = k then some 0 else (posK ks k).map (· + 1)
abbrev kvz (ks : List Int) (vs : List V) : List (Key × V) := (ks.map Sum.inl).zip vs
theorem posK_lt : ∀ {ks : List Int} {k : Int} {p : Nat}, posK ks k = some p → p < ks.length
  | [], _, _, h => by cases h
  | a :: ks, k, p, h => by
    unfold posK at h
    split at h
    · cases h; simp
    · simp only [Option.map_eq_some_iff] at h
      obtain ⟨r, h, rfl⟩ := h
      have := posK_lt h
      simp
      omega
theorem valV_kvz : ∀ {ks : List Int} {vs : List V} {k : Int}, vs.length = ks.length → valV (kvz ks vs) (.inl k) = (posK ks k).bind (vs[·]?)
  | [], vs, k, h => by cases vs <;> rfl
  | a :: ks, [], k, h => by simp at h
  | a :: ks, v :: vs, k, h => by
    have ih := valV_kvz (ks := ks) (vs := vs) (k := k) (by simpa using h)
    unfold valV at ih ⊢
    show ((((Sum.inl a : Key), v) :: kvz ks vs).find? fun kv => decide (kv.1 = .inl k)).map (·.2) = _
    unfold posK
    by_cases e : a = k
    · subst e
      simp
    · rw [List.find?_cons_of_neg (by simpa using e), ih, if_neg e]
      cases posK ks k <;> simp
theorem posK_none : ∀ {ks : List Int} {vs : List V} {k : Int}, posK ks k = none → (kvz ks vs).any (fun kv => decide (kv.1 = .inl k)) = false
  | [], vs, k, _ => by cases vs <;> rfl
  | a :: ks, [], k, _ => rfl
  | a :: ks, v :: vs, k, h => by
    unfold posK at h
    split at h
    · cases h
    · rename_i e
      simp only [Option.map_eq_none_iff] at h
      show ((((Sum.inl a : Key), v) :: kvz ks vs).any fun kv => decide (kv.1 = .inl k)) = false
      rw [List.any_cons, posK_none h, Bool.or_false]
      exact decide_eq_false (by simpa using e)
theorem kvz_snoc {ks : List Int} {vs : List V} {k : Int} {v : V} (h : vs.length = ks.length) (hn : posK ks k = none) : putK (kvz ks vs) (.inl k) v = kvz (ks ++ [k]) (vs ++ [v]) := by
  unfold putK
  rw [posK_none hn]
  simp only [Bool.false_eq_true, if_false]
  unfold kvz
  rw [List.map_append, List.zip_append (by simp [h])]
  rfl
section
variable {X : Cx} {C : Ct} {W : WX} {kd ka kb : Kd} {a b : Expr} {pos : Pos} {fa fb : Rho → Mo SV} {ρ : Rho} {S : Sto} {A : List Addr} {G : List (List Addr)} {σ : L2.St} {H H0 : Hp}
def eDic0 : Rho → Mo SV := fun _ S => some (.ok (.dic [] []) S)
theorem EPost.dic0 {p : Addr} (I : Sim C ρ S A G σ H) (h : H p = none) : EPost C kd ρ A G σ H (.dic [] []) S (.ref p) (upd H p (.dK [])) := by
  refine EPost.be ⟨A, [p], Ext.upd h, ?_, ⟨.dic (ks := []) (vs := []) (g := []) upd_same rfl (by rw [sizeLine_eq]; exact Nat.zero_le _) .nil, by simp, fun a m => ?_⟩⟩
  · have J := Sim.newP (o := .dK []) I h
    exact (show Sim ((C.pr fun a => C.Pr a ∨ a = p).pr fun a => C.Pr a ∨ a ∈ [p]) ρ S A G σ _ from Sim.prc J fun a z => by
      rcases z with z | z
      · exact .inl z
      · exact .inr (by simpa using z))
  · obtain rfl : a = p := by simpa using m
    exact ⟨h, by rw [upd_same]; simp, fun z => I.trk _ (List.mem_append_left _ z) h⟩
theorem v_dic0 : PE X (.Dict [] [] pos) (tV C W kd eDic0) :=
  pe_imp pe_dnewK fun σ H Q ⟨P, ρ, S, A, G, hP, I, q⟩ => fun p hp => q _ _ (EPost.dic0 I hp)
/-! sorted(d) -/
def intSort (ks : List Int) : List Int := ks.mergeSort fun a b => decide (a ≤ b)
def gSortDic (_ : Sto) (xs : List SV) : Option SV := match xs with
  | [.dic ks _] => if ks.length < 64 then some (.own ((intSort ks).map fun k => .d (.int k))) else none
  | _ => none
theorem intSort_one {ks ys : List Int} (h : ys.Perm ks) (s : ys.Pairwise (· ≤ ·)) : ys = intSort ks := by
  have p : (intSort ks).Perm ks := List.mergeSort_perm ks _
  have q : (intSort ks).Pairwise (· ≤ ·) := by
    have := List.pairwise_mergeSort (le := fun a b : Int => decide (a ≤ b)) (fun a b c h1 h2 => by
      have h1 := of_decide_eq_true h1
      have h2 := of_decide_eq_true h2
      exact decide_eq_true (Int.le_trans h1 h2)) (fun a b => by
      rcases Int.le_total a b with z | z
      · simp [z]
      · simp [z]) ks
    exact this.imp fun h => of_decide_eq_true h
  exact List.Perm.eq_of_pairwise (fun a b _ _ h1 h2 => Int.le_antisymm h1 h2) s q (h.trans p.symm)
theorem dqL_ints {F : Addr → Prop} (ns : List Int) : DqL C.K H F (ns.map PyData.int) (ns.map V.int) := DqL.ofInts ns
abbrev rSortDic : List V → Hp → VK → Prop := fun xs H Q => ∃ (a : Addr) (kvs : List (Key × V)) (ks : List Int), xs = [.ref a] ∧ Rd H a (.dK kvs) ∧ kvs.map (·.1) = ks.map Sum.inl ∧ ks.length < 64 ∧
    ∀ (ys : List Int) (p : Addr), ys.Perm ks → ys.Pairwise (· ≤ ·) → H p = none → Q (.ref p) (upd H p (.lst (ys.map V.int)))
theorem ok_sortDic {K : PySem.W.Frag} : CalOk K ka kd gSortDic rSortDic := by
  intro C ρ S A G σ H0 H xs z vs gx Q hK I r h q
  subst hK
  unfold gSortDic at h
  split at h
  · rename_i ks xs
    split at h
    · rename_i hl
      cases h
      obtain ⟨v, rfl, r1⟩ := r.one
      obtain ⟨r1, hg⟩ := r1.asBe
      cases r1 with
      | dic e kl l r =>
        refine ⟨_, _, ks, rfl, .inl e, List.map_fst_zip (by simp [kl]), hl, fun ys p hp hs hn => ?_⟩
        obtain rfl := intSort_one hp hs
        have rd := RkL.dats (C := C) (kd := .be) (A := A) (G := G) (H := H) (dqL_ints (C := C) (H := H) (F := Fs C A G) (intSort ks))
        rw [List.map_map] at rd
        refine q _ _ (EPost.lst (H1 := H) I rd (List.all_eq_true.mpr fun x m => ?_) ?_ hn)
        · obtain ⟨d, _, rfl⟩ := List.mem_map.mp m
          rfl
        · have := hp.length_eq
          rw [List.length_map, sizeLine_eq]
          omega
    · cases h
  · cases h
/-! d[k] -/
def gIxDic (_ : Sto) (x y : SV) : Option SV := match x, y with
  | .dic ks xs, .d (.int k) => (posK ks k).bind (xs[·]?)
  | _, _ => none
theorem ok_ixDic {K : PySem.W.Frag} : OpOk K ka kb .be gIxDic (fun x y H Q => ∃ a v, x = .ref a ∧ DGet H a y (some v) ∧ Q v H) := by
  intro C ρ S A G σ H0 H1 H x y z v u gx gy Q hK I rx ry h q
  subst hK
  unfold gIxDic at h
  split at h
  · rename_i ks xs k
    simp only [Option.bind_eq_some_iff] at h
    obtain ⟨p, hp, hz⟩ := h
    obtain rfl := ry.int
    obtain ⟨r1, hg⟩ := rx.asBe
    cases r1 with
    | @dic a _ _ vs g e kl l r =>
      have rk : RkL C .be g A G H H xs vs := ⟨r, fun a m => hg a (List.mem_cons_of_mem _ m)⟩
      obtain ⟨w, gz, h1, rz⟩ := rk.get hz
      have e2 : valV (kvz ks vs) (.inl k) = some w := by
        rw [valV_kvz kl, hp]
        exact h1
      have dg := DGet.k (k := .inl k) e
      rw [e2] at dg
      exact ⟨_, w, rfl, dg, q _ H ⟨A, gz, Ext.refl, I, rz⟩⟩
  · cases h
theorem v_ixDic (hk : C.K = X.K) (hu : X.A.units + 1 < cLine) (ha : PE X a (tV C W ka fa)) (hb : PE X b (tV C W kb fb)) (hs : NoSl b) : PE X (.Subscript a b pos) (tV C W .be (eBin gIxDic fa fb)) := pe_imp (pe_dget hu ha hb hs) (tV_two (hk ▸ ok_ixDic (K := X.K)))
/-! d.setdefault(k, []).append(v), d, k, v slots -/
def sGrp (i j k : Nat) : Rho → Sto → Option Fl := fun ρ S => match ρ[i]?, ρ[j]?, ρ[k]? with
  | some (some (.dic ks xs)), some (some (.d (.int n))), some (some (.d v)) => if ks.length < sizeLine then (match posK ks n with
    | some p => (match xs[p]? with
      | some (.own ys) => if ys.length < sizeLine then some (.nx (ρ.set i (some (.dic ks (xs.set p (.own (ys ++ [.d v])))))) S) else none
      | _ => none)
    | none => some (.nx (ρ.set i (some (.dic (ks ++ [n]) (xs ++ [.own [.d v]])))) S)) else none
  | _, _, _ => none
/-- slot i's own are let go, something is put into the heap, and they come back -/
theorem Sim.backD {i : Nat} {x : SV} {v : V} {g g0 : List Addr} {H' : Hp} {P : Addr → Prop} (e1 : σ[i]? = some (some v)) (I : Sim (C.pr P) (ρ.set i none) S A (G.set i []) σ H') (hg : ∀ a ∈ g, P a) (hP : ∀ a, C.Pr a → P a)
    (r : Rs C.K C.mg H' A (fun a => Fs C A (G.set i []) a ∨ a ∈ g) x v g) (nd : g.Nodup) (h0 : ∀ a ∈ g, C.E0 a = none) (hp : ∀ a ∈ g, ¬ C.Pr a) : Sim C (ρ.set i (some x)) S A (G.set i g) σ H' := by
  have J : Sim (C.pr fun a => C.Pr a ∨ a ∈ g) (ρ.set i none) S A (G.set i []) σ H' := (show Sim ((C.pr P).pr fun a => C.Pr a ∨ a ∈ g) _ _ _ _ _ _ from Sim.prc I fun a z => z.elim (hP a) (hg a))
  have K := Sim.put (C := C) (i := i) J r nd h0 hp
  rw [List.set_set, List.set_set, set_same e1] at K
  exact K
theorem s_grp {i j k : Nat} {od on ov : Expr} {kl : Pos} {a1 c1 a2 c2 : Pos} (hd : PE X od (tVar i)) (hn : PE X on (tVar j)) (ha : PA X [ov] (tCons (tVar k) tNil)) (m : M2 X od "setdefault" a1 on (.List [] kl) c1)
    (hs : swapsWith (.Call (.Attribute (.Call (.Attribute od "setdefault" a1) [on, .List [] kl] [] c1) "append" a2) [ov] [] c2) none pos.line X.env = pure false := by rfl)
    (hbase : attributeBase (.Call (.Attribute od "setdefault" a1) [on, .List [] kl] [] c1) "append" X.env (eval (.Call (.Attribute od "setdefault" a1) [on, .List [] kl] [] c1) X.env) = eval (.Call (.Attribute od "setdefault" a1) [on, .List [] kl] [] c1) X.env := by rfl)
    (hfew : ((backTo c2 (starEach [ov] X.env)).all (fun x => !x.1) && (backToKw c2 (keywordEach [] X.env)).all (fun x => x.1.isSome)
      && decide (([ov] : List Expr).length + ([] : List Keyword).length + (if ([] : List Keyword).isEmpty then 0 else 1) < 30)) = true := by rfl)
    (hline : (a2.endLine == c2.line) = true := by rfl) (hst : starEach [ov] X.env = (false, eval ov X.env) :: starEach [] X.env := by rfl) (hplain : (backTo c2 (starEach [] X.env)).any (·.1) = false := by rfl) :
    PS X (.Expr (.Call (.Attribute (.Call (.Attribute od "setdefault" a1) [on, .List [] kl] [] c1) "append" a2) [ov] [] c2) pos) (tS C W (sGrp i j k)) := by
  refine ps_imp (ps_expr (pe_bm PySem.F.plainAttrs_list PySem.F.slot_list_append PySem.F.type_list_append mt_append (pe_dsetd hd hn (pe_lst pa_nil) m) ha hbase hfew hline hst hplain) hs) fun D σ H ⟨ρ, S, A, G, I, q⟩ => ?_
  unfold sGrp at q
  split at q
  case h_2 => exact q.elim
  rename_i ks xs n d hi hj hk
  split at q
  case isFalse => exact q.elim
  rename_i hks
  obtain ⟨v, g, e1, r, sb⟩ := I.slots i _ hi
  obtain ⟨v2, g2, e2, r2, _⟩ := I.slots j _ hj
  obtain ⟨v3, g3, e3, r3, _⟩ := I.slots k _ hk
  have dn := r2.nil_d.2
  obtain rfl : v2 = .int n := by cases dn; rfl
  have dd := r3.nil_d.2
  have gG : ∀ b ∈ g, b ∈ G.flatten := fun b m => getD_mem (sb.subset m)
  have nd : g.Nodup := by
    have n := (List.nodup_append.mp I.nd).2.1
    cases hG : G[i]? with
    | none => rw [hG] at sb; rw [List.sublist_nil.mp sb]; exact List.nodup_nil
    | some l => rw [hG] at sb; exact ((List.pairwise_flatten.mp n).1 l (List.mem_of_getElem? hG)).sublist sb
  have E0g : ∀ b ∈ g, C.E0 b = none := fun b m => by
    rcases I.fresh b (List.mem_append_right _ (gG b m)) with z | z
    · exact absurd rfl ((List.nodup_append.mp I.nd).2.2 b (I.pre.subset z) b (gG b m))
    · exact z
  have npg : ∀ b ∈ g, ¬ C.Pr b := fun b m z => (I.prot b z).1 (List.mem_append_right _ (gG b m))
  have trg : ∀ b ∈ g, H b ≠ none := fun b m => I.trk b (List.mem_append_right _ (gG b m))
  cases r with
  | @dic a0 _ _ vs g1 e kl' l r =>
  have a0g : a0 ∈ a0 :: g1 := List.mem_cons_self
  refine ⟨.ref a0, e1, a0, rfl, .inl ⟨_, .inl e⟩, .int n, e2, by rw [sizeLine_eq]; exact Nat.zero_le _, fun p0 hp0 => ?_⟩
  have ne0 : ∀ b ∈ a0 :: g1, b ≠ p0 := fun b m z => trg b m (by rw [z]; exact hp0)
  have J1 : Sim (C.pr fun b => (C.Pr b ∨ b ∈ G[i]?.getD []) ∨ b = p0) (ρ.set i none) S A (G.set i []) σ (upd H p0 (.lst [])) := Sim.newP (C := C.pr fun b => C.Pr b ∨ b ∈ G[i]?.getD []) (I.drop i) hp0
  have hF : ∀ b, Fs C A (G.set i []) b → Fs C A G b := fun b z => by
    rcases z with z | z | z
    · exact .inl z
    · exact .inr (.inl (flatten_set_nil.subset z))
    · exact .inr (.inr z)
  have e' : upd H p0 (.lst []) a0 = some (.dK (kvz ks vs)) := by rw [upd_ne (ne0 a0 a0g)]; exact e
  have hp0F : ¬ Fs C A G p0 := fun z => by
    rcases z with z | z | z
    · exact I.trk p0 (List.mem_append_left _ z) hp0
    · exact I.trk p0 (List.mem_append_right _ z) hp0
    · exact (I.prot p0 z).2 hp0
  have hlk : (kvz ks vs).length < sizeLine ∨ True := .inr trivial
  have kvl : (kvz ks vs).length = ks.length := by simp [kvz, kl']
  have ext : ∀ (g' : List Addr) (H' : Hp), (∀ b ∈ g', b ∈ a0 :: g1 ∨ b = p0) → (∀ b o, H b = some o → b ∉ a0 :: g1 → H' b = some o) → (∀ b, H b ≠ none → H' b ≠ none) → ExtS A G H A (G.set i g') H' := fun g' H' hg hk ht => by
    refine ⟨List.prefix_refl _, fun b m => ?_, fun b o q n => hk b o q fun z => n (List.mem_append_right _ (gG b z)), ht⟩
    rcases List.mem_append.mp m with m | m
    · exact .inl (List.mem_append_left _ m)
    · rcases flatten_set_sub m with z | z
      · exact .inl (List.mem_append_right _ z)
      · rcases hg b z with z | z
        · exact .inl (List.mem_append_right _ (gG b z))
        · exact .inr (by rw [z]; exact hp0)
  have putok : ∀ (g' : List Addr) (x : SV) (H' : Hp), (∀ b ∈ g', b ∈ a0 :: g1 ∨ b = p0) → g'.Nodup → Sim (C.pr fun b => (C.Pr b ∨ b ∈ G[i]?.getD []) ∨ b = p0) (ρ.set i none) S A (G.set i []) σ H' →
      Rs C.K C.mg H' A (fun a => Fs C A (G.set i []) a ∨ a ∈ g') x (.ref a0) g' → Sim C (ρ.set i (some x)) S A (G.set i g') σ H' := fun g' x H' hg hn J r' => by
    refine Sim.backD (g0 := []) e1 J (fun b m => ?_) (fun b z => .inl (.inl z)) r' hn (fun b m => ?_) (fun b m => ?_)
    · rcases hg b m with z | z
      · exact .inl (.inr (sb.subset z))
      · exact .inr z
    · rcases hg b m with z | z
      · exact E0g b z
      · exact z ▸ I.e0 p0 hp0
    · rcases hg b m with z | z
      · exact npg b z
      · exact fun w => hp0F (.inr (.inr (z ▸ w)))
  refine ⟨kvz ks vs, .inl n, e', rfl, ?_, fun w hw => ?_, fun hw => ?_⟩
  · rw [kvl]; exact hks
  · rw [valV_kvz kl'] at hw
    cases hp : posK ks n with
    | none => rw [hp] at hw; cases hw
    | some p =>
      rw [hp] at hw q
      simp only [Option.bind_some] at hw
      simp only at q
      split at q
      case h_2 => exact q.elim
      rename_i ys hy
      split at q
      case isFalse => exact q.elim
      rename_i hlt
      obtain ⟨w', gl, gz, gr, h1, h2, h3, h4⟩ := RsL.at' r hy
      rw [h1] at hw
      cases hw
      cases h2 with
      | @own b _ us gy eb lb rb =>
      subst h3
      have bg : b ∈ a0 :: (gl ++ (b :: gy ++ gr)) := List.mem_cons_of_mem _ (List.mem_append_right _ (List.mem_append_left _ List.mem_cons_self))
      have hb0 : b ≠ p0 := ne0 b bg
      have eb' : upd H p0 (.lst []) b = some (.lst us) := by rw [upd_ne hb0]; exact eb
      have hlen : us.length = ys.length := rb.length
      refine ⟨.inl ⟨rfl, us, .inl (.inl eb')⟩, v3, e3, b, us, v3, rfl, rfl, eb', by omega, ?_⟩
      refine q A (G.set i (a0 :: (gl ++ (b :: gy ++ gr)))) σ _ (ext _ _ (fun c m => .inl m) (fun c o h n => ?_) fun c h => ?_) (putok _ _ _ (fun c m => .inl m) nd ?_ ?_)
      · rw [upd_ne (show c ≠ b from fun z => n (by rw [z]; exact bg)), upd_ne (show c ≠ p0 from fun z => by rw [z, hp0] at h; cases h)]
        exact h
      · by_cases z : c = b
        · rw [z, upd_same]; simp
        · rw [upd_ne z, upd_ne (show c ≠ p0 from fun z => h (by rw [z]; exact hp0))]
          exact h
      · exact Sim.updP (C := C) J1 (.inl (.inr (sb.subset bg))) (E0g b bg)
      · have nd1 := (List.nodup_cons.mp nd).2
        have n1 := List.nodup_append.mp nd1
        have n2 := List.nodup_append.mp n1.2.1
        have bF : Fs C A G b := .inr (.inl (gG b bg))
        have hF2 : ∀ c, (Fs C A (G.set i []) c ∨ c ∈ a0 :: (gl ++ (b :: gy ++ gr))) → Fs C A G c ∨ H c = none := fun c z => by
          rcases z with z | z
          · exact .inl (hF c z)
          · exact .inl (.inr (.inl (gG c z)))
        have hH2 : ∀ c o, H c = some o → c ≠ b → upd (upd H p0 (.lst [])) b (.lst (us ++ [v3])) c = some o := fun c o h n => by
          rw [upd_ne n, upd_ne (show c ≠ p0 from fun z => by rw [z, hp0] at h; cases h)]
          exact h
        have hH3 : ∀ c o, H c = some o → ¬ Fs C A G c → upd (upd H p0 (.lst [])) b (.lst (us ++ [v3])) c = some o := fun c o h n => hH2 c o h fun z => n (z ▸ bF)
        have a0b : a0 ≠ b := fun z => (List.nodup_cons.mp nd).1 (by rw [z]; exact List.mem_append_right _ (List.mem_append_left _ List.mem_cons_self))
        have ry : RsL C.K C.mg (upd (upd H p0 (.lst [])) b (.lst (us ++ [v3]))) A (fun c => Fs C A (G.set i []) c ∨ c ∈ a0 :: (gl ++ (b :: gy ++ gr))) (ys ++ [.d d]) (us ++ [v3]) gy := by
          have := RsL.app (RsL.mono (fun _ _ q => q) hF2 hH3 _ _ _ (fun c m o h => hH2 c o h fun z => (List.nodup_cons.mp n2.1).1 (z ▸ m)) rb) (RsL.cons (.d (Dq.mono hF2 hH3 _ _ dd)) RsL.nil)
          simpa using this
        refine .dic (hH2 _ _ e a0b) kl' l (h4 _ _ hF2 hH3 (fun c m o h => hH2 c o h fun z => ?_) _ (b :: gy) (.own upd_same (by rw [List.length_append, List.length_singleton]; omega) ry))
        subst z
        rcases List.mem_append.mp m with m | m
        · exact n1.2.2 c m c (List.mem_append_left _ List.mem_cons_self) rfl
        · exact n2.2.2 c List.mem_cons_self c m rfl
  · have hp : posK ks n = none := by
      rw [valV_kvz kl'] at hw
      cases hp : posK ks n with
      | none => rfl
      | some p =>
        rw [hp] at hw
        have := posK_lt hp
        rw [← kl'] at this
        simp [this] at hw
    rw [hp] at q
    simp only at q
    have a0p : a0 ≠ p0 := ne0 a0 a0g
    have hF2 : ∀ c, (Fs C A (G.set i []) c ∨ c ∈ a0 :: (g1 ++ [p0])) → Fs C A G c ∨ H c = none := fun c z => by
      rcases z with z | z
      · exact .inl (hF c z)
      · rcases List.mem_cons.mp z with z | z
        · exact .inl (.inr (.inl (gG c (by rw [z]; exact a0g))))
        · rcases List.mem_append.mp z with z | z
          · exact .inl (.inr (.inl (gG c (List.mem_cons_of_mem _ z))))
          · obtain rfl : c = p0 := by simpa using z
            exact .inr hp0
    have aF : Fs C A G a0 := .inr (.inl (gG a0 a0g))
    have hH2 : ∀ c o, H c = some o → c ≠ a0 → upd (upd (upd H p0 (.lst [])) a0 (.dK (putK (kvz ks vs) (.inl n) (.ref p0)))) p0 (.lst ([] ++ [v3])) c = some o := fun c o h n => by
      have np : c ≠ p0 := fun z => by rw [z, hp0] at h; cases h
      rw [upd_ne np, upd_ne n, upd_ne np]
      exact h
    have hH3 : ∀ c o, H c = some o → ¬ Fs C A G c → upd (upd (upd H p0 (.lst [])) a0 (.dK (putK (kvz ks vs) (.inl n) (.ref p0)))) p0 (.lst ([] ++ [v3])) c = some o := fun c o h n => hH2 c o h fun z => n (z ▸ aF)
    have mg : ∀ c ∈ a0 :: (g1 ++ [p0]), c ∈ a0 :: g1 ∨ c = p0 := fun c m => by
      rcases List.mem_cons.mp m with z | z
      · exact .inl (by rw [z]; exact a0g)
      · rcases List.mem_append.mp z with z | z
        · exact .inl (List.mem_cons_of_mem _ z)
        · exact .inr (by simpa using z)
    refine ⟨.inl ⟨rfl, [], .inl (.inl (by rw [upd_ne (Ne.symm a0p), upd_same]))⟩, v3, e3, p0, [], v3, rfl, rfl, by rw [upd_ne (Ne.symm a0p), upd_same], by rw [sizeLine_eq]; decide, ?_⟩
    refine q A (G.set i (a0 :: (g1 ++ [p0]))) σ _ (ext _ _ mg (fun c o h n => hH2 c o h fun z => n (by rw [z]; exact a0g)) fun c h => ?_) (putok _ _ _ mg ?_ ?_ ?_)
    · by_cases z : c = a0
      · rw [z, upd_ne a0p, upd_same]; simp
      · have np : c ≠ p0 := fun z => h (by rw [z]; exact hp0)
        rw [upd_ne np, upd_ne z, upd_ne np]
        exact h
    · refine List.nodup_cons.mpr ⟨fun m => ?_, List.nodup_append.mpr ⟨(List.nodup_cons.mp nd).2, by simp, fun c m c' m' z => ?_⟩⟩
      · rcases List.mem_append.mp m with m | m
        · exact (List.nodup_cons.mp nd).1 m
        · exact a0p (by simpa using m)
      · obtain rfl : c' = p0 := by simpa using m'
        exact ne0 c (List.mem_cons_of_mem _ m) z
    · exact Sim.updP (C := C) (Sim.updP (C := C) J1 (.inl (.inr (sb.subset a0g))) (E0g a0 a0g)) (.inr rfl) (I.e0 p0 hp0)
    · have r1 := RsL.mono (K := C.K) (mg := C.mg) (A := A) (A' := A) (fun _ _ q => q) hF2 hH3 _ _ _ (fun c m o h => hH2 c o h fun z => (List.nodup_cons.mp nd).1 (z ▸ m)) r
      have r2 : RsL C.K C.mg (upd (upd (upd H p0 (.lst [])) a0 (.dK (putK (kvz ks vs) (.inl n) (.ref p0)))) p0 (.lst ([] ++ [v3]))) A (fun c => Fs C A (G.set i []) c ∨ c ∈ a0 :: (g1 ++ [p0])) [.d d] [v3] [] := RsL.cons (g := []) (g' := []) (.d (Dq.mono hF2 hH3 _ _ dd)) RsL.nil
      have r3 := RsL.app r1 (RsL.cons (.own upd_same (by rw [sizeLine_eq]; show 1 ≤ 16777216; decide) r2) RsL.nil)
      refine .dic (vs := vs ++ [.ref p0]) ?_ (by simp [kl']) (by rw [List.length_append, List.length_singleton]; omega) (by simpa using r3)
      rw [upd_ne a0p, upd_same, kvz_snoc kl' hp]
end
end VL

end
section
set_option Elab.async false
set_option linter.all false
set_option maxRecDepth 100000
/-! VL24: defs that call themselves, enumerate in a loop, unpacking a list, tests. -/
namespace VL
open PySem PySem.Spec PyProof.Rows L2
theorem boot_sorted' : bootBuiltins "sorted" = some (.builtin "sorted") := by decide +kernel
theorem boot_repr' : bootBuiltins "repr" = some (.builtin "repr") := by decide +kernel
theorem u66 {k : Nat} {A : Around} (r : Room k A) : A.units + 66 < cLine := by have := r.un; omega
section
variable {X : Cx} {C : Ct} {W : WX} {kd ka kb : Kd} {tg e a b c : Expr} {es : List Expr} {pos : Pos} {f fa fb : Rho → Mo SV} {fs : Rho → Mo (List SV)}
theorem t_leD (hk : C.K = X.K) (hu : X.A.units + 64 < cLine) (ha : PE X a (tV C W ka fa)) (hb : PE X b (tV C W kb fb)) : PT X (.Compare a [.LtE] [b] pos) (tTs C W (bB (eBin (cB gLeD) fa fb))) := t_cmp (op_le.or (op_leD hu)) (hk ▸ c_leD) ha hb (nomark _)
theorem Rk.walkF {P : Addr → Prop} {ρ : Rho} {S : Sto} {g A : List Addr} {G : List (List Addr)} {σ : L2.St} {H0 H : Hp} {x : SV} {ds : List PyData} {v : V} (I : Sim (C.pr P) ρ S A G σ H) (r : Rk (C.pr P) ka g A G H0 H x v) (h : plainL x = some ds) (hg : ∀ a ∈ g, a ∉ G.flatten) :
    ∃ a, v = .ref a ∧ (∃ ys, SqL C.K H a ys) ∧ Wk (C.pr P) true A G (Itl C.K a) (ds.map SV.d) H := by
  obtain ⟨r1, h1⟩ := r.asBe
  cases r1 with
  | d r1 =>
    cases r1 with
    | lst e n l q => cases h; exact ⟨_, rfl, ⟨_, .of e⟩, wk_lst (RsL.ofD q) fun A2 G2 H2 e2 hk => .of (fs_kept e2 _ _ e n)⟩
    | _ => cases h
  | own e l q =>
    obtain ⟨q', rfl⟩ := RsL.toD q h
    exact ⟨_, rfl, ⟨_, .of e⟩, wk_lst (RsL.ofD q') fun A2 G2 H2 e2 hk => .of (e2.keep _ _ e fun m => (List.mem_append.mp m).elim (fun m => (h1 _ List.mem_cons_self).1 m) (fun m => hg _ List.mem_cons_self m))⟩
  | _ => cases h
theorem i_enumF (hk : C.K = X.K) {p tpos : Pos} {elts : List Expr} {kk : Nat} (hg : Gl X "enumerate") (hm : X.mg "enumerate" = none) (ha : PA X [a] (tVs C W .fe fs)) (hs : starEach [a] X.env = [(false, eval a X.env)] := by rfl) :
    PI X (.Tuple elts kk tpos) (.Call (.Name "enumerate" p) [a] [] pos) (tI C W true (iEnum1 fs)) := by
  refine pi_imp (pi_enum hg hm ha hs) fun σ H R ⟨P, ρ, S, A, G, hP, I, q⟩ => ⟨P, ρ, S, A, G, hP, I, EGood.step q (fun _ _ _ _ _ _ z => z) fun xs S1 q vs H1 p => ?_⟩
  obtain ⟨A1, g1, e1, J1, k1⟩ := p
  split at q
  · rename_i x
    cases ex : plainL x with
    | none => rw [ex] at q; exact q.elim
    | some ds =>
      rw [ex] at q
      obtain ⟨v, rfl, r1⟩ := k1.one
      obtain ⟨a1, rfl, ⟨y1, s1⟩, w1⟩ := r1.walkF J1.pgw ex (fun a m z => (J1.prot a (.inr m)).1 (List.mem_append_right _ z))
      refine ⟨a1, y1, rfl, hk ▸ s1, ?_⟩
      rw [← hk]
      exact q _ _ ⟨A1, e1, J1.pgw, wk_enum w1 (allD_map ds)⟩
  · exact q.elim
end
/-! unpacking a list -/
def gTl (n : Nat) (u : List SV → Rho → Option Rho) : TgF := fun x ρ => match x with
  | .d (.list ds) => if ds.length = n then u (ds.map .d) ρ else none
  | _ => none
theorem g_tl {C : Ct} {n : Nat} {u : List SV → Rho → Option Rho} {is : List Nat} {ug : TGs} (h : GsOk C u is ug) : GOk C (gTl n u) is (gLst C.K n ug) := by
  intro P ρ ρ' S A G σ H x v Q I r e q
  unfold gTl at e
  split at e
  · rename_i ds
    split at e
    · rename_i hl
      obtain ⟨_, d⟩ := r.nil_d
      cases d with
      | lst e' _ _ hd => exact ⟨_, _, rfl, .of e', hd.length.trans hl, h P ρ ρ' S A G σ H _ _ _ I (RsL.ofD hd) e q⟩
    · cases e
  · cases e
/-! a def that calls itself -/
section
variable {P : Program} {w : World} {K : PySem.W.Frag} {mg : Str → Option Value} {base : Heap} {x qual : Str} {params : Arguments} {body : List Stmt} {scope : Scope} {f : Addr} {fd : FuncData} {N ps : List Str} {k : Nat}
theorem pss_none {X : Cx} {C : Ct} {W : WX} {body : List Stmt} : PSs X body (tS C W fun _ _ => none) := ⟨fun pins s σ H D I h => by
  obtain ⟨ρ, S, A, G, J, q⟩ := h
  exact q.elim⟩
theorem mk_def0 (F : FunD K x qual params body scope [] [] f fd) (hm : mg x = some (.ref f)) (Sc : FnScope N ps scope) (hl : ps.length ≤ N.length)
    (hbind : ∀ (kV doc pm : Value) (an : Option Addr) (cdv ct : Value) (us : List Value), us.length = ps.length → bindArgs (PySem.W.fnOf x qual params body scope .none kV doc pm an cdv ct) ⟨us, []⟩ = pure (ps.zip us)) : DefOk P w K mg base (k + 1) x ps.length (runF N.length fun _ _ => none) :=
  mk_def (k := k) (fb := fun _ _ => none) F hm Sc hl hbind fun _ _ _ _ _ _ _ _ _ _ => pss_none
end
/-! a slot's list becomes a shared one -/
section
variable {C : Ct} {ρ : Rho} {S : Sto} {A : List Addr} {G : List (List Addr)} {σ : L2.St} {H : Hp}
theorem Sim.share {i : Nat} {zs ys : List SV} (I : Sim C ρ S A G σ H) (hi : ρ[i]? = some (some (.own zs))) (hf : frzs zs = some ys) :
    ∃ a, Sim C (ρ.set i (some (.ref S.length))) (S ++ [ys]) (A ++ [a]) (G.set i []) σ H ∧ ExtS A G H (A ++ [a]) (G.set i []) H := by
  obtain ⟨v, g, e1, r, sb⟩ := I.slots i _ hi
  cases r with
  | @own a _ us g e l r =>
  have J := I.drop i
  have aG : a ∈ G[i]?.getD [] := sb.subset List.mem_cons_self
  have aF : a ∈ G.flatten := getD_mem aG
  have hp := J.prot a (.inr aG)
  have ndg : (a :: g).Nodup := by
    have n := (List.nodup_append.mp I.nd).2.1
    cases hG : G[i]? with
    | none => rw [hG] at sb; cases List.sublist_nil.mp sb
    | some l => rw [hG] at sb; exact ((List.pairwise_flatten.mp n).1 l (List.mem_of_getElem? hG)).sublist sb
  have hF : ∀ b, Fs C (A ++ [a]) (G.set i []) b → Fs (C.pr fun b => C.Pr b ∨ b ∈ G[i]?.getD []) A (G.set i []) b ∨ H b = none := fun b z => by
    rcases z with z | z | z
    · rcases List.mem_append.mp z with z | z
      · exact .inl (.inl z)
      · obtain rfl : b = a := by simpa using z
        exact .inl (.inr (.inr (.inr aG)))
    · exact .inl (.inr (.inl z))
    · exact .inl (.inr (.inr (.inl z)))
  have hA : ∀ (n : Nat) b, A[n]? = some b → (A ++ [a])[n]? = some b := fun n b h => by
    rw [List.getElem?_append_left (List.getElem?_eq_some_iff.mp h).1]
    exact h
  refine ⟨a, ⟨I.pre.trans (List.prefix_append _ _), by simp [I.lr], by simp [I.lg], by simp [I.ls], ?_, fun b m => ?_, fun b q => ⟨fun m => ?_, (I.prot b q).2⟩, fun j x hj => ?_, fun n xs hn => ?_, I.frame, fun b m => ?_, I.a0⟩, ⟨List.prefix_append _ _, fun b m => .inl ?_, fun b o h n => h, fun b h => h⟩⟩
  · have : ((A ++ [a]) ++ (G.set i []).flatten).Perm (a :: (A ++ (G.set i []).flatten)) := by
      rw [List.append_assoc]
      exact List.perm_middle
    exact this.nodup_iff.mpr (List.nodup_cons.mpr ⟨hp.1, J.nd⟩)
  · rcases List.mem_append.mp m with m | m
    · rcases List.mem_append.mp m with m | m
      · exact J.trk b (List.mem_append_left _ m)
      · obtain rfl : b = a := by simpa using m
        exact hp.2
    · exact J.trk b (List.mem_append_right _ m)
  · rcases List.mem_append.mp m with m | m
    · rcases List.mem_append.mp m with m | m
      · exact (I.prot b q).1 (List.mem_append_left _ m)
      · obtain rfl : b = a := by simpa using m
        exact (I.prot b q).1 (List.mem_append_right _ aF)
    · exact (I.prot b q).1 (List.mem_append_right _ (flatten_set_nil.subset m))
  · by_cases hji : j = i
    · subst hji
      have hlt : j < ρ.length := (List.getElem?_eq_some_iff.mp hi).1
      rw [List.getElem?_set_self hlt] at hj
      cases hj
      refine ⟨.ref a, [], e1, .ref ?_, List.nil_sublist _⟩
      rw [I.ls, List.getElem?_append_right (Nat.le_refl _)]
      simp
    · rw [List.getElem?_set_ne (Ne.symm hji)] at hj
      obtain ⟨v', g', h1, h2, h3⟩ := J.slots j x (by rw [List.getElem?_set_ne (Ne.symm hji)]; exact hj)
      exact ⟨v', g', h1, Rs.mono hA hF (fun b o q n => q) _ _ _ (fun b m o q => q) h2, h3⟩
  · by_cases hl : n < S.length
    · rw [List.getElem?_append_left hl] at hn
      obtain ⟨b, vs, q1, q2, q3, q4⟩ := J.sto n xs hn
      exact ⟨b, vs, hA _ _ q1, q2, q3, RsL.mono hA hF (fun b o q n => q) _ _ _ (fun b m o q => q) q4⟩
    · rw [List.getElem?_append_right (by omega)] at hn
      have hz : n - S.length = 0 := by
        have := (List.getElem?_eq_some_iff.mp hn).1
        simp at this
        omega
      rw [hz] at hn
      cases hn
      refine ⟨a, us, ?_, e, l, RsL.frzF (F := Fs C (A ++ [a]) (G.set i [])) (F1 := fun b => Fs C A G b ∨ b ∈ A ++ [a]) hA (fun b z => ?_) (RsL.mono (fun _ _ q => q) (fun b z => ?_) (fun b o q n => q) _ _ _ (fun b m o q => q) r) (fun b m z => ?_) hf⟩
      · rw [show n = A.length by rw [← I.ls]; omega, List.getElem?_append_right (Nat.le_refl _)]
        simp
      · rcases z with z | z | z
        · exact .inr z
        · exact .inl (.inr (.inl (flatten_set_nil.subset z)))
        · exact .inl (.inr (.inr z))
      · rcases z with z | z
        · exact .inl z
        · rcases List.mem_append.mp z with z | z
          · exact .inl (.inl z)
          · obtain rfl : b = a := by simpa using z
            exact .inl (.inr (.inl aF))
      · have bG : b ∈ G[i]?.getD [] := sb.subset (List.mem_cons_of_mem _ m)
        have hb := J.prot b (.inr bG)
        rcases z with z | z | z
        · rcases List.mem_append.mp z with z | z
          · exact hb.1 (List.mem_append_left _ z)
          · obtain rfl : b = a := by simpa using z
            exact (List.nodup_cons.mp ndg).1 m
        · exact hb.1 (List.mem_append_right _ z)
        · exact (I.prot b z).1 (List.mem_append_right _ (getD_mem bG))
  · rcases List.mem_append.mp m with m | m
    · rcases List.mem_append.mp m with m | m
      · exact I.fresh b (List.mem_append_left _ m)
      · obtain rfl : b = a := by simpa using m
        exact I.fresh b (List.mem_append_right _ aF)
    · exact I.fresh b (List.mem_append_right _ (flatten_set_nil.subset m))
  · rcases List.mem_append.mp m with m | m
    · rcases List.mem_append.mp m with m | m
      · exact List.mem_append_left _ m
      · obtain rfl : b = a := by simpa using m
        exact List.mem_append_right _ aF
    · exact List.mem_append_right _ (flatten_set_nil.subset m)
theorem t_ghA {W : WX} {s : Rho → Sto → Option Fl} {i : Nat} (D : Ends) (σ : L2.St) (H : Hp) (h : tS C W (ghA i s) D σ H) : tS C W s D σ H := by
  obtain ⟨ρ, S, A, G, I, q⟩ := h
  unfold ghA at q
  split at q
  · rename_i zs hz
    cases hf : frzs zs with
    | none => rw [hf] at q; exact q.elim
    | some ys =>
      rw [hf] at q
      obtain ⟨a, J, e⟩ := I.share hz hf
      exact ⟨_, _, _, _, J, q.ext e⟩
  · exact q.elim
theorem ss_ghA {X : Cx} {W : WX} {sts : List Stmt} {s : Rho → Sto → Option Fl} {i : Nat} (h : PSs X sts (tS C W s)) : PSs X sts (tS C W (ghA i s)) := pss_imp h t_ghA
end
end VL

end
section
set_option Elab.async false
set_option linter.all false
set_option maxRecDepth 100000
/-! VL25: sorted of a tuple, len of a dict, list.index of data. -/
namespace VL
open PySem PySem.Spec PyProof.Rows L2
/-! ### sorted of a tuple -/
section
open PySem.W
variable {prog : Program} {w : World} {A : Around} {E : Value → Shared → Prop} {s : Shared}
/-- collect of a tuple, the heap told -/
theorem collect_at {Q : List Value → Shared → Prop} {it : Addr} {T : String} {o : Obj} {items : Array Value} {n : Nat} (hT : T = "list" ∨ T = "tuple") (ho : s.heap.get? it = some o) (hc : o.cls = .type T) (hd : o.data = .seq items n)
    (hQ : Q items.toList { s with heap := (s.heap.push (seqObj "list" #[] 0)).update s.heap.objs.size (Obj.mapSeq (· ++ items)) }) (hsz : items.size ≤ sizeLine) : wpAny (model prog w) A (collect (.ref it)) Q E s := by
  have hS : (s.heap.push (seqObj "list" #[] 0)).get? s.heap.objs.size = some (seqObj "list" #[] 0) := Heap.get?_push_size _ rfl
  have hS2 := Heap.get?_update_self (Obj.mapSeq (· ++ items)) hS rfl
  unfold collect
  refine wpAny_bind (wpAny_runValue (codeAny_builtin F.entry_proto_collect ?_))
  rw [Around.under_plainId F.plain_proto_collect _]
  show wpAny _ A.in1 (newList [] >>= fun l => again (.builtin "list.__iadd__" ⟨[l, .ref it], []⟩)) _ _ s
  refine wpAny_bind (wpAny_newObj_type (wpAny_pure ⟨plainId_quiet F.plain_list_iadd _, codeAny_builtin F.entry_list_iadd ?_⟩))
  rw [Around.under_plainId F.plain_list_iadd _]
  show wpAny _ A.in1 (Builtin.List.listExtendWith (.ref s.heap.objs.size) (.ref it) (.ref s.heap.objs.size)) _ _ { s with heap := s.heap.push (seqObj "list" #[] 0) }
  have out : wpAny (model prog w) A (do
      let o ← load s.heap.objs.size
      match o.data with
      | .seq xs _ => pure xs.toList
      | _ => unsupported "internal:collect") Q E { s with heap := (s.heap.push (seqObj "list" #[] 0)).update s.heap.objs.size (Obj.mapSeq (· ++ items)) } := by
    refine wpAny_bind (wpAny_load hS2 (wpAny_pure ?_))
    show Q ((#[] : Array Value) ++ items).toList _
    rw [show ((#[] : Array Value) ++ items).toList = items.toList by simp]
    exact hQ
  refine wpAny_mono (wpAny_extend_seq (hsz := hsz) (A := A) (R := fun r s' => r = .ok (.ret (.ref s.heap.objs.size)) ∧ s' = { s with heap := (s.heap.push (seqObj "list" #[] 0)).update s.heap.objs.size (Obj.mapSeq (· ++ items)) })
    (s := { s with heap := s.heap.push (seqObj "list" #[] 0) }) _ it _ 0 hT hS (Heap.get?_push_of_some _ ho) hc hd ⟨rfl, rfl⟩) (fun fin s' h => ?_) fun e s' h => absurd h.1 (by simp)
  cases fin with
  | done f =>
    obtain ⟨e, rfl⟩ := h
    cases e
    exact out
  | again c' => exact ⟨h.1, codeAny_mono h.2 fun r s2 hr => by obtain ⟨rfl, rfl⟩ := hr; exact out⟩
theorem sorted_tup {T : String} {l : Addr} {o : Obj} {n : Nat} {vs : List Value} {ds : List PyData} {Q : Value → Shared → Prop} (hT : T = "list" ∨ T = "tuple") (ho : s.heap.get? l = some o) (hc : o.cls = .type T) (hd : o.data = .seq vs.toArray n) {R : Value → PyData → Prop}
    (e : EachIs R vs ds) (er : EachIs (fun v b => ∃ as, Reads s.heap v b as) vs ds) (hal : AllAlike ds) (hk : Sortable ds) (hL : ds.length ≤ sizeLine) (hu : ∀ b, b ∈ ds → A.units + 2 + b.depth < cLine)
    (h : ∀ out, out.length = ds.length → EachIs R out (ds.mergeSort (dataLe false id)) → Q (.ref (s.heap.objs.size + 1)) { s with heap := sortedAll s.heap vs (List.toArray out) }) :
    wpAny (model prog w) A (call (.builtin "sorted") [.ref l]) Q E s := by
  have hlen : vs.length = ds.length := e.length
  have hLv : vs.length ≤ sizeLine := by rw [hlen]; exact hL
  refine call_function_entry_kw kind_sorted plain_sorted entry_sorted (args_sorted1 _) ?_
  unfold Builtin.«sorted»
  refine wpAny_bind (m := checkCount "sorted" 1 1 _) (wpAny_pure ?_)
  refine wpAny_bind (collect_at hT ho hc hd ?_ (by simpa using hLv))
  rw [show vs.toArray.toList = vs by simp]
  refine wpAny_bind (wpAny_newList ?_ hLv)
  have hsz : ((s.heap.push (seqObj "list" #[] 0)).update s.heap.objs.size (Obj.mapSeq (· ++ vs.toArray))).objs.size = s.heap.objs.size + 1 := by
    rw [Heap.size_update, size_push']
  show wpAny _ _ _ _ _ { s with heap := copyHeap s.heap vs }
  rw [hsz]
  have er' : EachIs (fun v b => ∃ as, Reads (sortingHeap (copyHeap s.heap vs) (s.heap.objs.size + 1) vs) v (id b) as) vs ds := er.mono fun _ _ ⟨as, r⟩ => ⟨as, PyProof.Rows.Reads.keeps (fun _ _ => sorting_copy_old) r⟩
  refine wpAny_bind (wpAny_holding (wpAny_call_entry_kw slot_list_sort ⟨_, copyHeap_at s.heap vs, rfl⟩ entry_list_sort ?body (args_list_sort _)))
  case body =>
    have S := SortsAt.data (prog := prog) (w := w) (A := A.in1.in1) (s := { s with heap := sortingHeap (copyHeap s.heap vs) (s.heap.objs.size + 1) vs }) er' hal hk hu
    refine wpAny_mono (list_sort_vals (P := fun f s' => f = .done (.ret .none) ∧ Q (.ref (s.heap.objs.size + 1)) s') (s := { s with heap := copyHeap s.heap vs }) (copyHeap_at s.heap vs) S hLv ⟨rfl, ?_⟩) (fun f s' hf => ?_) fun _ _ e => e
    · refine h (sortVals (dataKind (sortingHeap (copyHeap s.heap vs) (s.heap.objs.size + 1) vs) ds) false vs vs) (by rw [sortVals_length false rfl]; exact hlen) ?_
      have := sortVals_data (R := R) (enc := id) false e er' (by rw [List.map_id]; exact hal)
      rw [List.map_id] at this
      exact this
    · obtain ⟨rfl, hq⟩ := hf
      exact ⟨_, rfl, wpAny_pure ⟨_, rfl, hq⟩⟩
end
def rSortDT (K : PySem.W.Frag) : List V → Hp → VK → Prop := fun vs H Q => ∃ (a : Addr) (xs : List V) (ds : List PyData) (R : V → PyData → Prop), vs = [V.ref a] ∧ SqT K H a xs ∧ DpAll K H xs ds ∧ PySem.W.EachIs R xs ds ∧ sortOk ds = true ∧
  ∀ ys p, PySem.W.EachIs R ys (sortD ds) → H p = none → Q (.ref p) (upd H p (.lst ys))
section
variable {X : Cx} {C : Ct} {W : WX} {kd ka kb : Kd} {e a b c o : Expr} {es : List Expr} {pos : Pos} {f fa fb fo : Rho → Mo SV} {fs : Rho → Mo (List SV)}
theorem cr_sortDT (hu : X.A.units + 66 < cLine) : CallR X (.builtin "sorted") (rSortDT X.K) := by
  intro pins s σ H vs us Q I r h
  obtain ⟨a, xs, ds, R, rfl, hs, hd, he, ok, q⟩ := h
  unfold sortOk at ok
  simp only [Bool.and_eq_true] at ok
  obtain ⟨⟨⟨al, sh⟩, so⟩, le⟩ := ok
  have le := of_decide_eq_true le
  obtain ⟨its, rv, ⟨o, ho, hc, n, hdt⟩, hz⟩ := I.tuple hs
  rw [Vals.ref1 r]
  obtain ⟨as, ra⟩ := Dp.readsAll I ds xs its hd rv
  have er := PySem.W.readsAll_each (h := s.heap) id (vs := its) (bs := ds) (as := as) (by rw [List.map_id]; exact ra)
  refine sorted_tup (.inr rfl) ho hc hdt (each_vals rv he) er (fun d hd' e he' => List.all_eq_true.mp (List.all_eq_true.mp al d hd') e he') (sortable_of so) le (fun d m => by
    have h1 := List.all_eq_true.mp sh d m
    have h2 : (d.canLay0 && decide (d.depth ≤ 64)) = true := h1
    rw [Bool.and_eq_true] at h2
    have := of_decide_eq_true h2.2
    show X.A.units + 2 + d.depth < cLine
    omega) fun out hlen eo => ?_
  obtain ⟨ys, ry, ey⟩ := vals_each eo
  obtain ⟨ep, he'⟩ := PyProof.Rows.sortedAll_at s.heap its out.toArray
  have hlen2 : ys.length ≤ sizeLine := by rw [ry.length, hlen]; exact le
  exact ⟨.ref _, upd H (s.heap.objs.size + 1) (.lst ys), I.laid (t' := s.toks) (fun _ _ => PyProof.Rows.sortedAll_old) (Nat.le_succ _) ⟨hlen2, out, ep, ry, he'⟩, rfl, q ys _ ey (I.hok.fresh (Nat.le_succ _))⟩
def gSortedT (S : Sto) (xs : List SV) : Option SV :=
  match xs with
  | [.d (.tuple ds)] => if sortOk ds then some (.own ((sortD ds).map SV.d)) else none
  | _ => none
theorem ok_sortedT {K : PySem.W.Frag} : CalOk K ka kd gSortedT (rSortDT K) := by
  intro C ρ S A G σ H0 H xs z vs gx Q hK I r h q
  subst hK
  unfold gSortedT at h
  split at h
  · rename_i ds
    split at h
    · rename_i hn
      cases h
      obtain ⟨v, rfl, r1⟩ := r.one
      have hl : ds.length ≤ sizeLine := by
        unfold sortOk at hn
        simp only [Bool.and_eq_true] at hn
        exact of_decide_eq_true hn.2
      have fin : ∀ {a : Addr} {vs : List V}, SqT C.K H a vs → DqL C.K H (Fs C A G) ds vs → rSortDT C.K [V.ref a] H Q := fun {a vs} hs rd =>
        ⟨a, vs, ds, _, rfl, hs, DqL.dp _ _ rd, dqL_each rd, hn, fun ys p ey hp => q _ _ (EPost.lst (H1 := H) I (RkL.dats (H := H) (each_dqL ey)) (noOwn_ds _) (by
          have e1 := (each_dqL ey).length
          rw [e1, sortD_length]
          exact hl) hp)⟩
      have d := r1.undat
      cases d with
      | tup e n l rd => exact fin (.inl (.inl e)) rd
      | ctup e l rd => exact fin (SqT.const e H) rd
    · cases h
  · cases h
/-! ### len of a dict -/
def gLenD (S : Sto) (xs : List SV) : Option SV :=
  match xs with
  | [.dic ks _] => some (.d (.int ks.length))
  | _ => none
theorem ok_lenD {K : PySem.W.Frag} : CalOk K ka kd gLenD (fun xs H Q => ∃ a kvs, xs = [V.ref a] ∧ H a = some (.dK kvs) ∧ Q (.int kvs.length) H) := by
  intro C ρ S A G σ H0 H xs z vs gx Q hK I r h q
  subst hK
  unfold gLenD at h
  split at h
  · cases h
    obtain ⟨v, rfl, r1⟩ := r.one
    obtain ⟨r1, hg⟩ := r1.asBe
    cases r1 with
    | dic e kl l r =>
      refine ⟨_, _, rfl, e, ?_⟩
      rw [List.length_zip, List.length_map, kl, Nat.min_self]
      exact q _ H (EPost.same I (Rk.dat (.int _)))
  · cases h
/-! ### l.index(x) -/
def idxD : List PyData → PyData → Option Nat
  | [], _ => none
  | z :: ds, d => if PyData.eqv z d then some 0 else (idxD ds d).map (· + 1)
theorem idxD_is : ∀ {ds : List PyData} {d : PyData} {j : Nat}, idxD ds d = some j → ∃ z, ds[j]? = some z ∧ PyData.eqv z d = true ∧ ∀ (m : Nat) (z' : PyData), m < j → ds[m]? = some z' → PyData.eqv z' d = false
  | [], _, _, h => by cases h
  | z :: ds, d, j, h => by
    unfold idxD at h
    split at h
    · rename_i e
      cases h
      exact ⟨z, rfl, e, fun m _ hm => absurd hm (Nat.not_lt_zero _)⟩
    · rename_i e
      simp only [Option.map_eq_some_iff] at h
      obtain ⟨i, hi, rfl⟩ := h
      obtain ⟨y, h1, h2, h3⟩ := idxD_is hi
      refine ⟨y, by simpa using h1, h2, fun m z' hm hz => ?_⟩
      cases m with
      | zero =>
        simp only [List.getElem?_cons_zero, Option.some.injEq] at hz
        subst hz
        exact Bool.eq_false_iff.mpr e
      | succ m => exact h3 m z' (by omega) (by simpa using hz)
def gIdx (S : Sto) (x y : SV) : Option SV := match y with
  | .d d => (lst? S x).bind fun ys => (allD ys).bind fun ds => if SeqAt.shaped (.list ds) && SeqAt.shaped d then (idxD ds d).map fun (j : Nat) => .d (.int (j : Int)) else none
  | _ => none
def eIdx (fa fb : Rho → Mo SV) : Rho → Mo SV := fun ρ S => bindM (fa ρ S) fun x S1 => if (lst? S1 x).isSome then bindM (fb ρ S1) fun y S2 => (gIdx S2 x y).map fun z => .ok z S2 else none
theorem ok_idx {K : PySem.W.Frag} : OpOk K ka kb kd gIdx (fun x y H Q => rIndexD K x [y] H Q) := by
  intro C ρ S A G σ H0 H1 H x y z v u gx gy Q hK I rx ry h q
  subst hK
  unfold gIdx at h
  split at h
  · rename_i d
    simp only [Option.bind_eq_some_iff] at h
    obtain ⟨ys, hy, ds, hd, h⟩ := h
    split at h
    · rename_i hs
      rw [Bool.and_eq_true] at hs
      simp only [Option.map_eq_some_iff] at h
      obtain ⟨j, hj, rfl⟩ := h
      obtain ⟨z, h1, h2, h3⟩ := idxD_is hj
      obtain ⟨a, vs, ga, rfl, hl, l, r2⟩ := rx.lst I hy
      have rd := r2.undat hd
      exact ⟨a, u, d, ds, j, z, rfl, rfl, .lst (.of hl) (DqL.dp _ _ rd), Dq.dp _ _ ry.undat, hs.1, hs.2, h1, h2, h3, q _ H (EPost.same I (Rk.dat (.int _)))⟩
    · cases h
  · cases h
theorem v_index {ap cp : Pos} (hk : C.K = X.K) (hu : X.A.units + 65 < cLine) (ho : PE X o (tV C W ka fo)) (hb : PE X e (tV C W kb fb))
    (hbase : attributeBase o "index" X.env (eval o X.env) = eval o X.env := by rfl)
    (hfew : ((backTo cp (starEach [e] X.env)).all (fun x => !x.1) && (backToKw cp (keywordEach [] X.env)).all (fun x => x.1.isSome)
      && decide (([e] : List Expr).length + ([] : List Keyword).length + (if ([] : List Keyword).isEmpty then 0 else 1) < 30)) = true := by rfl)
    (hline : (ap.endLine == cp.line) = true := by rfl) (hs : starEach [e] X.env = (false, eval e X.env) :: starEach [] X.env := by rfl) (hplain : (backTo cp (starEach [] X.env)).any (·.1) = false := by rfl) :
    PE X (.Call (.Attribute o "index" ap) [e] [] cp) (tV C W kd (eIdx fo fb)) := by
  refine pe_imp (pe_bm PySem.F.plainAttrs_list PySem.F.slot_list_index PySem.F.type_list_index (mt_indexD hu) ho (pa_cons hb (pa_nil) hs) hbase hfew hline hs hplain) fun σ H Q ⟨P, ρ, S, A, G, hP, I, q⟩ => ?_
  refine ⟨P, ρ, S, A, G, hP, I, EGood.step q (fun _ _ _ _ _ _ z => z) fun x S1 q v H1 p => ?_⟩
  obtain ⟨A1, g1, P1, e1, hP1, I1, k1, _⟩ := p.next
  split at q
  case isFalse => exact q.elim
  rename_i hx
  obtain ⟨ys, hy⟩ := Option.isSome_iff_exists.mp hx
  refine ⟨?_, P1, ρ, S1, A1, G, fun a z => hP1 a (hP a z), I1, EGood.step q (fun _ _ _ _ _ _ z => z.trans e1) fun y S2 q u H2 p => ?_⟩
  · obtain ⟨a, vs, ga, rfl, hl, l, r2⟩ := k1.lst (show Sim (C.pr P) ρ S1 A1 G σ H1 from (show Sim ((C.pr P1).pr P) ρ S1 A1 G σ H1 from Sim.prc I1 hP1)) hy
    exact .inl ⟨rfl, vs, .inl (.inl hl)⟩
  · obtain ⟨A2, g2, e2, I2, k2⟩ := p
    cases eg : gIdx S2 x y with
    | none => rw [eg] at q; exact q.elim
    | some z =>
      rw [eg] at q
      have I2' : Sim (C.pr P) ρ S2 A2 G σ H2 := (show Sim ((C.pr P1).pr P) ρ S2 A2 G σ H2 from Sim.prc I2.pgw hP1)
      have := ok_idx (K := X.K) (C.pr P) ρ S2 A2 G σ H H1 H2 x y z v u g1 g2 Q hk I2' (k1.ext e2) (k2.prw hP1) eg fun w H' p => q w H' (p.trans (e1.trans e2))
      exact this
end
end VL

end
section
set_option Elab.async false
set_option linter.all false
set_option maxRecDepth 100000
/-! VL26: t = [d.setdefault(x, len(d)) for x in xs], d an empty dict of one's own. -/
namespace VL
open PySem PySem.Spec PyProof.Rows L2
abbrev vrng (n : Nat) : List V := (List.range n).map fun (j : Nat) => V.int (j : Int)
/-- the numbers of things as they come: the keys so far, the numbers so far -/
def sdL : List SV → List Int → List Int → Option (List Int × List Int)
  | [], ks, acc => some (ks, acc)
  | .d (.int n) :: r, ks, acc => if acc.length < sizeLine ∧ ks.length < sizeLine then (match posK ks n with
    | some p => sdL r ks (acc ++ [(p : Int)])
    | none => sdL r (ks ++ [n]) (acc ++ [(ks.length : Int)])) else none
  | _ :: _, _, _ => none
def sSetd (i m v : Nat) (fi : Rho → Mo (List SV)) : Rho → Sto → Option Fl := fun ρ S => bindS ρ (fi ρ S) fun xs S1 => match ρ[i]?, ρ[v]? with
  | some (some (.dic [] [])), some _ => (match sdL xs [] [] with
    | some (ks, acc) => some (.nx ((ρ.set i (some (.dic ks ((List.range ks.length).map fun (j : Nat) => SV.d (.int (j : Int)))))).set m (some (.own (acc.map fun z => SV.d (.int z))))) S1)
    | none => none)
  | _, _ => none
abbrev rLenDic : List V → Hp → VK → Prop := fun xs H Q => ∃ a kvs, xs = [V.ref a] ∧ H a = some (.dK kvs) ∧ Q (.int kvs.length) H
theorem vrng_len (n : Nat) : (vrng n).length = n := by simp
theorem kvz_len (ks : List Int) : (kvz ks (vrng ks.length)).length = ks.length := by simp [kvz]
theorem rsl_ints {K : PySem.W.Frag} {mg : Str → Option Value} {H : Hp} {A : List Addr} {F : Addr → Prop} (ns : List Int) : RsL K mg H A F (ns.map fun z => SV.d (.int z)) (ns.map V.int) [] := by
  have := RsL.ofD (A := A) (mg := mg) (DqL.ofInts (C := ⟨K, mg, H, A, F⟩) (H := H) (F := F) ns)
  rw [List.map_map] at this
  exact this
section
variable {X : Cx} {C : Ct} {W : WX} {P : Addr → Prop} {ρ : Rho} {S : Sto} {A : List Addr} {G : List (List Addr)} {σ : L2.St} {H : Hp} {fi : Rho → Mo (List SV)}
theorem t_setd {i m v : Nat} (hiv : i ≠ v) : ∀ D σ H, tS C W (sSetd i m v fi) D σ H →
    tAsg (tLc (tI C W true fi) (gName v) tYes (tDSetd (tVar i) (tVar v) (tCB rLenDic (tCons (tVar i) tNil))) [v]) (gName m) D σ H := by
  intro D σ H ⟨ρ, S, A, G, I, q⟩
  refine ⟨C.Pr, ρ, S, A, G, fun _ h => h, I, SGood.step q fun xs S1 q J H1 p => ?_⟩
  obtain ⟨A1, e1, I1, wk⟩ := p
  have I1 : Sim C ρ S1 A1 G σ H1 := I1
  split at q
  case h_2 => exact q.elim
  rename_i w0 hi hv0
  cases hs : sdL xs [] [] with
  | none => rw [hs] at q; exact q.elim
  | some r =>
  obtain ⟨ks2, acc2⟩ := r
  rw [hs] at q
  simp only at q
  obtain ⟨v0, g, e0, r0, sb⟩ := I1.slots i _ hi
  cases r0 with
  | @dic a0 _ _ vs0 g1 e kl l r =>
  cases r
  have ha0 : a0 ∈ G[i]?.getD [] := sb.subset List.mem_cons_self
  have aG : a0 ∈ G.flatten := getD_mem ha0
  have a0t : H1 a0 ≠ none := I1.trk a0 (List.mem_append_right _ aG)
  have E0a : C.E0 a0 = none := by
    rcases I1.fresh a0 (List.mem_append_right _ aG) with z | z
    · exact absurd rfl ((List.nodup_append.mp I1.nd).2.2 a0 (I1.pre.subset z) a0 aG)
    · exact z
  have npa : ¬ C.Pr a0 := fun z => (I1.prot a0 z).1 (List.mem_append_right _ aG)
  have e : H1 a0 = some (.dK []) := e
  intro L hL
  have hLa : a0 ≠ L := fun z => a0t (by rw [z]; exact hL)
  have E0L : C.E0 L = none := I1.e0 L hL
  have J1 : Sim (C.pr fun b => (C.Pr b ∨ b ∈ G[i]?.getD []) ∨ b = L) (ρ.set i none) S1 A1 (G.set i []) σ (upd H1 L (.lst [])) := Sim.newP (C := C.pr fun b => C.Pr b ∨ b ∈ G[i]?.getD []) (I1.drop i) hL
  have hlv : σ[i]? = some (some (V.ref a0)) := e0
  refine ⟨fun t n H' => n = xs.length - t ∧ ∃ ks acc, t ≤ xs.length ∧ sdL (xs.drop t) ks acc = some (ks2, acc2) ∧ Sim (C.pr fun b => (C.Pr b ∨ b ∈ G[i]?.getD []) ∨ b = L) (ρ.set i none) S1 A1 (G.set i []) σ H' ∧
    H' a0 = some (.dK (kvz ks (vrng ks.length))) ∧ H' L = some (.lst (acc.map V.int)) ∧ acc.length ≤ sizeLine ∧ ks.length ≤ sizeLine ∧ (∀ b o, H1 b = some o → b ≠ a0 → H' b = some o),
    ⟨xs.length - 0, rfl, [], [], Nat.zero_le _, by rw [List.drop_zero]; exact hs, J1, by rw [upd_ne hLa]; exact e, upd_same, Nat.zero_le _, Nat.zero_le _, fun b o h n => by rw [upd_ne (ne_of_none h hL)]; exact h⟩, ?_⟩
  rintro t n H' ⟨rfl, ks, acc, ht, hc, Is, hA, hLl, hl1, hl2, hk⟩
  have there : ∀ b, H1 b ≠ none → H' b ≠ none := fun b h => by
    by_cases z : b = a0
    · rw [z, hA]; simp
    · cases hb : H1 b with
      | none => exact absurd hb h
      | some o => rw [hk b o hb z]; simp
  have ex : ExtS A1 G H1 A1 G H' := ⟨List.prefix_refl _, fun b m => .inl m, fun b o h n => hk b o h fun z => n (by rw [z]; exact List.mem_append_right _ aG), there⟩
  by_cases hlt : t < xs.length
  · have hx : xs[t]? = some xs[t] := List.getElem?_eq_getElem hlt
    obtain ⟨jgo, jy⟩ := wk.go C.Pr A1 G H' (fun b z => .inl z) ex (fun z => by cases z) (fun b z => there b (I1.fsTrk z)) t _ hx
    rw [List.drop_eq_getElem_cons hlt] at hc
    refine .inr ⟨jgo, fun H2 => ∃ ks acc, t + 1 ≤ xs.length ∧ sdL (xs.drop (t + 1)) ks acc = some (ks2, acc2) ∧ Sim (C.pr fun b => (C.Pr b ∨ b ∈ G[i]?.getD []) ∨ b = L) (ρ.set i none) S1 A1 (G.set i []) σ H2 ∧
      H2 a0 = some (.dK (kvz ks (vrng ks.length))) ∧ H2 L = some (.lst (acc.map V.int)) ∧ acc.length ≤ sizeLine ∧ ks.length ≤ sizeLine ∧ (∀ b o, H1 b = some o → b ≠ a0 → H2 b = some o), fun H2 h => ⟨xs.length - (t + 1), by omega, rfl, h⟩, fun y H3 hy => ?_⟩
    obtain ⟨hn, rx⟩ := jy y H3 hy
    generalize xs[t] = x at hc rx
    obtain ⟨nn, rfl⟩ : ∃ nn, x = .d (.int nn) := by
      unfold sdL at hc
      split at hc
      · rename_i hz; cases hz
      · rename_i hz; cases hz; exact ⟨_, rfl⟩
      · cases hc
    rw [sdL] at hc
    split at hc
    case isFalse => cases hc
    rename_i hsz
    have dn := rx.nil_d.2
    obtain rfl : y = .int nn := by cases dn; rfl
    have hA3 : H3 a0 = some (.dK (kvz ks (vrng ks.length))) := by
      rcases hn with rfl | ⟨p, o, hp, rfl⟩
      · exact hA
      · rw [upd_ne (ne_of_none hA hp)]; exact hA
    have hL3 : H3 L = some (.lst (acc.map V.int)) := by
      rcases hn with rfl | ⟨p, o, hp, rfl⟩
      · exact hLl
      · rw [upd_ne (ne_of_none hLl hp)]; exact hLl
    have hk3 : ∀ b o, H1 b = some o → b ≠ a0 → H3 b = some o := fun b o h z => by
      have := hk b o h z
      rcases hn with rfl | ⟨p, o', hp, rfl⟩
      · exact this
      · rw [upd_ne (ne_of_none this hp)]; exact this
    have I3 : Sim (C.pr fun b => (C.Pr b ∨ b ∈ G[i]?.getD []) ∨ b = L) (ρ.set i none) S1 A1 (G.set i []) σ H3 := by
      rcases hn with rfl | ⟨p, o, hp, rfl⟩
      · exact Is
      · exact Is.new hp
    have hLn : ∀ b o, H1 b = some o → b ≠ L := fun b o h => ne_of_none h hL
    refine ⟨?_, ?_⟩
    · show L2.wipe (((L2.wipe σ [v]).set v (some (.int nn)))) [v] = L2.wipe σ [v]
      show (((σ.set v none).set v (some (.int nn)))).set v none = σ.set v none
      rw [List.set_set, List.set_set]
    show tDSetd (tVar i) (tVar v) (tCB rLenDic (tCons (tVar i) tNil)) ((σ.set v none).set v (some (V.int nn))) H3 _
    rw [List.set_set]
    have si : (σ.set v (some (V.int nn)))[i]? = some (some (.ref a0)) := by rw [List.getElem?_set_ne (Ne.symm hiv)]; exact hlv
    have sv : (σ.set v (some (V.int nn)))[v]? = some (some (.int nn)) := by
      have h1 := (List.getElem?_eq_some_iff.mp hv0).1
      rw [List.getElem?_set_self (by rw [← I1.lr]; exact h1)]
    refine ⟨.ref a0, si, a0, rfl, .inl ⟨_, .inl hA3⟩, .int nn, sv, .ref a0, si, a0, _, rfl, hA3, kvz ks (vrng ks.length), .inl nn, hA3, rfl, by rw [kvz_len]; exact hsz.2, fun w hw => ?_, fun hw => ?_⟩
    · rw [valV_kvz (vrng_len _)] at hw
      cases hp : posK ks nn with
      | none => rw [hp] at hw; cases hw
      | some p =>
        rw [hp] at hw hc
        simp only [Option.bind_some] at hw
        have hpl := posK_lt hp
        obtain rfl : w = .int p := by
          simp [hpl] at hw
          exact hw.symm
        refine ⟨acc.map V.int, hL3, by rw [List.length_map]; exact hsz.1, ks, acc ++ [(p : Int)], hlt, hc, Sim.updP I3 (.inr rfl) E0L, by rw [upd_ne hLa]; exact hA3, by rw [upd_same, List.map_append]; rfl, by rw [List.length_append]; exact hsz.1, hl2, fun b o h z => by rw [upd_ne (hLn b o h)]; exact hk3 b o h z⟩
    · rw [valV_kvz (vrng_len _)] at hw
      have hp : posK ks nn = none := by
        cases hp : posK ks nn with
        | none => rfl
        | some p =>
          have hpl := posK_lt hp
          rw [hp] at hw
          simp [hpl] at hw
      rw [hp] at hc
      rw [kvz_len]
      refine ⟨acc.map V.int, by rw [upd_ne (Ne.symm hLa)]; exact hL3, by rw [List.length_map]; exact hsz.1, ks ++ [nn], acc ++ [(ks.length : Int)], hlt, hc, Sim.updP (Sim.updP I3 (.inl (.inr ha0)) E0a) (.inr rfl) E0L, ?_, by rw [upd_same, List.map_append]; rfl, by rw [List.length_append]; exact hsz.1, by rw [List.length_append]; exact hsz.2, fun b o h z => by rw [upd_ne (hLn b o h), upd_ne z]; exact hk3 b o h z⟩
      rw [upd_ne hLa, upd_same, kvz_snoc (vrng_len _) hp]
      congr 3
      unfold vrng
      rw [List.length_append, List.length_singleton, List.range_succ, List.map_append]
      rfl
  · have hie : t = xs.length := by omega
    rw [List.drop_eq_nil_of_le (by omega)] at hc
    cases hc
    refine .inl ⟨wk.stop A1 G H' ex (fun z => by cases z) t (by omega), ?_⟩
    show D.nx (σ.set m (some (.ref L))) H'
    have rk : Rs C.K C.mg H' A1 (fun b => Fs (C.pr fun b => C.Pr b ∨ b ∈ [L]) A1 (G.set i []) b ∨ b ∈ [a0]) (.dic ks2 ((List.range ks2.length).map fun (j : Nat) => SV.d (.int (j : Int)))) (.ref a0) [a0] := by
      have := rsl_ints (K := C.K) (mg := C.mg) (H := H') (A := A1) (F := fun b => Fs (C.pr fun b => C.Pr b ∨ b ∈ [L]) A1 (G.set i []) b ∨ b ∈ [a0]) ((List.range ks2.length).map fun (j : Nat) => (j : Int))
      rw [List.map_map, List.map_map] at this
      exact .dic hA (vrng_len _) (by rw [vrng_len]; exact hl2) this
    have K1 : Sim (C.pr fun b => C.Pr b ∨ b ∈ [L]) (ρ.set i (some (.dic ks2 ((List.range ks2.length).map fun (j : Nat) => SV.d (.int (j : Int)))))) S1 A1 (G.set i [a0]) σ H' :=
      Sim.backD (C := C.pr fun b => C.Pr b ∨ b ∈ [L]) (g0 := []) (P := fun b => (C.Pr b ∨ b ∈ G[i]?.getD []) ∨ b = L) e0 Is (fun b z => by
        obtain rfl : b = a0 := by simpa using z
        exact .inl (.inr ha0)) (fun b z => by
        rcases z with z | z
        · exact .inl (.inl z)
        · exact .inr (by simpa using z)) rk (by simp) (fun b z => by
        obtain rfl : b = a0 := by simpa using z
        exact E0a) (fun b z w => by
        obtain rfl : b = a0 := by simpa using z
        rcases w with w | w
        · exact npa w
        · exact hLa (by simpa using w))
    have K2 := Sim.put (C := C) (i := m) (g := [L]) (x := .own (acc2.map fun z => SV.d (.int z))) (v := .ref L) K1 (.own hLl (by rw [List.length_map]; exact hl1) (rsl_ints acc2)) (by simp) (fun b z => by
        obtain rfl : b = L := by simpa using z
        exact E0L) (fun b z w => by
        obtain rfl : b = L := by simpa using z
        exact (I1.prot b w).2 hL)
    refine q A1 _ _ H' ⟨e1.pre, fun b z => ?_, fun b o h n => ?_, fun b h => there b (e1.there b h)⟩ K2
    · rcases List.mem_append.mp z with z | z
      · exact (e1.new b z).imp (List.mem_append_left _) id
      · rcases flatten_set_sub z with z | z
        · rcases flatten_set_sub z with z | z
          · exact .inl (List.mem_append_right _ z)
          · obtain rfl : b = a0 := by simpa using z
            exact .inl (List.mem_append_right _ aG)
        · obtain rfl : b = L := by simpa using z
          exact .inr (none_back e1 hL)
    · exact hk b o (e1.keep b o h fun z => n (List.mem_append_left _ z)) fun z => n (by rw [z]; exact List.mem_append_right _ aG)
/-- t = [d.setdefault(x, len(d)) for x in xs] -/
theorem s_setd {i m v : Nat} {y : Str} {py pos spos a1 c1 : Pos} {tg iter od on ln : Expr} {scope : Scope} {own : List (Str × Nat)} (hiv : i ≠ v) (how : own.map (·.2) = [v]) (hy : X.N[m]? = some y) (hyl : X.env.scope.names.lookup y = some .local) (hc : X.calm = true) (hN : X.N.Nodup) (hi : PI X tg iter (tI C W true fi)) (ok : BlkOk X.N X.env.scope scope own)
    (hg : ∀ (s : Shared) (H : Hp) (Ca : Addr) (cl : List (Str × Addr)) (fp : List Addr), PG (X.blk s H scope (compEnvC scope cl Ca X.env) fp) tg (gName v))
    (hd : ∀ (s : Shared) (H : Hp) (Ca : Addr) (cl : List (Str × Addr)) (fp : List Addr), PE (X.blk s H scope (compEnvC scope cl Ca X.env) fp) od (tVar i))
    (hn : ∀ (s : Shared) (H : Hp) (Ca : Addr) (cl : List (Str × Addr)) (fp : List Addr), PE (X.blk s H scope (compEnvC scope cl Ca X.env) fp) on (tVar v))
    (hl : ∀ (s : Shared) (H : Hp) (Ca : Addr) (cl : List (Str × Addr)) (fp : List Addr), PE (X.blk s H scope (compEnvC scope cl Ca X.env) fp) ln (tCB rLenDic (tCons (tVar i) tNil)))
    (hm : ∀ (s : Shared) (H : Hp) (Ca : Addr) (cl : List (Str × Addr)) (fp : List Addr), M2 (X.blk s H scope (compEnvC scope cl Ca X.env) fp) od "setdefault" a1 on ln c1)
    (hsw : swapsWith (.ListComp (.Call (.Attribute od "setdefault" a1) [on, ln] [] c1) [⟨tg, iter, [], 0⟩] scope pos) (some (.Name y py)) spos.line X.env = pure true := by rfl) (hs : ∀ x, foldedSetIterable iter X.env x = pure x := by intro _; rfl) :
    PS X (.Assign [.Name y py] (.ListComp (.Call (.Attribute od "setdefault" a1) [on, ln] [] c1) [⟨tg, iter, [], 0⟩] scope pos) spos) (tS C W (sSetd i m v fi)) := by
  have h := ps_setLc hc hN hy hyl hsw hi ok hg (fun _ _ _ _ _ => pts_nil) (fun s H Ca cl fp => pe_dsetd (hd s H Ca cl fp) (hn s H Ca cl fp) (hl s H Ca cl fp) (hm s H Ca cl fp)) hs
  rw [how] at h
  exact ps_imp h (t_setd hiv)
end
end VL

end
section
set_option Elab.async false
set_option linter.all false
set_option maxRecDepth 100000
/-! VL27: division of ints of any size (the import of _pylong is not seen by anybody); the hook that looks at the statics, too. -/
namespace VL
open PySem PySem.Spec PyProof.Rows L2

def nsNo (K : PySem.W.Frag) (a : Addr) (x : Str) : Bool := match PySem.W.nsIn K a x with
  | some none => true
  | _ => false
theorem nsNo_eq {K : PySem.W.Frag} {a : Addr} {x : Str} (e : nsNo K a x = true) : PySem.W.nsIn K a x = some none := by
  unfold nsNo at e
  split at e
  · assumption
  · cases e
theorem ns_no {K : PySem.W.Frag} {h : Heap} {a : Addr} {m : Str → Option Value} {x : Str} (X : K.In h) (G : h.Ns a m) (e : PySem.W.nsIn K a x = some none) : m x = none := by
  obtain ⟨o, es, ep, g1, g2, _, g3⟩ := G
  cases q : K.lookup a with
  | none => simp [PySem.W.nsIn, q] at e
  | some u =>
    have r := (X _ _ q).symm.trans g1
    obtain ⟨c, d, dt, sl⟩ := u
    cases r
    cases g2
    have z : nsFind es x = none := by
      simp only [PySem.W.nsIn, q] at e
      cases y : es.toList.find? (fun z => z.key.isStr x) with
      | some w => rw [y] at e; cases e
      | none =>
        have := Array.find?_toList (p := fun z : DictEntry => z.key.isStr x) (xs := es)
        rw [y] at this
        simp only [nsFind, findBy]
        rw [← this]
        rfl
    exact (g3 x).symm.trans z
/-- a namespace's keys are words -/
def strKeys (K : PySem.W.Frag) (a : Addr) : Bool := match K.lookup a with
  | some ⟨_, _, .dict es _, _⟩ => es.toList.all fun e => match e.key with
    | .str _ _ => true
    | _ => false
  | _ => false
theorem strKeys_ns {K : PySem.W.Frag} {h : Heap} {a : Addr} (X : K.In h) (e : strKeys K a = true) : ∃ m, h.Ns a m := by
  cases q : K.lookup a with
  | none => simp [strKeys, q] at e
  | some u =>
    obtain ⟨c, d, dt, sl⟩ := u
    cases dt with
    | dict es ep =>
      simp only [strKeys, q, List.all_eq_true] at e
      refine ⟨nsFind es, _, es, ep, X _ _ q, rfl, fun z m => ?_, fun _ => rfl⟩
      have := e z (Array.mem_toList_iff.mpr m)
      split at this
      · rename_i n t k
        exact ⟨n, t, k⟩
      · cases this
    | _ => simp [strKeys, q] at e
def bltB (K : PySem.W.Frag) : Bool := match PySem.W.nsIn K mainGlobals "__builtins__" with
  | some (some (.ref b)) => (match K.lookup b with
    | some ob => (match ob.cls with
      | .type n => n == "module"
      | _ => false) && ob.dict == some builtinsNs
    | none => false)
  | _ => false
def seerB (K : PySem.W.Frag) : Bool := nsNo K cStatics "sys.audit-hooks" && nsNo K cStatics "sys.dict" && strKeys K sysModules && nsNo K sysModules "_pylong" && bltB K
structure SeerP (P : Program) (K : PySem.W.Frag) : Prop where
  ok : seerB K = true
  tree : P.given.tree = none
theorem noSeer_of {K : PySem.W.Frag} {mg : Str → Option Value} {base : Heap} (M : Mod K mg base) (e : seerB K = true) : base.NoSeer := by
  simp only [seerB, Bool.and_eq_true] at e
  obtain ⟨⟨⟨⟨e1, e2⟩, e3⟩, e4⟩, e5⟩ := e
  obtain ⟨mc, c1, c2⟩ := M.nolimit
  obtain ⟨mm, c3⟩ := strKeys_ns M.kin e3
  refine ⟨⟨mc, c1, ns_no M.kin c1 (nsNo_eq e1), ns_no M.kin c1 (nsNo_eq e2)⟩, ⟨mm, c3, ns_no M.kin c3 (nsNo_eq e4)⟩, M.blt, ?_⟩
  unfold bltB at e5
  split at e5
  · rename_i b hb
    split at e5
    · rename_i ob ho
      obtain ⟨e6, e7⟩ := Bool.and_eq_true_iff.mp e5
      split at e6
      · rename_i n hn
        exact ⟨mg, b, ob, M.glob, PySem.W.mg_of M.kin M.glob hb, M.kin _ _ ho, by rw [hn, beq_iff_eq.mp e6], beq_iff_eq.mp e7⟩
      · cases e6
    · cases e5
  · cases e5
section
variable {X : Cx} {C : Ct} {W : WX} {kd ka kb : Kd} {a b : Expr} {pos : Pos} {fa fb : Rho → Mo SV}
/-- the code of a def runs, with room for the import -/
structure PyRoom (X : Cx) : Prop where
  seer : SeerP X.prog X.K
  stk : X.stack = X.env :: X.outer
  gen : X.env.scope.isGenerator = false
  co : X.env.scope.isCoroutine = false
  dp : X.A.depth + 100 < recursionLimit
theorem pyroom {P : Program} {w : World} {K : PySem.W.Frag} {mg : Str → Option Value} {base : Heap} {N : List Str} {qual : Str} {scope : Scope} {f : Addr} {cd : Value} {A : Around} {outer : List Env} {s : Shared} {H : Hp} {E : XK} {k : Nat}
    (sr : SeerP P K) (hr : Room k (A.deeper (envOfC qual scope s.heap.objs.size f cd))) (hk : 32 ≤ k) (hg : scope.isGenerator = false) (hc : scope.isCoroutine = false) : PyRoom (cxOf (L2.CX P w) P w K mg base N qual scope f cd A outer s H E) :=
  ⟨sr, rfl, hg, hc, by have := hr.dp; show (A.deeper (envOfC qual scope s.heap.objs.size f cd)).depth + 100 < _; omega⟩
theorem op_fdivS (r : PyRoom X) : OpR X (binaryOp .FloorDiv) (rI (fun i j => j ≠ 0) fun i j => .int (i.fdiv j)) := by
  intro pins s σ H x y v u Q I rx ry h
  obtain ⟨i, j, rfl, rfl, hc, q⟩ := h
  obtain ⟨t, rfl⟩ := rx
  obtain ⟨t', rfl⟩ := ry
  have hs : SeerAt (model X.prog X.w) X.A s.heap := SeerAt.of ((noSeer_of I.mod r.seer.ok).keeps I.bk) r.seer.tree (I.ok.frames.trans (by rw [r.stk])) r.gen r.co I.ok.blt I.ok.glob
  exact floordiv_int hc ⟨.int (i.fdiv j), H, I.tok _, ⟨_, rfl⟩, q⟩ (.inr (PylongRoom.of I.nolimit (by have := r.dp; show X.A.depth + 100 < _; omega) hs))
def gFdivS (_ : Sto) (x y : SV) : Option SV :=
  match x, y with
  | .d (.int i), .d (.int j) => if j ≠ 0 then some (.d (.int (i.fdiv j))) else none
  | _, _ => none
theorem v_fdivS (r : PyRoom X) (ha : PE X a (tV C W ka fa)) (hb : PE X b (tV C W kb fb)) : PE X (.BinOp a .FloorDiv b pos) (tV C W kd (eBin gFdivS fa fb)) := v_op (op_fdivS r) (fun C ρ S A G σ H0 H1 H x y z v u gx gy Q hK I rx ry h q => by
  unfold gFdivS at h
  split at h
  · rename_i i j
    split at h
    · rename_i hm
      cases h
      exact ⟨i, j, rx.int, ry.int, hm, q _ H (EPost.same I (Rk.dat (.int _)))⟩
    · cases h
  · cases h) ha hb
end
@[simp] theorem gFdivS_i (S : Sto) (i j : Int) : gFdivS S (.d (.int i)) (.d (.int j)) = if j ≠ 0 then some (.d (.int (i.fdiv j))) else none := rfl
/-! ### the hook -/
def asY (g : Addr → Option Obj) (n : Nat) : List Addr := He.asD g n ++ [cStatics, sysModules]
def obsY (n : Nat) (fa : List He.Fa) (fn : List He.DefD) (ex : PySem.W.Frag → Bool) (g : Addr → Option Obj) : He.AlX := (He.obsT fa fn [] (He.frT g (asY g n)), ex (He.frT g (asY g n)))
def hookY (n : Nat) (fa : List He.Fa) (fn : List He.DefD) (ex : PySem.W.Frag → Bool) : PySem.W.Hook where
  α := He.AlX
  obs := fun s => obsY n fa fn ex s.heap.get?
  val := fun w => He.valX fn [] w
  says := fun w h => ∃ K : PySem.W.Frag, K.In h ∧ He.SaysX fa fn [] [] ex w h K
  of := fun _ _ e => ⟨_, He.frT_in, ⟨congrArg Prod.fst e, congrArg Prod.snd e, fun _ m => (nomatch m), fun _ m => (nomatch m), fun _ m => (nomatch m)⟩⟩
  keeps := fun _ _ _ z k => by
    obtain ⟨K, hK, c⟩ := z
    exact ⟨K, hK.keeps k, c.t, c.more, c.hd, c.out, fun _ m => (nomatch m)⟩
theorem obsY_eq {n : Nat} {fa : List He.Fa} {fn : List He.DefD} {ex : PySem.W.Frag → Bool} {g : Addr → Option Obj} {s : Shared} (h : ∀ a, g a = s.heap.get? a) : obsY n fa fn ex g = (hookY n fa fn ex).obs s := by
  obtain rfl : g = s.heap.get? := funext h
  rfl
end VL

end
section
set_option Elab.async false
set_option linter.all false
set_option maxRecDepth 100000
set_option maxHeartbeats 4000000
/-! VL28: a tuple once, or not at all. -/
namespace VL
open PySem PySem.Spec PyProof.Rows L2
theorem tupOnce (l : Addr) (its : Array Value) (n : Nat) (dd : Option Addr) (sl : Array (Option Value)) (x : Int) (u : Tok) (c0 : (decide (x < -(2 ^ 63)) || decide (x ≥ 2 ^ 63)) = false) (c1 : (its.isEmpty || x == 1) = true) :
    Meets (Builtin.«tuple.__mul__» ⟨[.ref l, .int x u], []⟩) (fun _ R s => s.heap.get? l = some { cls := .type "tuple", dict := dd, data := .seq its n, slots := sl } ∧ R (.ok (.ret (.ref l))) s) :=
  .of_wp fun prog w A R s h => by
    obtain ⟨hp, g, d, tk, os⟩ := s
    obtain ⟨hl, h⟩ := h
    have f1 := AutoSeq1.idx_int
    wp_walk using wpAny_loadPart' hl
    refine wpAny_ite_false (decide_eq_false (by rw [c0]; decide)) ?_
    wp_walk using wpAny_loadPart' hl
    repeat (first
      | (refine wpAny_ite_true (decide_eq_true c1) ?_; wp_walk using wpAny_loadPart' hl))
    exact ⟨_, rfl, h⟩
theorem tupNone (l : Addr) (its : Array Value) (n : Nat) (dd : Option Addr) (sl : Array (Option Value)) (x : Int) (u : Tok) (c0 : (decide (x < -(2 ^ 63)) || decide (x ≥ 2 ^ 63)) = false) (c1 : (its.isEmpty || x == 1) = false) (c2 : (decide (x ≤ 0) || its.isEmpty) = true) :
    Meets (Builtin.«tuple.__mul__» ⟨[.ref l, .int x u], []⟩) (fun _ R s => s.heap.get? l = some { cls := .type "tuple", dict := dd, data := .seq its n, slots := sl } ∧ R (.ok (.ret (.ref s.heap.objs.size))) { s with heap := s.heap.push { cls := .type "tuple", data := .seq #[] }, toks := s.toks }) :=
  .of_wp fun prog w A R s h => by
    obtain ⟨hp, g, d, tk, os⟩ := s
    obtain ⟨hl, h⟩ := h
    have f1 := AutoSeq1.idx_int
    wp_walk using wpAny_loadPart' hl
    refine wpAny_ite_false (decide_eq_false (by rw [c0]; decide)) ?_
    wp_walk using wpAny_loadPart' hl
    repeat (first
      | (refine wpAny_ite_false (decide_eq_false (by rw [c1]; decide)) ?_; wp_walk using wpAny_loadPart' hl)
      | (refine wpAny_ite_true (decide_eq_true c2) ?_; wp_walk using wpAny_loadPart' hl))
    exact ⟨_, rfl, h⟩
/-- the same tuple: an empty one, or once -/
def rRepS (K : PySem.W.Frag) : R2 := fun x y H Q => ∃ l k xs, x = .ref l ∧ y = .int k ∧ SqT K H l xs ∧ k.natAbs < 1000000 ∧ (xs = [] ∨ k = 1) ∧ Q (.ref l) H
def rRepN (K : PySem.W.Frag) : R2 := fun x y H Q => ∃ l k xs, x = .ref l ∧ y = .int k ∧ SqT K H l xs ∧ xs ≠ [] ∧ k.natAbs < 1000000 ∧ k ≤ 0 ∧ ∀ p, H p = none → Q (.ref p) (upd H p (.tup []))
section
variable {X : Cx}
theorem bounds63 {k : Int} (h : k.natAbs < 1000000) : (decide (k < -(2 ^ 63)) || decide (k ≥ 2 ^ 63)) = false := by
  rw [decide_eq_false (by omega), decide_eq_false (by omega), Bool.or_self]
theorem op_repS : OpR X (binaryOp .Mult) (rRepS X.K) := by
  intro pins s σ H x y v u Q I rx ry h
  obtain ⟨l, k, xs, rfl, rfl, hT, hk, hc, q⟩ := h
  have rx0 := rx
  cases rx
  obtain ⟨t, rfl⟩ := ry
  obtain ⟨its, r, ⟨⟨cls, dd, data, sl⟩, ho, hcl, n, hd⟩, hs⟩ := I.tuple hT
  simp only at hcl hd
  subst hcl hd
  have c1 : (its.toArray.isEmpty || k == 1) = true := by
    rcases hc with rfl | rfl
    · cases r
      rfl
    · simp
  refine wpAny_binaryOp_repeat_ref (T := "tuple") (U := "int") (by decide) ⟨_, ho, rfl⟩ (fun z => typeIs_int z k t) noFill_tuple_mul F.fills_int_mul F.slot_int_rmul repeat_tuple F.slot_int_index.lookup ?_
  refine call_meets F.slot_int_rmul (typeIs_int s k t) F.entry_int_rmul (F.args_int_rmul_2 _ _) (int_rmul_tuple k t l its.toArray n dd sl) ⟨ho, rfl, ⟨_, ho, rfl⟩, ?_⟩
  exact call_meets F.slot_tuple_mul ⟨_, ho, rfl⟩ F.entry_tuple_mul (F.args_tuple_mul_2 _ _) (tupOnce l its.toArray n dd sl k t (bounds63 hk) c1) ⟨ho, _, _, I, rx0, q⟩
theorem op_repN : OpR X (binaryOp .Mult) (rRepN X.K) := by
  intro pins s σ H x y v u Q I rx ry h
  obtain ⟨l, k, xs, rfl, rfl, hT, hne, hk, h0, q⟩ := h
  cases rx
  obtain ⟨t, rfl⟩ := ry
  obtain ⟨its, r, ⟨⟨cls, dd, data, sl⟩, ho, hcl, n, hd⟩, hs⟩ := I.tuple hT
  simp only at hcl hd
  subst hcl hd
  have e : its.toArray.isEmpty = false := by
    cases r with
    | nil => exact absurd rfl hne
    | cons _ _ => rfl
  have c1 : (its.toArray.isEmpty || k == 1) = false := by
    rw [e, Bool.false_or, beq_eq_false_iff_ne]
    omega
  have c2 : (decide (k ≤ 0) || its.toArray.isEmpty) = true := by rw [decide_eq_true h0, Bool.true_or]
  refine wpAny_binaryOp_repeat_ref (T := "tuple") (U := "int") (by decide) ⟨_, ho, rfl⟩ (fun z => typeIs_int z k t) noFill_tuple_mul F.fills_int_mul F.slot_int_rmul repeat_tuple F.slot_int_index.lookup ?_
  refine call_meets F.slot_int_rmul (typeIs_int s k t) F.entry_int_rmul (F.args_int_rmul_2 _ _) (int_rmul_tuple k t l its.toArray n dd sl) ⟨ho, rfl, ⟨_, ho, rfl⟩, ?_⟩
  refine call_meets F.slot_tuple_mul ⟨_, ho, rfl⟩ F.entry_tuple_mul (F.args_tuple_mul_2 _ _) (tupNone l its.toArray n dd sl k t (bounds63 hk) c1 c2) ⟨ho, ?_⟩
  refine ⟨.ref s.heap.objs.size, _, I.laid (t' := s.toks) (o := .tup []) (fun b ob z => Heap.get?_push_of_some _ z) (Nat.le_refl _) ?_, rfl, q _ (I.hok.fresh (Nat.le_refl _))⟩
  exact ⟨Nat.zero_le _, _, .nil, IsTup.new _ _⟩
end
def gMulT (S : Sto) (x y : SV) : Option SV := match x, y with
  | .d (.tuple ds), .d (.int k) => if ds = [] ∨ k = 1 then (if k.natAbs < 1000000 then some (.d (.tuple ds)) else none) else if k ≤ 0 then (if k.natAbs < 1000000 then some (.d (.tuple [])) else none) else gMulA S x y
  | x, y => gMulA S x y
section
variable {X : Cx} {C : Ct} {W : WX} {kd ka kb : Kd} {a b : Expr} {pos : Pos} {fa fb : Rho → Mo SV}
theorem ok_mulT {K : PySem.W.Frag} : OpOk K ka kb kd gMulT (fun x y H Q => rRepS K x y H Q ∨ rRepN K x y H Q ∨ rRepT K x y H Q ∨ (rI IntMulOk (fun i j => .int (i * j))) x y H Q ∨ rRep x y H Q) := by
  intro C ρ S A G σ H0 H1 H x y z v u gx gy Q hK I rx ry h q
  have old : gMulA S x y = some z → _ := fun e => ok_mulA C ρ S A G σ H0 H1 H x y z v u gx gy Q hK I rx ry e q
  unfold gMulT at h
  split at h
  · rename_i ds k
    split at h
    · rename_i hc
      split at h
      · rename_i hk
        cases h
        obtain ⟨a, vs, rfl, hs, l, r⟩ := rx.tup
        refine .inl ⟨a, k, vs, rfl, ry.int, (by rw [← hK]; exact hs), hk, ?_, q _ H (EPost.same I (Rk.fe_of rx rfl))⟩
        rcases hc with rfl | rfl
        · cases r
          exact .inl rfl
        · exact .inr rfl
      · cases h
    · rename_i hc
      split at h
      · rename_i hk
        split at h
        · rename_i hb
          cases h
          obtain ⟨a, vs, rfl, hs, l, r⟩ := rx.tup
          refine .inr (.inl ⟨a, k, vs, rfl, ry.int, (by rw [← hK]; exact hs), fun e => hc (.inl ?_), hb, hk, fun p hp => q _ _ (EPost.tup I .nil (Nat.zero_le _) hp)⟩)
          have := r.length
          rw [e] at this
          exact List.length_eq_zero_iff.mp this.symm
        · cases h
      · exact .inr (.inr (old h))
  · exact .inr (.inr (old h))
theorem v_mulT (hk : C.K = X.K) (ha : PE X a (tV C W ka fa)) (hb : PE X b (tV C W kb fb)) : PE X (.BinOp a .Mult b pos) (tV C W kd (eBin gMulT fa fb)) := v_op (op_repS.or (op_repN.or (op_repT.or (op_mulI.or op_rep)))) (hk ▸ ok_mulT) ha hb
end
section
variable (S : Sto) (i j : Int)
@[simp] theorem gMulT_i : gMulT S (.d (.int i)) (.d (.int j)) = if mulOk i j then some (.d (.int (i * j))) else none := rfl
theorem gMulT_t (d : PyData) (k : Nat) (h : k ≤ 1000) : gMulT S (.d (.tuple [d])) (.d (.int (k : Int))) = some (.d (.tuple (List.replicate k d))) := by
  have h1 : ((k : Int)).natAbs < 1000000 := by omega
  match k with
  | 0 => rfl
  | 1 => rfl
  | k + 2 =>
    have a1 : ¬ ([d] = [] ∨ (((k + 2 : Nat) : Nat) : Int) = 1) := by
      rintro (z | z)
      · cases z
      · omega
    have a2 : ¬ (((k + 2 : Nat) : Nat) : Int) ≤ 0 := by omega
    have a3 : (decide ([d] ≠ []) && decide (2 ≤ (((k + 2 : Nat) : Nat) : Int) ∧ (((k + 2 : Nat) : Nat) : Int) ≤ 1000) && decide ([d].length ≤ 1000)) = true := by
      rw [decide_eq_true (by simp), decide_eq_true (by omega), decide_eq_true (by simp)]
      rfl
    unfold gMulT gMulA
    simp only []
    rw [if_neg a1, if_neg a2, if_pos a3]
    have a4 : (((k + 2 : Nat) : Nat) : Int).toNat = k + 2 := by omega
    rw [a4]
    congr 3
    generalize k + 2 = n
    induction n with
    | zero => rfl
    | succ n ih => simp [List.replicate_succ, ih]
end
end VL

end
section
set_option Elab.async false
set_option linter.all false
set_option maxRecDepth 100000
/-! VM1: what the value functions are at values: for simp. -/
namespace VL
open PySem PySem.Spec PyProof.Rows L2
section
variable {α β : Type} (i j k n : Nat) (ρ : Rho) (S : Sto) (f f' g : Rho → Mo SV) (fs gs : Rho → Mo (List SV)) (b c : Rho → Mo Bool) (s t : Rho → Sto → Option Fl) (op : Sto → SV → SV → Option SV) (o1 : Sto → SV → Option SV) (cm cm' : Sto → SV → SV → Option Bool) (cl : Sto → List SV → Option SV)
@[simp] theorem a_eVar : eVar i ρ S = match ρ[i]? with
  | some (some x) => some (.ok x S)
  | _ => none := rfl
@[simp] theorem a_eVarV : eVarV i ρ S = match ρ[i]? with
  | some (some x) => if noOwn x then some (.ok x S) else none
  | _ => none := rfl
@[simp] theorem a_eCon (d : PyData) : eCon d ρ S = some (.ok (.d d) S) := rfl
@[simp] theorem a_eFn (x : Str) : eFn x ρ S = some (.ok (.fn x) S) := rfl
@[simp] theorem a_eBin : eBin op f f' ρ S = bindM (f ρ S) fun x S1 => bindM (f' ρ S1) fun y S2 => (op S2 x y).map fun z => .ok z S2 := rfl
@[simp] theorem a_eUn : eUn o1 f ρ S = bindM (f ρ S) fun x S1 => (o1 S1 x).map fun z => .ok z S1 := rfl
@[simp] theorem a_aNil : aNil ρ S = some (.ok [] S) := rfl
@[simp] theorem a_aCons : aCons f fs ρ S = bindM (f ρ S) fun x S1 => bindM (fs ρ S1) fun xs S2 => some (.ok (x :: xs) S2) := rfl
@[simp] theorem a_eCal : eCal cl fs ρ S = bindM (fs ρ S) fun xs S1 => (cl S1 xs).map fun z => .ok z S1 := rfl
@[simp] theorem a_eTup : eTup fs ρ S = bindM (fs ρ S) fun xs S1 => if xs.length ≤ sizeLine then (datOs xs).map fun ds => .ok (.d (.tuple ds)) S1 else none := rfl
@[simp] theorem a_eLst : eLst fs ρ S = bindM (fs ρ S) fun xs S1 => if xs.length ≤ sizeLine then some (.ok (.own xs) S1) else none := rfl
@[simp] theorem a_eCall (F : List SV → Mo SV) (bs : List Bool) : eCall n F bs fs ρ S = bindM (fs ρ S) fun xs S1 => if xs.length = n then (cvt bs xs S1).bind fun p => F p.1 p.2 else none := rfl
@[simp] theorem a_eNot : eNot f ρ S = bindM (f ρ S) fun x S1 => match x with
  | .d (.bool b) => some (.ok (.d (.bool !b)) S1)
  | _ => none := rfl
@[simp] theorem a_bVal : bVal f ρ S = bindM (f ρ S) fun x S1 => (truth S1 x).map fun b => .ok b S1 := rfl
@[simp] theorem a_bAnd : bAnd b c ρ S = bindM (b ρ S) fun k S1 => if k then c ρ S1 else some (.ok false S1) := rfl
@[simp] theorem a_bOr : bOr b c ρ S = bindM (b ρ S) fun k S1 => if k then some (.ok true S1) else c ρ S1 := rfl
@[simp] theorem a_bNot : bNot b ρ S = bindM (b ρ S) fun k S1 => some (.ok (!k) S1) := rfl
@[simp] theorem a_bB : bB f ρ S = bindM (f ρ S) fun x S1 => match x with
  | .d (.bool b) => some (.ok b S1)
  | _ => none := rfl
@[simp] theorem a_sNil : sNil ρ S = some (.nx ρ S) := rfl
@[simp] theorem a_sSeq : sSeq s t ρ S = match s ρ S with
  | some (.nx ρ' S') => t ρ' S'
  | r => r := rfl
@[simp] theorem a_sSet : sSet i f ρ S = bindS ρ (f ρ S) fun x S1 => some (.nx (ρ.set i (some x)) S1) := rfl
@[simp] theorem a_sAsg (tf : TgF) : sAsg tf f ρ S = bindS ρ (f ρ S) fun x S1 => (frz x).bind fun y => (tf y ρ).map fun ρ' => .nx ρ' S1 := rfl
@[simp] theorem a_sPar : sPar i j fs ρ S = bindS ρ (fs ρ S) fun xs S1 => match xs with
  | [x, y] => some (.nx ((ρ.set i (some x)).set j (some y)) S1)
  | _ => none := rfl
@[simp] theorem a_sPar3 : sPar3 i j k fs ρ S = bindS ρ (fs ρ S) fun xs S1 => (frzs xs).bind fun ys => match ys with
  | [x, y, z] => some (.nx (((ρ.set i (some x)).set j (some y)).set k (some z)) S1)
  | _ => none := rfl
@[simp] theorem a_sRet : sRet f ρ S = bindS ρ (f ρ S) fun x S1 => some (.rt x S1) := rfl
@[simp] theorem a_sRetV : sRetV i ρ S = match ρ[i]? with
  | some (some x) => some (.rt x S)
  | _ => none := rfl
@[simp] theorem a_sRetN : sRetN ρ S = some (.rt (.d .none) S) := rfl
@[simp] theorem a_sIf : sIf b s t ρ S = bindS ρ (b ρ S) fun k S1 => if k then s ρ S1 else t ρ S1 := rfl
@[simp] theorem a_sRaise (x : Str) : sRaise x ρ S = some (.exc x [] ρ S) := rfl
@[simp] theorem a_sDrop : sDrop f ρ S = bindS ρ (f ρ S) fun _ S1 => some (.nx ρ S1) := rfl
@[simp] theorem a_sFor (it : Rho → Mo (List SV)) (tf : TgF) : sFor it tf s ρ S = bindS ρ (it ρ S) fun xs S1 => forL tf s xs ρ S1 := rfl
end
@[simp] theorem a_gNm (i : Nat) (x : SV) (ρ : Rho) : gNm i x ρ = if noOwn x then some (ρ.set i (some x)) else none := rfl
@[simp] theorem noOwn_d (d : PyData) : noOwn (.d d) = true := rfl
@[simp] theorem noOwn_ref (n : Nat) : noOwn (.ref n) = true := rfl
@[simp] theorem noOwn_fn (x : Str) : noOwn (.fn x) = true := rfl
@[simp] theorem noOwn_scr (ns : List Int) : noOwn (.scr ns) = true := rfl
@[simp] theorem noOwn_own (xs : List SV) : noOwn (.own xs) = false := rfl
@[simp] theorem frz_d (d : PyData) : frz (.d d) = some (.d d) := rfl
@[simp] theorem frz_ref (n : Nat) : frz (.ref n) = some (.ref n) := rfl
@[simp] theorem frz_fn (x : Str) : frz (.fn x) = some (.fn x) := rfl
@[simp] theorem frz_scr (ns : List Int) : frz (.scr ns) = some (.scr ns) := rfl
@[simp] theorem datO_d (d : PyData) : datO (.d d) = some d := by simp [datO]
@[simp] theorem datOs_nil : datOs [] = some [] := by simp [datOs]
@[simp] theorem datOs_cons (x : SV) (xs : List SV) : datOs (x :: xs) = (datO x).bind fun d => (datOs xs).map (d :: ·) := by simp [datOs]
@[simp] theorem frzs_nil : frzs [] = some [] := rfl
@[simp] theorem frzs_cons (x : SV) (xs : List SV) : frzs (x :: xs) = (frz x).bind fun y => (frzs xs).map (y :: ·) := rfl
@[simp] theorem cvt_nil (bs : List Bool) (S : Sto) : cvt bs [] S = some ([], S) := by cases bs <;> rfl
@[simp] theorem cvt_0 (x : SV) (xs : List SV) (S : Sto) : cvt [] (x :: xs) S = (frz x).bind fun y => (cvt [] xs S).map fun p => (y :: p.1, p.2) := rfl
@[simp] theorem cvt_f (bs : List Bool) (x : SV) (xs : List SV) (S : Sto) : cvt (false :: bs) (x :: xs) S = (frz x).bind fun y => (cvt bs xs S).map fun p => (y :: p.1, p.2) := rfl
@[simp] theorem cvt_t (bs : List Bool) (zs xs : List SV) (S : Sto) : cvt (true :: bs) (.own zs :: xs) S = (frzs zs).bind fun ys => (cvt bs xs (S ++ [ys])).map fun p => (.ref S.length :: p.1, p.2) := rfl
section
variable (S : Sto) (i j : Int) (a b : Bool)
@[simp] theorem gAdd_i : gAdd S (.d (.int i)) (.d (.int j)) = some (.d (.int (i + j))) := rfl
@[simp] theorem gSub_i : gSub S (.d (.int i)) (.d (.int j)) = some (.d (.int (i - j))) := rfl
@[simp] theorem gMul_i : gMul S (.d (.int i)) (.d (.int j)) = if mulOk i j then some (.d (.int (i * j))) else none := rfl
@[simp] theorem gMulA_i : gMulA S (.d (.int i)) (.d (.int j)) = if mulOk i j then some (.d (.int (i * j))) else none := rfl
@[simp] theorem gFdiv_i : gFdiv S (.d (.int i)) (.d (.int j)) = if divOk i j then some (.d (.int (i.fdiv j))) else none := rfl
@[simp] theorem gMod_i : gMod S (.d (.int i)) (.d (.int j)) = if j ≠ 0 then some (.d (.int (i.fmod j))) else none := rfl
@[simp] theorem gNeg_i : gNeg S (.d (.int i)) = some (.d (.int (-i))) := rfl
@[simp] theorem gLt_i : gLt S (.d (.int i)) (.d (.int j)) = some (decide (i < j)) := rfl
@[simp] theorem gLe_i : gLe S (.d (.int i)) (.d (.int j)) = some (decide (i ≤ j)) := rfl
@[simp] theorem gGt_i : gGt S (.d (.int i)) (.d (.int j)) = some (decide (j < i)) := rfl
@[simp] theorem gGe_i : gGe S (.d (.int i)) (.d (.int j)) = some (decide (j ≤ i)) := rfl
theorem sh_int : SeqAt.shaped (.int i) = true := by
  unfold SeqAt.shaped PyData.canLay0
  simp [PyData.depth]
@[simp] theorem dat_d (d : PyData) : dat? S (.d d) = some d := rfl
@[simp] theorem gAbs_i : gAbs S [.d (.int i)] = some (.d (.int (if i < 0 then -i else i))) := rfl
@[simp] theorem gMax2_i : gMax2 S [.d (.int i), .d (.int j)] = some (.d (.int (if j > i then j else i))) := rfl
@[simp] theorem gMin2_i : gMin2 S [.d (.int i), .d (.int j)] = some (.d (.int (if j < i then j else i))) := rfl
@[simp] theorem gInt_i : gInt S [.d (.int i)] = some (.d (.int i)) := rfl
@[simp] theorem gInt_b : gInt S [.d (.bool a)] = some (.d (.int (if a then 1 else 0))) := rfl
@[simp] theorem truth_b : truth S (.d (.bool a)) = some a := rfl
@[simp] theorem truth_i : truth S (.d (.int i)) = some (i != 0) := rfl
@[simp] theorem truth_n : truth S (.d .none) = some false := rfl
@[simp] theorem isNone_n : isNone (.d .none) = true := rfl
@[simp] theorem isNone_t (ds : List PyData) : isNone (.d (.tuple ds)) = false := rfl
@[simp] theorem seq_t (ds : List PyData) : seq? S (.d (.tuple ds)) = some (ds.map .d) := rfl
@[simp] theorem seq_l (ds : List PyData) : seq? S (.d (.list ds)) = some (ds.map .d) := rfl
@[simp] theorem seq_s (ns : List Int) : seq? S (.scr ns) = some (ns.map fun n => .d (.int n)) := rfl
@[simp] theorem seq_o (xs : List SV) : seq? S (.own xs) = some xs := rfl
@[simp] theorem seq_r (n : Nat) : seq? S (.ref n) = S[n]? := rfl
@[simp] theorem gIxB_i (x : SV) : gIxB S x (.d (.int i)) = (seq? S x).bind fun xs => atI xs i := rfl
end
end VL

end
section
set_option Elab.async false
set_option linter.all false
set_option maxRecDepth 100000
/-! VM2: equality; loops. -/
namespace VL
open PySem PySem.Spec PyProof.Rows L2
theorem shaped_def (d : PyData) : SeqAt.shaped d = (d.canLay0 && decide (d.depth ≤ 64)) := rfl
/-- plain data: ints and so on, tuples and lists of such -/
@[simp] theorem sh_i (i : Int) : SeqAt.shaped (.int i) = true := by
  rw [shaped_def]; simp [PyData.canLay0, PyData.depth]
@[simp] theorem sh_b (i : Bool) : SeqAt.shaped (.bool i) = true := by
  rw [shaped_def]; simp [PyData.canLay0, PyData.depth]
@[simp] theorem sh_n : SeqAt.shaped .none = true := by
  rw [shaped_def]; simp [PyData.canLay0, PyData.depth]
@[simp] theorem eqv_i (i j : Int) : PyData.eqv (.int i) (.int j) = (i == j) := by simp [PyData.eqv]
@[simp] theorem eqv_b (i j : Bool) : PyData.eqv (.bool i) (.bool j) = (i == j) := by simp [PyData.eqv]
@[simp] theorem gEq_i (S : Sto) (i j : Int) : gEq S (.d (.int i)) (.d (.int j)) = some (i == j) := by simp [gEq]
@[simp] theorem gNe_i (S : Sto) (i j : Int) : gNe S (.d (.int i)) (.d (.int j)) = some (!(i == j)) := by simp [gNe]
/-! ### while -/
theorem whileF_stop {c : Rho → Mo Bool} {b : Rho → Sto → Option Fl} {n : Nat} {ρ : Rho} {S S1 : Sto} (h : c ρ S = some (.ok false S1)) : whileF c b (n + 1) ρ S = some (.nx ρ S1) := by
  unfold whileF; rw [h]; rfl
theorem whileF_go {c : Rho → Mo Bool} {b : Rho → Sto → Option Fl} {n : Nat} {ρ ρ2 : Rho} {S S1 S2 : Sto} (h : c ρ S = some (.ok true S1)) (hb : b ρ S1 = some (.nx ρ2 S2)) : whileF c b (n + 1) ρ S = whileF c b n ρ2 S2 := by
  conv => lhs; unfold whileF
  rw [h]
  simp [hb]
theorem while_stop {c : Rho → Mo Bool} {b : Rho → Sto → Option Fl} {ρ : Rho} {S S1 : Sto} (h : c ρ S = some (.ok false S1)) : sWhile c b ρ S = some (.nx ρ S1) := sWhile_of (n := 1) (whileF_stop h)
theorem while_go {c : Rho → Mo Bool} {b : Rho → Sto → Option Fl} {ρ ρ2 : Rho} {S S1 S2 : Sto} {r : Fl} (h : c ρ S = some (.ok true S1)) (hb : b ρ S1 = some (.nx ρ2 S2)) (q : sWhile c b ρ2 S2 = some r) : sWhile c b ρ S = some r := by
  obtain ⟨n, hn⟩ := sWhile_some q
  exact sWhile_of (n := n + 1) ((whileF_go h hb).trans hn)
end VL

end
section
set_option Elab.async false
set_option linter.all false
set_option maxRecDepth 100000
/-! VM3: for, comprehensions, isinstance, equality of tuples. -/
namespace VL
open PySem PySem.Spec PyProof.Rows L2
/-- a for that leaves the store as it is: it goes on, or hands back at the first hit -/
theorem forL_find {t : TgF} {body : Rho → Sto → Option Fl} {S : Sto} (I : Rho → Prop) (hit : SV → Option SV) : ∀ (xs : List SV), (∀ x ∈ xs, ∀ ρ, I ρ → ∃ ρ', t x ρ = some ρ' ∧ ((∃ v, hit x = some v ∧ body ρ' S = some (.rt v S)) ∨ (hit x = none ∧ ∃ ρ2, I ρ2 ∧ body ρ' S = some (.nx ρ2 S)))) → ∀ ρ, I ρ →
    (∃ v, xs.findSome? hit = some v ∧ forL t body xs ρ S = some (.rt v S)) ∨ (xs.findSome? hit = none ∧ ∃ ρ2, I ρ2 ∧ forL t body xs ρ S = some (.nx ρ2 S))
  | [], _, ρ, h => .inr ⟨rfl, ρ, h, rfl⟩
  | x :: xs, hx, ρ, h => by
    obtain ⟨ρ', ht, q⟩ := hx x List.mem_cons_self ρ h
    rcases q with ⟨v, hv, hb⟩ | ⟨hn, ρ2, h2, hb⟩
    · refine .inl ⟨v, by simp [List.findSome?, hv], ?_⟩
      unfold forL
      simp [ht, hb]
    · rcases forL_find I hit xs (fun y m => hx y (List.mem_cons_of_mem _ m)) ρ2 h2 with ⟨v, hv, hf⟩ | ⟨hv, ρ3, h3, hf⟩
      · refine .inl ⟨v, by simp [List.findSome?, hn, hv], ?_⟩
        unfold forL
        simp [ht, hb, hf]
      · refine .inr ⟨by simp [List.findSome?, hn, hv], ρ3, h3, ?_⟩
        unfold forL
        simp [ht, hb, hf]
/-- a for that goes through, the state changing as told -/
theorem forL_step {t : TgF} {body : Rho → Sto → Option Fl} (I : Nat → Rho → Sto → Prop) (xs : List SV) (h : ∀ (i : Nat) x, xs[i]? = some x → ∀ ρ S, I i ρ S → ∃ ρ', t x ρ = some ρ' ∧ ∃ ρ2 S2, I (i + 1) ρ2 S2 ∧ (body ρ' S = some (.nx ρ2 S2) ∨ body ρ' S = some (.ct ρ2 S2))) : ∀ ρ S, I 0 ρ S → ∃ ρ2 S2, I xs.length ρ2 S2 ∧ forL t body xs ρ S = some (.nx ρ2 S2) := by
  suffices H : ∀ (ys : List SV) (k : Nat), (∀ (i : Nat) x, ys[i]? = some x → xs[k + i]? = some x) → k + ys.length = xs.length → ∀ ρ S, I k ρ S → ∃ ρ2 S2, I xs.length ρ2 S2 ∧ forL t body ys ρ S = some (.nx ρ2 S2) by
    exact H xs 0 (fun i x e => by rwa [Nat.zero_add]) (by omega)
  intro ys
  induction ys with
  | nil => intro k _ hl ρ S hI; exact ⟨ρ, S, by rw [← hl]; exact hI, rfl⟩
  | cons y ys ih =>
    intro k hk hl ρ S hI
    obtain ⟨ρ', ht, ρ2, S2, h2, hb⟩ := h k y (hk 0 y rfl) ρ S hI
    obtain ⟨ρ3, S3, h3, hf⟩ := ih (k + 1) (fun i x e => by have := hk (i + 1) x (by simpa using e); rwa [show k + (i + 1) = k + 1 + i by omega] at this) (by simp at hl; omega) ρ2 S2 h2
    refine ⟨ρ3, S3, h3, ?_⟩
    unfold forL
    rcases hb with hb | hb <;> simp [ht, hb, hf]
theorem compL_ok {tf : TgF} {tst : Rho → Mo Bool} {elt : Rho → Mo SV} {ρ : Rho} {S : Sto} (k : SV → Option SV) : ∀ (xs acc : List SV), (∀ x ∈ xs, ∃ ρ', tf x ρ = some ρ' ∧ ((∃ y, k x = some y ∧ tst ρ' S = some (.ok true S) ∧ elt ρ' S = some (.ok y S)) ∨ (k x = none ∧ tst ρ' S = some (.ok false S)))) → acc.length + xs.length ≤ sizeLine →
    compL tf tst elt ρ xs acc S = some (.ok (acc ++ xs.filterMap k) S)
  | [], acc, _, _ => by simp [compL]
  | x :: xs, acc, h, hl => by
    obtain ⟨ρ', ht, q⟩ := h x List.mem_cons_self
    rw [List.length_cons] at hl
    rcases q with ⟨y, hy, h1, h2⟩ | ⟨hn, h1⟩
    · have ih := compL_ok k xs (acc ++ [y]) (fun z m => h z (List.mem_cons_of_mem _ m)) (by simp; omega)
      unfold compL
      simp only [ht, h1, h2]
      rw [if_pos (by omega), ih]
      simp [List.filterMap_cons, hy]
    · have ih := compL_ok k xs acc (fun z m => h z (List.mem_cons_of_mem _ m)) (by omega)
      unfold compL
      simp only [ht, h1]
      rw [ih]
      simp [List.filterMap_cons, hn]
/-- without a test -/
theorem eLc_map {it : Rho → Mo (List SV)} {tf : TgF} {elt : Rho → Mo SV} {vs : List Nat} {ρ : Rho} {S : Sto} {xs : List SV} (g : SV → SV) (hi : it ρ S = some (.ok xs S)) (h : ∀ x ∈ xs, ∃ ρ', tf x (wipeR ρ vs) = some ρ' ∧ elt ρ' S = some (.ok (g x) S)) (hl : xs.length ≤ sizeLine) :
    eLc it tf bYes elt vs ρ S = some (.ok (.own (xs.map g)) S) := by
  unfold eLc
  rw [hi]
  have := compL_ok (tf := tf) (tst := bYes) (elt := elt) (ρ := wipeR ρ vs) (S := S) (fun x => some (g x)) xs [] (fun x m => by
    obtain ⟨ρ', h1, h2⟩ := h x m
    exact ⟨ρ', h1, .inl ⟨_, rfl, rfl, h2⟩⟩) (by simpa using hl)
  simp only [bindM_ok, this]
  simp
@[simp] theorem a_eIsi1 (f : Rho → Mo SV) (cs : List String) (ρ : Rho) (S : Sto) : eIsi1 f cs ρ S = bindM (f ρ S) fun x S1 => if refOk S1 x then (tyOf x).map fun t => .ok (.d (.bool (cs.any (isB t)))) S1 else none := rfl
@[simp] theorem refOk_d (S : Sto) (d : PyData) : refOk S (.d d) = true := rfl
@[simp] theorem tyOf_n : tyOf (.d .none) = some "NoneType" := rfl
@[simp] theorem tyOf_b (b : Bool) : tyOf (.d (.bool b)) = some "bool" := rfl
@[simp] theorem tyOf_i (i : Int) : tyOf (.d (.int i)) = some "int" := rfl
@[simp] theorem tyOf_s (i : Str) : tyOf (.d (.str i)) = some "str" := rfl
@[simp] theorem tyOf_l (i : List PyData) : tyOf (.d (.list i)) = some "list" := rfl
@[simp] theorem tyOf_t (i : List PyData) : tyOf (.d (.tuple i)) = some "tuple" := rfl
@[simp] theorem tyOf_o (i : List SV) : tyOf (.own i) = some "list" := rfl
@[simp] theorem gLen_t (S : Sto) (ds : List PyData) : gLen S [.d (.tuple ds)] = some (.d (.int ds.length)) := by simp [gLen]
@[simp] theorem gLen_l (S : Sto) (ds : List PyData) : gLen S [.d (.list ds)] = some (.d (.int ds.length)) := by simp [gLen]
@[simp] theorem gLen_o (S : Sto) (ds : List SV) : gLen S [.own ds] = some (.d (.int ds.length)) := by simp [gLen]
@[simp] theorem gLen_s (S : Sto) (ds : List Int) : gLen S [.scr ds] = some (.d (.int ds.length)) := by simp [gLen]
@[simp] theorem isNone_i (i : Int) : isNone (.d (.int i)) = false := rfl
@[simp] theorem a_iSeq (f : Rho → Mo SV) (ρ : Rho) (S : Sto) : iSeq f ρ S = bindM (f ρ S) fun x S1 => if isRef x then none else (seq? S1 x).bind fun xs => if xs.all noOwn then some (.ok xs S1) else none := rfl
@[simp] theorem isRef_d (d : PyData) : isRef (.d d) = false := rfl
@[simp] theorem isRef_o (d : List SV) : isRef (.own d) = false := rfl
@[simp] theorem isRef_s (d : List Int) : isRef (.scr d) = false := rfl
@[simp] theorem a_iRng1 (fs : Rho → Mo (List SV)) (ρ : Rho) (S : Sto) : iRng1 fs ρ S = bindM (fs ρ S) fun xs S1 => match xs with
  | [.d (.int j)] => if inR j then some (.ok (rangeL 0 j.toNat) S1) else none
  | _ => none := rfl
@[simp] theorem a_iRng2 (fs : Rho → Mo (List SV)) (ρ : Rho) (S : Sto) : iRng2 fs ρ S = bindM (fs ρ S) fun xs S1 => match xs with
  | [.d (.int i), .d (.int j)] => if inR i && inR j then some (.ok (rangeL i (j - i).toNat) S1) else none
  | _ => none := rfl
@[simp] theorem allNo_map (ds : List PyData) : (ds.map SV.d).all noOwn = true := by simp [noOwn]
theorem inR_of {i : Int} (h : -1000000 ≤ i ∧ i ≤ 1000000) : inR i = true := by
  unfold inR
  rw [decide_eq_true_eq]
  omega
theorem mem_rangeL {lo : Int} {n : Nat} {x : SV} (h : x ∈ rangeL lo n) : ∃ k : Nat, k < n ∧ x = .d (.int (lo + k)) := by
  unfold rangeL at h
  obtain ⟨k, hk, rfl⟩ := List.mem_map.mp h
  exact ⟨k, List.mem_range.mp hk, rfl⟩
@[simp] theorem rangeL_length (lo : Int) (n : Nat) : (rangeL lo n).length = n := by simp [rangeL]
theorem canTuple (ds : List PyData) : (PyData.tuple ds).canLay0 = PyData.canLayAll0 ds := by simp [PyData.canLay0]
@[simp] theorem sh_p (a b : Int) : SeqAt.shaped (.tuple [.int a, .int b]) = true := by
  rw [shaped_def]; simp [PyData.canLay0, PyData.canLayAll0, PyData.depth, PyData.depthAll]
@[simp] theorem sh_3 (a b c : Int) : SeqAt.shaped (.tuple [.int a, .int b, .int c]) = true := by
  rw [shaped_def]; simp [PyData.canLay0, PyData.canLayAll0, PyData.depth, PyData.depthAll]
@[simp] theorem sh_4 (a b c d : Int) : SeqAt.shaped (.tuple [.int a, .int b, .int c, .int d]) = true := by
  rw [shaped_def]; simp [PyData.canLay0, PyData.canLayAll0, PyData.depth, PyData.depthAll]
@[simp] theorem eqv_p (a b c d : Int) : PyData.eqv (.tuple [.int a, .int b]) (.tuple [.int c, .int d]) = (a == c && b == d) := by simp [PyData.eqv, PyData.eqvAll]
end VL

end
section
set_option Elab.async false
set_option linter.all false
set_option maxRecDepth 100000
set_option maxHeartbeats 0
/-! printed by gen.py for law_k04_pieces_and_changed_webs: each def's value function, and that the def keeps it -/
namespace G
open PySem PySem.Spec PyProof.Rows L2 VL
abbrev prog : Program := PySem.Challenge.pw_currentwebs_k04_pieces_and_changed_webs
def top (i : Nat) : Stmt := prog.main.body.getD i (.Pass ⟨0, 0, 0, 0⟩)
def mt : Str → Str → Option Bool := mtOf [(("BadEnds", "BadEnds"), true), (("BadEnds", "BadWeb"), false), (("BadEnds", "TooFar"), false), (("BadWeb", "BadEnds"), false), (("BadWeb", "BadWeb"), true), (("BadWeb", "TooFar"), false), (("TooFar", "BadEnds"), false), (("TooFar", "BadWeb"), false), (("TooFar", "TooFar"), true)]
section
variable {P : Program} {w : World} {K : PySem.W.Frag} {mg : Str → Option Value} {base : Heap} {f : Addr} {fd : FuncData}
/-! ### common -/
noncomputable def f_common : Rho → Sto → Option Fl :=
  (sSeq
  (sWhile (bB (eBin (cB gNe) (eVar 1) (eCon (.int 0))))
  (sPar 0 1 (aCons (eVarV 1) (aCons (eBin gMod (eVar 0) (eVar 1)) aNil))))
  (sRet (eCal gAbs (aCons (eVar 0) aNil))))
noncomputable def F_common : List SV → Mo SV := runF 2 f_common
theorem sc_common : FnScope ["p", "q"] ["p", "q"] (defScope (top 8)) := ⟨rfl, rfl, rfl, by decide +kernel, rfl, by decide +kernel, by decide +kernel⟩
theorem ok_common (F : VL.FnP K "common" (top 8) f fd) (hm : mg "common" = some (.ref f)) (fr : Fr mg) : DefOk P w K mg base 33 "common" 2 F_common :=
  mk_def (k := 32) (fb := f_common) F hm sc_common (by decide) (fun _ _ _ _ _ _ us hl => match us, hl with | [_, _], _ => rfl) fun cdv A outer s H E hr E0 A0 Pr =>
  (ss_cons (s_while (passes_of rfl) (t_ne (ka := .be) (kb := .be) rfl hr.units (v_var (pv 1)) v_int)
  (ss_one (s_par (i := 0) (j := 1) rfl sc_common.nd rfl rfl (by decide) rfl rfl (a_cons (v_varV (pv 1)) (a_cons (v_mod (ka := .be) (kb := .be) (v_var (pv 0)) (v_var (pv 1))) a_nil)) (by rfl))))
  (ss_one (s_ret (v_calB (ka := .be) call_abs ok_abs rfl fr.abs boot_abs' (a_cons (v_var (pv 0)) a_nil)))))
/-! ### is_integer -/
noncomputable def f_is_integer : Rho → Sto → Option Fl :=
  (sRet (eAnd (eIsi1 (eVar 0) ["int"]) (eAnd (eNot (eIsi1 (eVar 0) ["bool"])) (eChain gLe gLe (eVar 1) (eVar 0) (eVar 2)))))
noncomputable def F_is_integer : List SV → Mo SV := runF 3 f_is_integer
theorem sc_is_integer : FnScope ["value", "low", "high"] ["value", "low", "high"] (defScope (top 12)) := ⟨rfl, rfl, rfl, by decide +kernel, rfl, by decide +kernel, by decide +kernel⟩
theorem ok_is_integer (F : VL.FnP K "is_integer" (top 12) f fd) (hm : mg "is_integer" = some (.ref f)) (fr : Fr mg) : DefOk P w K mg base 33 "is_integer" 3 F_is_integer :=
  mk_def (k := 32) (fb := f_is_integer) F hm sc_is_integer (by decide) (fun _ _ _ _ _ _ us hl => match us, hl with | [_, _, _], _ => rfl) fun cdv A outer s H E hr E0 A0 Pr =>
  (ss_one (s_ret (v_and (ka := .fe) (v_isi (ka := .be) (T := "int") rfl (by decide) rfl fr.isinstance (v_var (pv 0)) rfl fr.int boot_int') (v_and (ka := .fe) (v_not (ka := .be) (v_isi (ka := .be) (T := "bool") rfl (by decide) rfl fr.isinstance (v_var (pv 0)) rfl fr.bool boot_bool')) (v_one (v_chain (ka := .be) (kb := .be) (kc := .be) op_le op_le c_le c_le (v_var (pv 1)) (v_var (pv 0)) (v_var (pv 2))))))))
/-! ### names_of -/
noncomputable def f_names_of : Rho → Sto → Option Fl :=
  (sSeq
  (sSet 2 (eLrg1 (eVar 0)))
  (sSeq
  (sFor (iSeq (eVarV 1)) (gTp 2 (gsCons (gNm 3) (gsCons (gNm 4) gsNil)))
  (sSeq
  (sAsg (gTl 2 (gsCons (gNm 5) (gsCons (gNm 6) gsNil))) (eCal gSorted (aCons (eLst (aCons (eBin gIx (eVar 2) (eVar 3)) (aCons (eBin gIx (eVar 2) (eVar 4)) aNil))) aNil)))
  (sSet 2 (eLc (iSeq (eVar 2)) (gNm 7) bYes (eIf (bB (eBin (cB gEq) (eVar 7) (eVar 6))) (eVarV 5) (eVarV 7)) [7]))))
  (sRetV 2)))
noncomputable def F_names_of : List SV → Mo SV := runF 8 f_names_of
theorem sc_names_of : FnScope ["n", "pairs", "names", "a", "b", "low", "high", "name"] ["n", "pairs"] (defScope (top 19)) := ⟨rfl, rfl, rfl, by decide +kernel, rfl, by decide +kernel, by decide +kernel⟩
theorem ok_names_of (F : VL.FnP K "names_of" (top 19) f fd) (hm : mg "names_of" = some (.ref f)) (fr : Fr mg) : DefOk P w K mg base 33 "names_of" 2 F_names_of :=
  mk_def (k := 32) (fb := f_names_of) F hm sc_names_of (by decide) (fun _ _ _ _ _ _ us hl => match us, hl with | [_, _], _ => rfl) fun cdv A outer s H E hr E0 A0 Pr =>
  (ss_cons (s_set (i := 2) sc_names_of.nd rfl (by first | exact Or.inl rfl | exact Or.inr rfl) (v_lrg1 (ka := .be) rfl rfl rfl fr.list rfl fr.range (v_var (pv 0))))
  (ss_cons (s_for (passes_of rfl) rfl (i_seqF rfl (v_varV (pv 1))) (L2.pg_tup rfl (pgs_cons (pg_name sc_names_of.nd rfl (by first | exact Or.inl rfl | exact Or.inr rfl)) (pgs_cons (pg_name sc_names_of.nd rfl (by first | exact Or.inl rfl | exact Or.inr rfl)) pgs_nil))) (g_tp (gs_cons g_nm (gs_cons g_nm gs_nil)))
  (ss_cons (s_asg (v_calB (ka := .be) (cr_sortD (u66 hr)) ok_sorted rfl fr.sorted boot_sorted' (a_cons (v_lst (a_cons (v_ix (ka := .be) (kb := .be) rfl (v_var (pv 2)) (v_var (pv 3)) (fun _ _ => rfl)) (a_cons (v_ix (ka := .be) (kb := .be) rfl (v_var (pv 2)) (v_var (pv 4)) (fun _ _ => rfl)) a_nil))) a_nil)) (pg_lst rfl (pgs_cons (pg_name sc_names_of.nd rfl (by first | exact Or.inl rfl | exact Or.inr rfl)) (pgs_cons (pg_name sc_names_of.nd rfl (by first | exact Or.inl rfl | exact Or.inr rfl)) pgs_nil))) (g_tl (gs_cons g_nm (gs_cons g_nm gs_nil))))
  (ss_one (s_setLc (own := [("name", 7)]) (i := 2) rfl rfl rfl sc_names_of.nd (i_seq (ka := .be) rfl (v_var (pv 2))) (blk_of (by rfl)) (fun _ _ _ _ _ => (pg_name sc_names_of.nd rfl (by first | exact Or.inl rfl | exact Or.inr rfl))) g_nm (by decide) (fun _ _ _ _ _ => ts_nil) (fun _ _ _ _ _ => (v_if (t_eq (ka := .be) (kb := .be) rfl hr.units (v_var (pv 7)) (v_var (pv 6))) (v_varV (pv 5)) (v_varV (pv 7))))))))
  (ss_one (s_retV (pv 2)))))
/-! ### put_together -/
noncomputable def f_put_together : Rho → Sto → Option Fl :=
  (sSeq
  (sSet 3 (eLst aNil))
  (sSeq
  (sFor (iSeq (eBin gIx (eVar 0) (eCon (.int 2)))) (gTp 3 (gsCons (gNm 4) (gsCons (gNm 5) (gsCons (gNm 6) gsNil))))
  (sSeq
  (sAsg (gTl 2 (gsCons (gNm 7) (gsCons (gNm 8) gsNil))) (eCal gSorted (aCons (eLst (aCons (eBin gIx (eVar 1) (eVar 4)) (aCons (eBin gIx (eVar 1) (eVar 5)) aNil))) aNil)))
  (sIf (bB (eBin (cB gNe) (eVar 7) (eVar 8)))
  (sAppend (lVar 3) (aCons (eTup (aCons (eVarV 7) (aCons (eVarV 8) (aCons (eVarV 6) aNil)))) aNil))
  sNil)))
  (sRet (eTup (aCons (eCon (.str "web")) (aCons (eVarV 2) (aCons (eCal gTuple (aCons (eCal gSorted (aCons (eVar 3) aNil)) aNil)) aNil)))))))
noncomputable def F_put_together : List SV → Mo SV := runF 9 f_put_together
theorem sc_put_together : FnScope ["web", "numbers", "n", "wires", "a", "b", "c", "one", "other"] ["web", "numbers", "n"] (defScope (top 23)) := ⟨rfl, rfl, rfl, by decide +kernel, rfl, by decide +kernel, by decide +kernel⟩
theorem ok_put_together (F : VL.FnP K "put_together" (top 23) f fd) (hm : mg "put_together" = some (.ref f)) (fr : Fr mg) : DefOk P w K mg base 33 "put_together" 3 F_put_together :=
  mk_def (k := 32) (fb := f_put_together) F hm sc_put_together (by decide) (fun _ _ _ _ _ _ us hl => match us, hl with | [_, _, _], _ => rfl) fun cdv A outer s H E hr E0 A0 Pr =>
  (ss_cons (s_set (i := 3) sc_put_together.nd rfl (by first | exact Or.inl rfl | exact Or.inr rfl) (v_lst a_nil))
  (ss_cons (s_for (passes_of rfl) rfl (i_seqF rfl (v_ix (ka := .be) (kb := .be) rfl (v_var (pv 0)) v_int (fun _ _ => rfl))) (L2.pg_tup rfl (pgs_cons (pg_name sc_put_together.nd rfl (by first | exact Or.inl rfl | exact Or.inr rfl)) (pgs_cons (pg_name sc_put_together.nd rfl (by first | exact Or.inl rfl | exact Or.inr rfl)) (pgs_cons (pg_name sc_put_together.nd rfl (by first | exact Or.inl rfl | exact Or.inr rfl)) pgs_nil)))) (g_tp (gs_cons g_nm (gs_cons g_nm (gs_cons g_nm gs_nil))))
  (ss_cons (s_asg (v_calB (ka := .be) (cr_sortD (u66 hr)) ok_sorted rfl fr.sorted boot_sorted' (a_cons (v_lst (a_cons (v_ix (ka := .be) (kb := .be) rfl (v_var (pv 1)) (v_var (pv 4)) (fun _ _ => rfl)) (a_cons (v_ix (ka := .be) (kb := .be) rfl (v_var (pv 1)) (v_var (pv 5)) (fun _ _ => rfl)) a_nil))) a_nil)) (pg_lst rfl (pgs_cons (pg_name sc_put_together.nd rfl (by first | exact Or.inl rfl | exact Or.inr rfl)) (pgs_cons (pg_name sc_put_together.nd rfl (by first | exact Or.inl rfl | exact Or.inr rfl)) pgs_nil))) (g_tl (gs_cons g_nm (gs_cons g_nm gs_nil))))
  (ss_one (s_if (t_ne (ka := .be) (kb := .be) rfl hr.units (v_var (pv 7)) (v_var (pv 8)))
  (ss_one (s_append (l_var (pv 3)) (a_cons (v_tup (a_cons (v_varV (pv 7)) (a_cons (v_varV (pv 8)) (a_cons (v_varV (pv 6)) a_nil)))) a_nil)))
  ss_nil))))
  (ss_one (s_ret (v_tup (a_cons v_str (a_cons (v_varV (pv 2)) (a_cons (v_calT (ka := .be) call_tuple_of ok_tuple rfl fr.tuple boot_tuple' (a_cons (v_calB (ka := .be) (cr_sortD (u66 hr)) ok_sorted rfl fr.sorted boot_sorted' (a_cons (v_var (pv 3)) a_nil)) a_nil)) a_nil))))))))
/-! ### less_wire -/
noncomputable def f_less_wire : Rho → Sto → Option Fl :=
  (sRet (eTup (aCons (eCon (.str "web")) (aCons (eBin gIx (eVar 0) (eCon (.int 1))) (aCons (eBin gAdd (eSl (eBin gIxB (eVar 0) (eCon (.int 2))) pNone (pSome (eVar 1))) (eSl (eBin gIxB (eVar 0) (eCon (.int 2))) (pSome (eBin gAdd (eVar 1) (eCon (.int 1)))) pNone)) aNil)))))
noncomputable def F_less_wire : List SV → Mo SV := runF 2 f_less_wire
theorem sc_less_wire : FnScope ["web", "i"] ["web", "i"] (defScope (top 25)) := ⟨rfl, rfl, rfl, by decide +kernel, rfl, by decide +kernel, by decide +kernel⟩
theorem ok_less_wire (F : VL.FnP K "less_wire" (top 25) f fd) (hm : mg "less_wire" = some (.ref f)) (fr : Fr mg) : DefOk P w K mg base 33 "less_wire" 2 F_less_wire :=
  mk_def (k := 32) (fb := f_less_wire) F hm sc_less_wire (by decide) (fun _ _ _ _ _ _ us hl => match us, hl with | [_, _], _ => rfl) fun cdv A outer s H E hr E0 A0 Pr =>
  (ss_one (s_ret (v_tup (a_cons v_str (a_cons (v_ix (ka := .be) (kb := .be) rfl (v_var (pv 0)) v_int (fun _ _ => rfl)) (a_cons (v_add (hk := rfl) (ka := .be) (kb := .be) (v_sl (ka := .be) rfl (v_ixB (ka := .be) (kb := .be) rfl (v_var (pv 0)) v_int (fun _ _ => rfl)) o_none (o_some (ka := .be) (v_var (pv 1)))) (v_sl (ka := .be) rfl (v_ixB (ka := .be) (kb := .be) rfl (v_var (pv 0)) v_int (fun _ _ => rfl)) (o_some (ka := .be) (v_add (hk := rfl) (ka := .be) (kb := .be) (v_var (pv 1)) v_int)) o_none)) a_nil))))))
/-! ### _law_bag -/
noncomputable def f__law_bag : Rho → Sto → Option Fl :=
  (sSeq
  (sSet 2 (eCon (.int 0)))
  (sSeq
  (sIf (bB (eBin (cB gLt) (eVar 1) (eCal gLen (aCons (eVar 0) aNil))))
  (sSet 2 (eCal gInt (aCons (eBin gIxB (eVar 0) (eVar 1)) aNil)))
  sNil)
  (sRet (eLst (aCons (eCon (.int 0)) (aCons (eBin gAdd (eCon (.int 2069)) (eBin gMulT (eCon (.int 48611)) (eVar 1))) (aCons (eCon (.int 0)) (aCons (eVarV 2) aNil))))))))
noncomputable def F__law_bag : List SV → Mo SV := runF 3 f__law_bag
theorem sc__law_bag : FnScope ["script", "k", "cell"] ["script", "k"] (defScope (top 29)) := ⟨rfl, rfl, rfl, by decide +kernel, rfl, by decide +kernel, by decide +kernel⟩
theorem ok__law_bag (F : VL.FnP K "_law_bag" (top 29) f fd) (hm : mg "_law_bag" = some (.ref f)) (fr : Fr mg) : DefOk P w K mg base 33 "_law_bag" 2 F__law_bag :=
  mk_def (k := 32) (fb := f__law_bag) F hm sc__law_bag (by decide) (fun _ _ _ _ _ _ us hl => match us, hl with | [_, _], _ => rfl) fun cdv A outer s H E hr E0 A0 Pr =>
  (ss_cons (s_set (i := 2) sc__law_bag.nd rfl (by first | exact Or.inl rfl | exact Or.inr rfl) v_int)
  (ss_cons (s_if (t_lt (ka := .be) (kb := .be) rfl hr.units (v_var (pv 1)) (v_calB (ka := .be) call_len ok_len rfl fr.len boot_len' (a_cons (v_var (pv 0)) a_nil)))
  (ss_one (s_set (i := 2) sc__law_bag.nd rfl (by first | exact Or.inl rfl | exact Or.inr rfl) (v_calT (ka := .be) call_int1 ok_int rfl fr.int boot_int' (a_cons (v_ixB (ka := .be) (kb := .be) rfl (v_var (pv 0)) (v_var (pv 1)) (fun _ _ => rfl)) a_nil))))
  ss_nil)
  (ss_one (s_ret (v_lst (a_cons v_int (a_cons (v_add (hk := rfl) (ka := .be) (kb := .be) v_int (v_mulT (hk := rfl) (ka := .be) (kb := .be) v_int (v_var (pv 1)))) (a_cons v_int (a_cons (v_varV (pv 2)) a_nil)))))))))
/-! ### _law_draw -/
noncomputable def f__law_draw : Rho → Sto → Option Fl :=
  (sSeq
  (sIf (bB (eBin (cB gLt) (eVar 1) (eCon (.int 1))))
  (sRet (eCon (.int 0)))
  sNil)
  (sSeq
  (sIf (bB (eBin (cB gEq) (eBin gIxB (eVar 0) (eCon (.int 0))) (eCon (.int 0))))
  (sSeq
  (sStore (lVar 0) (eCon (.int 2)) (eBin gAdd (eBin gIxB (eVar 0) (eCon (.int 2))) (eCon (.int 1))))
  (sSeq
  (sSet 2 (eBin gMod (eCal gInt (aCons (eBin gAdd (eBin gAdd (eBin gAdd (eBin gMulT (eBin gIxB (eVar 0) (eCon (.int 1))) (eCon (.int 48271))) (eBin gMulT (eBin gIxB (eVar 0) (eCon (.int 3))) (eCon (.int 69621)))) (eBin gMulT (eBin gIxB (eVar 0) (eCon (.int 2))) (eCon (.int 16807)))) (eCon (.int 11))) aNil)) (eCon (.int 2147483647))))
  (sSeq
  (sStore (lVar 0) (eCon (.int 0)) (eBin gAdd (eBin gMulT (eVar 2) (eCon (.int 2147483629))) (eBin gMod (eCal gInt (aCons (eBin gAdd (eBin gMulT (eVar 2) (eVar 2)) (eBin gIxB (eVar 0) (eCon (.int 3)))) aNil)) (eCon (.int 2147483629)))))
  (sSeq
  (sIf (bAnd (bB (eBin (cB gEq) (eBin gIxB (eVar 0) (eCon (.int 2))) (eCon (.int 1)))) (bB (eBin (cB gGe) (eBin gIxB (eVar 0) (eCon (.int 3))) (eBin gPow (eCon (.int 10)) (eCon (.int 18))))))
  (sStore (lVar 0) (eCon (.int 0)) (eBin gIx (eVar 0) (eCon (.int 3))))
  sNil)
  (sStore (lVar 0) (eCon (.int 1)) (eVarV 2))))))
  sNil)
  (sSeq
  (sSet 3 (eBin gIx (eVar 0) (eCon (.int 0))))
  (sSeq
  (sStore (lVar 0) (eCon (.int 0)) (eBin gFdivS (eVar 3) (eVar 1)))
  (sRet (eBin gMod (eCal gInt (aCons (eVar 3) aNil)) (eVar 1)))))))
noncomputable def F__law_draw : List SV → Mo SV := runF 4 f__law_draw
theorem sc__law_draw : FnScope ["bag", "many", "seed", "rest"] ["bag", "many"] (defScope (top 30)) := ⟨rfl, rfl, rfl, by decide +kernel, rfl, by decide +kernel, by decide +kernel⟩
theorem ok__law_draw (F : VL.FnP K "_law_draw" (top 30) f fd) (hm : mg "_law_draw" = some (.ref f)) (fr : Fr mg) (sr : SeerP P K) : DefOk P w K mg base 33 "_law_draw" 2 F__law_draw :=
  mk_def (k := 32) (fb := f__law_draw) F hm sc__law_draw (by decide) (fun _ _ _ _ _ _ us hl => match us, hl with | [_, _], _ => rfl) fun cdv A outer s H E hr E0 A0 Pr =>
  (ss_cons (s_if (t_lt (ka := .be) (kb := .be) rfl hr.units (v_var (pv 1)) v_int)
  (ss_one (s_ret v_int))
  ss_nil)
  (ss_cons (s_if (t_eq (ka := .be) (kb := .be) rfl hr.units (v_ixB (ka := .be) (kb := .be) rfl (v_var (pv 0)) v_int (fun _ _ => rfl)) v_int)
  (ss_cons (s_store (kb := .be) (l_var (pv 0)) v_int (v_add (hk := rfl) (ka := .be) (kb := .be) (v_ixB (ka := .be) (kb := .be) rfl (v_var (pv 0)) v_int (fun _ _ => rfl)) v_int))
  (ss_cons (s_set (i := 2) sc__law_draw.nd rfl (by first | exact Or.inl rfl | exact Or.inr rfl) (v_mod (ka := .be) (kb := .be) (v_calT (ka := .be) call_int1 ok_int rfl fr.int boot_int' (a_cons (v_add (hk := rfl) (ka := .be) (kb := .be) (v_add (hk := rfl) (ka := .be) (kb := .be) (v_add (hk := rfl) (ka := .be) (kb := .be) (v_mulT (hk := rfl) (ka := .be) (kb := .be) (v_ixB (ka := .be) (kb := .be) rfl (v_var (pv 0)) v_int (fun _ _ => rfl)) v_int) (v_mulT (hk := rfl) (ka := .be) (kb := .be) (v_ixB (ka := .be) (kb := .be) rfl (v_var (pv 0)) v_int (fun _ _ => rfl)) v_int)) (v_mulT (hk := rfl) (ka := .be) (kb := .be) (v_ixB (ka := .be) (kb := .be) rfl (v_var (pv 0)) v_int (fun _ _ => rfl)) v_int)) v_int) a_nil)) v_int))
  (ss_cons (s_store (kb := .be) (l_var (pv 0)) v_int (v_add (hk := rfl) (ka := .be) (kb := .be) (v_mulT (hk := rfl) (ka := .be) (kb := .be) (v_var (pv 2)) v_int) (v_mod (ka := .be) (kb := .be) (v_calT (ka := .be) call_int1 ok_int rfl fr.int boot_int' (a_cons (v_add (hk := rfl) (ka := .be) (kb := .be) (v_mulT (hk := rfl) (ka := .be) (kb := .be) (v_var (pv 2)) (v_var (pv 2))) (v_ixB (ka := .be) (kb := .be) rfl (v_var (pv 0)) v_int (fun _ _ => rfl))) a_nil)) v_int)))
  (ss_cons (s_if (PW.pt (b_and (t_eq (ka := .be) (kb := .be) rfl hr.units (v_ixB (ka := .be) (kb := .be) rfl (v_var (pv 0)) v_int (fun _ _ => rfl)) v_int) (b_and1 (t_ge (ka := .be) (kb := .be) (v_ixB (ka := .be) (kb := .be) rfl (v_var (pv 0)) v_int (fun _ _ => rfl)) (v_pow (ka := .be) (kb := .be) v_int v_int)))))
  (ss_one (s_store (kb := .be) (l_var (pv 0)) v_int (v_ix (ka := .be) (kb := .be) rfl (v_var (pv 0)) v_int (fun _ _ => rfl))))
  ss_nil)
  (ss_one (s_store (kb := .be) (l_var (pv 0)) v_int (v_varV (pv 2))))))))
  ss_nil)
  (ss_cons (s_set (i := 3) sc__law_draw.nd rfl (by first | exact Or.inl rfl | exact Or.inr rfl) (v_ix (ka := .be) (kb := .be) rfl (v_var (pv 0)) v_int (fun _ _ => rfl)))
  (ss_cons (s_store (kb := .be) (l_var (pv 0)) v_int (v_fdivS (pyroom sr hr (by decide) rfl rfl) (ka := .be) (kb := .be) (v_var (pv 3)) (v_var (pv 1))))
  (ss_one (s_ret (v_mod (ka := .be) (kb := .be) (v_calT (ka := .be) call_int1 ok_int rfl fr.int boot_int' (a_cons (v_var (pv 3)) a_nil)) (v_var (pv 1)))))))))
/-! ### _law_gcd -/
noncomputable def f__law_gcd : Rho → Sto → Option Fl :=
  (sSeq
  (sWhile (bB (eBin (cB gNe) (eVar 1) (eCon (.int 0))))
  (sPar 0 1 (aCons (eVarV 1) (aCons (eBin gSub (eVar 0) (eBin gMulT (eBin gFdivS (eVar 0) (eVar 1)) (eVar 1))) aNil))))
  (sRet (eCal gAbs (aCons (eVar 0) aNil))))
noncomputable def F__law_gcd : List SV → Mo SV := runF 2 f__law_gcd
theorem sc__law_gcd : FnScope ["p", "q"] ["p", "q"] (defScope (top 32)) := ⟨rfl, rfl, rfl, by decide +kernel, rfl, by decide +kernel, by decide +kernel⟩
theorem ok__law_gcd (F : VL.FnP K "_law_gcd" (top 32) f fd) (hm : mg "_law_gcd" = some (.ref f)) (fr : Fr mg) (sr : SeerP P K) : DefOk P w K mg base 33 "_law_gcd" 2 F__law_gcd :=
  mk_def (k := 32) (fb := f__law_gcd) F hm sc__law_gcd (by decide) (fun _ _ _ _ _ _ us hl => match us, hl with | [_, _], _ => rfl) fun cdv A outer s H E hr E0 A0 Pr =>
  (ss_cons (s_while (passes_of rfl) (t_ne (ka := .be) (kb := .be) rfl hr.units (v_var (pv 1)) v_int)
  (ss_one (s_par (i := 0) (j := 1) rfl sc__law_gcd.nd rfl rfl (by decide) rfl rfl (a_cons (v_varV (pv 1)) (a_cons (v_sub (ka := .be) (kb := .be) (v_var (pv 0)) (v_mulT (hk := rfl) (ka := .be) (kb := .be) (v_fdivS (pyroom sr hr (by decide) rfl rfl) (ka := .be) (kb := .be) (v_var (pv 0)) (v_var (pv 1))) (v_var (pv 1)))) a_nil)) (by rfl))))
  (ss_one (s_ret (v_calB (ka := .be) call_abs ok_abs rfl fr.abs boot_abs' (a_cons (v_var (pv 0)) a_nil)))))
/-! ### _law_names -/
noncomputable def f__law_names : Rho → Sto → Option Fl :=
  (sSeq
  (sSet 1 (eLrg1 (eBin gIxB (eVar 0) (eCon (.int 1)))))
  (sSeq
  (sFor (iSeq (eBin gIx (eVar 0) (eCon (.int 2)))) (gTp 3 (gsCons (gNm 2) (gsCons (gNm 3) (gsCons (gNm 4) gsNil))))
  (sSeq
  (sSet 5 (eCal gMin2 (aCons (eBin gIxB (eVar 1) (eVar 2)) (aCons (eBin gIxB (eVar 1) (eVar 3)) aNil))))
  (sSeq
  (sSet 6 (eCal gMax2 (aCons (eBin gIxB (eVar 1) (eVar 2)) (aCons (eBin gIxB (eVar 1) (eVar 3)) aNil))))
  (sSet 1 (eLc (iSeq (eVar 1)) (gNm 7) bYes (eIf (bB (eBin (cB gEq) (eVar 7) (eVar 6))) (eVarV 5) (eVarV 7)) [7])))))
  (sRetV 1)))
noncomputable def F__law_names : List SV → Mo SV := runF 8 f__law_names
theorem sc__law_names : FnScope ["web", "names", "a", "b", "c", "low", "high", "name"] ["web"] (defScope (top 41)) := ⟨rfl, rfl, rfl, by decide +kernel, rfl, by decide +kernel, by decide +kernel⟩
theorem ok__law_names (F : VL.FnP K "_law_names" (top 41) f fd) (hm : mg "_law_names" = some (.ref f)) (fr : Fr mg) : DefOk P w K mg base 33 "_law_names" 1 F__law_names :=
  mk_def (k := 32) (fb := f__law_names) F hm sc__law_names (by decide) (fun _ _ _ _ _ _ us hl => match us, hl with | [_], _ => rfl) fun cdv A outer s H E hr E0 A0 Pr =>
  (ss_cons (s_set (i := 1) sc__law_names.nd rfl (by first | exact Or.inl rfl | exact Or.inr rfl) (v_lrg1 (ka := .be) rfl rfl rfl fr.list rfl fr.range (v_ixB (ka := .be) (kb := .be) rfl (v_var (pv 0)) v_int (fun _ _ => rfl))))
  (ss_cons (s_for (passes_of rfl) rfl (i_seqF rfl (v_ix (ka := .be) (kb := .be) rfl (v_var (pv 0)) v_int (fun _ _ => rfl))) (L2.pg_tup rfl (pgs_cons (pg_name sc__law_names.nd rfl (by first | exact Or.inl rfl | exact Or.inr rfl)) (pgs_cons (pg_name sc__law_names.nd rfl (by first | exact Or.inl rfl | exact Or.inr rfl)) (pgs_cons (pg_name sc__law_names.nd rfl (by first | exact Or.inl rfl | exact Or.inr rfl)) pgs_nil)))) (g_tp (gs_cons g_nm (gs_cons g_nm (gs_cons g_nm gs_nil))))
  (ss_cons (s_set (i := 5) sc__law_names.nd rfl (by first | exact Or.inl rfl | exact Or.inr rfl) (v_calB (ka := .be) (call_min2 rfl) ok_min2 rfl fr.min boot_min' (a_cons (v_ixB (ka := .be) (kb := .be) rfl (v_var (pv 1)) (v_var (pv 2)) (fun _ _ => rfl)) (a_cons (v_ixB (ka := .be) (kb := .be) rfl (v_var (pv 1)) (v_var (pv 3)) (fun _ _ => rfl)) a_nil))))
  (ss_cons (s_set (i := 6) sc__law_names.nd rfl (by first | exact Or.inl rfl | exact Or.inr rfl) (v_calB (ka := .be) (call_max2 rfl) ok_max2 rfl fr.max boot_max' (a_cons (v_ixB (ka := .be) (kb := .be) rfl (v_var (pv 1)) (v_var (pv 2)) (fun _ _ => rfl)) (a_cons (v_ixB (ka := .be) (kb := .be) rfl (v_var (pv 1)) (v_var (pv 3)) (fun _ _ => rfl)) a_nil))))
  (ss_one (s_setLc (own := [("name", 7)]) (i := 1) rfl rfl rfl sc__law_names.nd (i_seq (ka := .be) rfl (v_var (pv 1))) (blk_of (by rfl)) (fun _ _ _ _ _ => (pg_name sc__law_names.nd rfl (by first | exact Or.inl rfl | exact Or.inr rfl))) g_nm (by decide) (fun _ _ _ _ _ => ts_nil) (fun _ _ _ _ _ => (v_if (t_eq (ka := .be) (kb := .be) rfl hr.units (v_var (pv 7)) (v_var (pv 6))) (v_varV (pv 5)) (v_varV (pv 7)))))))))
  (ss_one (s_retV (pv 1)))))
/-! ### _law_joined -/
noncomputable def f__law_joined : Rho → Sto → Option Fl :=
  (sSeq
  (sSet 2 (eLst aNil))
  (sSeq
  (sFor (iSeq (eVarV 1)) (gNm 3)
  (sIf (bB (eBin (cB gNotIn) (eVar 3) (eVar 2)))
  (sAppend (lVar 2) (aCons (eVarV 3) aNil))
  sNil))
  (sSeq
  (sSet 4 (eLst aNil))
  (sSeq
  (sFor (iSeq (eBin gIx (eVar 0) (eCon (.int 2)))) (gTp 3 (gsCons (gNm 5) (gsCons (gNm 6) (gsCons (gNm 7) gsNil))))
  (sSeq
  (sSet 3 (eIdx (eVar 2) (eBin gIxB (eVar 1) (eVar 5))))
  (sSeq
  (sSet 8 (eIdx (eVar 2) (eBin gIxB (eVar 1) (eVar 6))))
  (sIf (bB (eBin (cB gNe) (eVar 3) (eVar 8)))
  (sAppend (lVar 4) (aCons (eTup (aCons (eCal gMin2 (aCons (eVar 3) (aCons (eVar 8) aNil))) (aCons (eCal gMax2 (aCons (eVar 3) (aCons (eVar 8) aNil))) (aCons (eVarV 7) aNil)))) aNil))
  sNil))))
  (sRet (eTup (aCons (eCon (.str "web")) (aCons (eCal gLen (aCons (eVar 2) aNil)) (aCons (eCal gTuple (aCons (eCal gSorted (aCons (eVar 4) aNil)) aNil)) aNil)))))))))
noncomputable def F__law_joined : List SV → Mo SV := runF 9 f__law_joined
theorem sc__law_joined : FnScope ["web", "parting", "order", "one", "wires", "a", "b", "c", "other"] ["web", "parting"] (defScope (top 44)) := ⟨rfl, rfl, rfl, by decide +kernel, rfl, by decide +kernel, by decide +kernel⟩
theorem ok__law_joined (F : VL.FnP K "_law_joined" (top 44) f fd) (hm : mg "_law_joined" = some (.ref f)) (fr : Fr mg) : DefOk P w K mg base 33 "_law_joined" 2 F__law_joined :=
  mk_def (k := 32) (fb := f__law_joined) F hm sc__law_joined (by decide) (fun _ _ _ _ _ _ us hl => match us, hl with | [_, _], _ => rfl) fun cdv A outer s H E hr E0 A0 Pr =>
  (ss_cons (s_set (i := 2) sc__law_joined.nd rfl (by first | exact Or.inl rfl | exact Or.inr rfl) (v_lst a_nil))
  (ss_cons (s_for (passes_of rfl) rfl (i_seqF rfl (v_varV (pv 1))) (pg_name sc__law_joined.nd rfl (by first | exact Or.inl rfl | exact Or.inr rfl)) g_nm
  (ss_one (s_if (t_notIn (ka := .be) (kb := .be) rfl (u65 hr) (v_var (pv 3)) (v_var (pv 2)) (by rfl))
  (ss_one (s_append (l_var (pv 2)) (a_cons (v_varV (pv 3)) a_nil)))
  ss_nil)))
  (ss_cons (s_set (i := 4) sc__law_joined.nd rfl (by first | exact Or.inl rfl | exact Or.inr rfl) (v_lst a_nil))
  (ss_cons (s_for (passes_of rfl) rfl (i_seqF rfl (v_ix (ka := .be) (kb := .be) rfl (v_var (pv 0)) v_int (fun _ _ => rfl))) (L2.pg_tup rfl (pgs_cons (pg_name sc__law_joined.nd rfl (by first | exact Or.inl rfl | exact Or.inr rfl)) (pgs_cons (pg_name sc__law_joined.nd rfl (by first | exact Or.inl rfl | exact Or.inr rfl)) (pgs_cons (pg_name sc__law_joined.nd rfl (by first | exact Or.inl rfl | exact Or.inr rfl)) pgs_nil)))) (g_tp (gs_cons g_nm (gs_cons g_nm (gs_cons g_nm gs_nil))))
  (ss_cons (s_set (i := 3) sc__law_joined.nd rfl (by first | exact Or.inl rfl | exact Or.inr rfl) (v_index (ka := .be) (kb := .be) rfl (u65 hr) (v_var (pv 2)) (v_ixB (ka := .be) (kb := .be) rfl (v_var (pv 1)) (v_var (pv 5)) (fun _ _ => rfl))))
  (ss_cons (s_set (i := 8) sc__law_joined.nd rfl (by first | exact Or.inl rfl | exact Or.inr rfl) (v_index (ka := .be) (kb := .be) rfl (u65 hr) (v_var (pv 2)) (v_ixB (ka := .be) (kb := .be) rfl (v_var (pv 1)) (v_var (pv 6)) (fun _ _ => rfl))))
  (ss_one (s_if (t_ne (ka := .be) (kb := .be) rfl hr.units (v_var (pv 3)) (v_var (pv 8)))
  (ss_one (s_append (l_var (pv 4)) (a_cons (v_tup (a_cons (v_calB (ka := .be) (call_min2 rfl) ok_min2 rfl fr.min boot_min' (a_cons (v_var (pv 3)) (a_cons (v_var (pv 8)) a_nil))) (a_cons (v_calB (ka := .be) (call_max2 rfl) ok_max2 rfl fr.max boot_max' (a_cons (v_var (pv 3)) (a_cons (v_var (pv 8)) a_nil))) (a_cons (v_varV (pv 7)) a_nil)))) a_nil)))
  ss_nil)))))
  (ss_one (s_ret (v_tup (a_cons v_str (a_cons (v_calB (ka := .be) call_len ok_len rfl fr.len boot_len' (a_cons (v_var (pv 2)) a_nil)) (a_cons (v_calT (ka := .be) call_tuple_of ok_tuple rfl fr.tuple boot_tuple' (a_cons (v_calB (ka := .be) (cr_sortD (u66 hr)) ok_sorted rfl fr.sorted boot_sorted' (a_cons (v_var (pv 4)) a_nil)) a_nil)) a_nil))))))))))
/-! ### is_any_fraction -/
noncomputable def f_is_any_fraction : Rho → Sto → Option Fl :=
  (sSeq
  (sIf (bOr (bNot (bVal (eIsi1 (eVar 0) ["tuple"]))) (bB (eBin (cB gNe) (eCal gLen (aCons (eVar 0) aNil)) (eCon (.int 2)))))
  (sRet (eCon (.bool false)))
  sNil)
  (sSeq
  (sAsg (gTp 2 (gsCons (gNm 1) (gsCons (gNm 2) gsNil))) (eVarV 0))
  (sSeq
  (sIf (bOr (bNot (bVal (eIsi1 (eVar 1) ["int"]))) (bOr (bVal (eIsi1 (eVar 1) ["bool"])) (bOr (bNot (bVal (eIsi1 (eVar 2) ["int"]))) (bOr (bVal (eIsi1 (eVar 2) ["bool"])) (bB (eBin (cB gLt) (eVar 2) (eCon (.int 1))))))))
  (sRet (eCon (.bool false)))
  sNil)
  (sRet (eBin (cB gEq) (eCall 2 F_common [] (aCons (eVarV 1) (aCons (eVarV 2) aNil))) (eCon (.int 1)))))))
noncomputable def F_is_any_fraction : List SV → Mo SV := runF 3 f_is_any_fraction
theorem sc_is_any_fraction : FnScope ["value", "p", "q"] ["value"] (defScope (top 9)) := ⟨rfl, rfl, rfl, by decide +kernel, rfl, by decide +kernel, by decide +kernel⟩
theorem ok_is_any_fraction (F : VL.FnP K "is_any_fraction" (top 9) f fd) (hm : mg "is_any_fraction" = some (.ref f)) (fr : Fr mg) (d_common : DefOk P w K mg base 33 "common" 2 F_common) : DefOk P w K mg base 34 "is_any_fraction" 1 F_is_any_fraction :=
  mk_def (k := 33) (fb := f_is_any_fraction) F hm sc_is_any_fraction (by decide) (fun _ _ _ _ _ _ us hl => match us, hl with | [_], _ => rfl) fun cdv A outer s H E hr E0 A0 Pr =>
  (ss_cons (s_if (PW.pt (b_or (b_not (b_val (ka := .be) rfl (v_isi (ka := .be) (T := "tuple") rfl (by decide) rfl fr.isinstance (v_var (pv 0)) rfl fr.tuple boot_tuple'))) (b_or1 (t_ne (ka := .be) (kb := .be) rfl hr.units (v_calB (ka := .be) call_len ok_len rfl fr.len boot_len' (a_cons (v_var (pv 0)) a_nil)) v_int))))
  (ss_one (s_ret v_bl))
  ss_nil)
  (ss_cons (s_asg (v_varV (pv 0)) (L2.pg_tup rfl (pgs_cons (pg_name sc_is_any_fraction.nd rfl (by first | exact Or.inl rfl | exact Or.inr rfl)) (pgs_cons (pg_name sc_is_any_fraction.nd rfl (by first | exact Or.inl rfl | exact Or.inr rfl)) pgs_nil))) (g_tp (gs_cons g_nm (gs_cons g_nm gs_nil))))
  (ss_cons (s_if (PW.pt (b_or (b_not (b_val (ka := .be) rfl (v_isi (ka := .be) (T := "int") rfl (by decide) rfl fr.isinstance (v_var (pv 1)) rfl fr.int boot_int'))) (b_or (b_val (ka := .be) rfl (v_isi (ka := .be) (T := "bool") rfl (by decide) rfl fr.isinstance (v_var (pv 1)) rfl fr.bool boot_bool')) (b_or (b_not (b_val (ka := .be) rfl (v_isi (ka := .be) (T := "int") rfl (by decide) rfl fr.isinstance (v_var (pv 2)) rfl fr.int boot_int'))) (b_or (b_val (ka := .be) rfl (v_isi (ka := .be) (T := "bool") rfl (by decide) rfl fr.isinstance (v_var (pv 2)) rfl fr.bool boot_bool')) (b_or1 (t_lt (ka := .be) (kb := .be) rfl hr.units (v_var (pv 2)) v_int)))))))
  (ss_one (s_ret v_bl))
  ss_nil)
  (ss_one (s_ret (v_eq (ka := .be) (kb := .be) rfl hr.units (v_call (bs := []) (d_common.mono (k := 33) (by decide)) rfl rfl hr rfl (takes_of rfl rfl rfl rfl) (a_cons (v_varV (pv 1)) (a_cons (v_varV (pv 2)) a_nil))) v_int))))))
/-! ### check_wire -/
noncomputable def f_check_wire : Rho → Sto → Option Fl :=
  (sIf (bNot (bVal (eCall 3 F_is_integer [] (aCons (eVarV 1) (aCons (eCon (.int 0)) (aCons (eBin gSub (eCal gLen (aCons (eBin gIxB (eVar 0) (eCon (.int 2))) aNil)) (eCon (.int 1))) aNil))))))
  (sRaise "BadEnds")
  sNil)
noncomputable def F_check_wire : List SV → Mo SV := runF 2 f_check_wire
theorem sc_check_wire : FnScope ["web", "i"] ["web", "i"] (defScope (top 17)) := ⟨rfl, rfl, rfl, by decide +kernel, rfl, by decide +kernel, by decide +kernel⟩
theorem ok_check_wire (F : VL.FnP K "check_wire" (top 17) f fd) (hm : mg "check_wire" = some (.ref f)) (fr : Fr mg) (d_is_integer : DefOk P w K mg base 33 "is_integer" 3 F_is_integer) (e_BadEnds : ExcOk K mg "BadEnds") : DefOk P w K mg base 34 "check_wire" 2 F_check_wire :=
  mk_def (k := 33) (fb := f_check_wire) F hm sc_check_wire (by decide) (fun _ _ _ _ _ _ us hl => match us, hl with | [_, _], _ => rfl) fun cdv A outer s H E hr E0 A0 Pr =>
  (ss_one (s_if (b_not (b_val (ka := .be) rfl (v_call (bs := []) (d_is_integer.mono (k := 33) (by decide)) rfl rfl hr rfl (takes_of rfl rfl rfl rfl) (a_cons (v_varV (pv 1)) (a_cons v_int (a_cons (v_sub (ka := .be) (kb := .be) (v_calB (ka := .be) call_len ok_len rfl fr.len boot_len' (a_cons (v_ixB (ka := .be) (kb := .be) rfl (v_var (pv 0)) v_int (fun _ _ => rfl)) a_nil)) v_int) a_nil))))))
  (ss_one (s_raise rfl e_BadEnds rfl (takes_of rfl rfl rfl rfl) rfl))
  ss_nil))
/-! ### piece_names -/
noncomputable def f_piece_names : Rho → Sto → Option Fl :=
  (sRet (eCall 2 F_names_of [] (aCons (eBin gIx (eVar 0) (eCon (.int 1))) (aCons (eLc (iSeq (eBin gIxB (eVar 0) (eCon (.int 2)))) (gNm 1) bYes (eSl (eVar 1) pNone (pSome (eCon (.int 2)))) [1]) aNil))))
noncomputable def F_piece_names : List SV → Mo SV := runF 2 f_piece_names
theorem sc_piece_names : FnScope ["web", "wire"] ["web"] (defScope (top 20)) := ⟨rfl, rfl, rfl, by decide +kernel, rfl, by decide +kernel, by decide +kernel⟩
theorem ok_piece_names (F : VL.FnP K "piece_names" (top 20) f fd) (hm : mg "piece_names" = some (.ref f)) (fr : Fr mg) (d_names_of : DefOk P w K mg base 33 "names_of" 2 F_names_of) : DefOk P w K mg base 34 "piece_names" 1 F_piece_names :=
  mk_def (k := 33) (fb := f_piece_names) F hm sc_piece_names (by decide) (fun _ _ _ _ _ _ us hl => match us, hl with | [_], _ => rfl) fun cdv A outer s H E hr E0 A0 Pr =>
  (ss_one (s_ret (v_call (bs := []) (d_names_of.mono (k := 33) (by decide)) rfl rfl hr rfl (takes_of rfl rfl rfl rfl) (a_cons (v_ix (ka := .be) (kb := .be) rfl (v_var (pv 0)) v_int (fun _ _ => rfl)) (a_cons (v_lc (own := [("wire", 1)]) rfl sc_piece_names.nd (i_seq (ka := .be) rfl (v_ixB (ka := .be) (kb := .be) rfl (v_var (pv 0)) v_int (fun _ _ => rfl))) (blk_of (by rfl)) (fun _ _ _ _ _ => (pg_name sc_piece_names.nd rfl (by first | exact Or.inl rfl | exact Or.inr rfl))) g_nm (by decide) (fun _ _ _ _ _ => ts_nil) (fun _ _ _ _ _ => (v_sl (ka := .be) rfl (v_var (pv 1)) o_none (o_some (ka := .be) v_int)))) a_nil)))))
/-! ### _law_one -/
noncomputable def f__law_one : Rho → Sto → Option Fl :=
  (sRet (eBin gIx (eVar 1) (eCall 2 F__law_draw [] (aCons (eVarV 0) (aCons (eCal gLen (aCons (eVar 1) aNil)) aNil)))))
noncomputable def F__law_one : List SV → Mo SV := runF 2 f__law_one
theorem sc__law_one : FnScope ["bag", "row"] ["bag", "row"] (defScope (top 31)) := ⟨rfl, rfl, rfl, by decide +kernel, rfl, by decide +kernel, by decide +kernel⟩
theorem ok__law_one (F : VL.FnP K "_law_one" (top 31) f fd) (hm : mg "_law_one" = some (.ref f)) (fr : Fr mg) (d__law_draw : DefOk P w K mg base 33 "_law_draw" 2 F__law_draw) : DefOk P w K mg base 34 "_law_one" 2 F__law_one :=
  mk_def (k := 33) (fb := f__law_one) F hm sc__law_one (by decide) (fun _ _ _ _ _ _ us hl => match us, hl with | [_, _], _ => rfl) fun cdv A outer s H E hr E0 A0 Pr =>
  (ss_one (s_ret (v_ix (ka := .be) (kb := .be) rfl (v_var (pv 1)) (v_call (bs := []) (d__law_draw.mono (k := 33) (by decide)) rfl rfl hr rfl (takes_of rfl rfl rfl rfl) (a_cons (v_varV (pv 0)) (a_cons (v_calB (ka := .be) call_len ok_len rfl fr.len boot_len' (a_cons (v_var (pv 1)) a_nil)) a_nil))) (fun _ _ => rfl))))
/-! ### _law_f -/
noncomputable def f__law_f : Rho → Sto → Option Fl :=
  (sSeq
  (sIf (bB (eBin (cB gLt) (eVar 1) (eCon (.int 0))))
  (sPar 0 1 (aCons (eUn gNeg (eVar 0)) (aCons (eUn gNeg (eVar 1)) aNil)))
  sNil)
  (sSeq
  (sSet 2 (eCall 2 F__law_gcd [] (aCons (eVarV 0) (aCons (eVarV 1) aNil))))
  (sRet (eTup (aCons (eBin gFdivS (eVar 0) (eVar 2)) (aCons (eBin gFdivS (eVar 1) (eVar 2)) aNil))))))
noncomputable def F__law_f : List SV → Mo SV := runF 3 f__law_f
theorem sc__law_f : FnScope ["p", "q", "g"] ["p", "q"] (defScope (top 33)) := ⟨rfl, rfl, rfl, by decide +kernel, rfl, by decide +kernel, by decide +kernel⟩
theorem ok__law_f (F : VL.FnP K "_law_f" (top 33) f fd) (hm : mg "_law_f" = some (.ref f)) (fr : Fr mg) (d__law_gcd : DefOk P w K mg base 33 "_law_gcd" 2 F__law_gcd) (sr : SeerP P K) : DefOk P w K mg base 34 "_law_f" 2 F__law_f :=
  mk_def (k := 33) (fb := f__law_f) F hm sc__law_f (by decide) (fun _ _ _ _ _ _ us hl => match us, hl with | [_, _], _ => rfl) fun cdv A outer s H E hr E0 A0 Pr =>
  (ss_cons (s_if (t_lt (ka := .be) (kb := .be) rfl hr.units (v_var (pv 1)) v_int)
  (ss_one (s_par (i := 0) (j := 1) rfl sc__law_f.nd rfl rfl (by decide) rfl rfl (a_cons (v_neg (ka := .be) (v_var (pv 0))) (a_cons (v_neg (ka := .be) (v_var (pv 1))) a_nil)) (by rfl)))
  ss_nil)
  (ss_cons (s_set (i := 2) sc__law_f.nd rfl (by first | exact Or.inl rfl | exact Or.inr rfl) (v_call (bs := []) (d__law_gcd.mono (k := 33) (by decide)) rfl rfl hr rfl (takes_of rfl rfl rfl rfl) (a_cons (v_varV (pv 0)) (a_cons (v_varV (pv 1)) a_nil))))
  (ss_one (s_ret (v_tup (a_cons (v_fdivS (pyroom sr hr (by decide) rfl rfl) (ka := .be) (kb := .be) (v_var (pv 0)) (v_var (pv 2))) (a_cons (v_fdivS (pyroom sr hr (by decide) rfl rfl) (ka := .be) (kb := .be) (v_var (pv 1)) (v_var (pv 2))) a_nil)))))))
/-! ### is_fraction -/
noncomputable def f_is_fraction : Rho → Sto → Option Fl :=
  (sSeq
  (sIf (bNot (bVal (eCall 1 F_is_any_fraction [] (aCons (eVarV 0) aNil))))
  (sRet (eCon (.bool false)))
  sNil)
  (sRet (eAnd (eBin (cB gLt) (eCal gAbs (aCons (eBin gIxB (eVar 0) (eCon (.int 0))) aNil)) (eCon (.int 100000000000000000000))) (eBin (cB gLt) (eBin gIxB (eVar 0) (eCon (.int 1))) (eCon (.int 100000000000000000000))))))
noncomputable def F_is_fraction : List SV → Mo SV := runF 1 f_is_fraction
theorem sc_is_fraction : FnScope ["value"] ["value"] (defScope (top 13)) := ⟨rfl, rfl, rfl, by decide +kernel, rfl, by decide +kernel, by decide +kernel⟩
theorem ok_is_fraction (F : VL.FnP K "is_fraction" (top 13) f fd) (hm : mg "is_fraction" = some (.ref f)) (fr : Fr mg) (d_is_any_fraction : DefOk P w K mg base 34 "is_any_fraction" 1 F_is_any_fraction) (g_BEYOND : GlobC K mg "BEYOND" (.int 100000000000000000000)) : DefOk P w K mg base 35 "is_fraction" 1 F_is_fraction :=
  mk_def (k := 34) (fb := f_is_fraction) F hm sc_is_fraction (by decide) (fun _ _ _ _ _ _ us hl => match us, hl with | [_], _ => rfl) fun cdv A outer s H E hr E0 A0 Pr =>
  (ss_cons (s_if (b_not (b_val (ka := .be) rfl (v_call (bs := []) (d_is_any_fraction.mono (k := 34) (by decide)) rfl rfl hr rfl (takes_of rfl rfl rfl rfl) (a_cons (v_varV (pv 0)) a_nil))))
  (ss_one (s_ret v_bl))
  ss_nil)
  (ss_one (s_ret (v_and (ka := .fe) (v_lt (ka := .be) (kb := .be) rfl hr.units (v_calB (ka := .be) call_abs ok_abs rfl fr.abs boot_abs' (a_cons (v_ixB (ka := .be) (kb := .be) rfl (v_var (pv 0)) v_int (fun _ _ => rfl)) a_nil)) (v_gc rfl g_BEYOND rfl)) (v_one (v_lt (ka := .be) (kb := .be) rfl hr.units (v_ixB (ka := .be) (kb := .be) rfl (v_var (pv 0)) v_int (fun _ _ => rfl)) (v_gc rfl g_BEYOND rfl)))))))
/-! ### all_pieces -/
noncomputable def f_all_pieces : Rho → Sto → Option Fl :=
  (sSeq
  (sSet 1 eDic0)
  (sSeq
  (sFor (iEnum1 (aCons (eCall 1 F_piece_names [] (aCons (eVarV 0) aNil)) aNil)) (gTp 2 (gsCons (gNm 2) (gsCons (gNm 3) gsNil)))
  (sGrp 1 3 2))
  (sRet (eCal gTuple (aCons (eLc (iSeq (eCal gSortDic (aCons (eVar 1) aNil))) (gNm 3) bYes (eCal gTuple (aCons (eBin gIxDic (eVar 1) (eVar 3)) aNil)) [3]) aNil)))))
noncomputable def F_all_pieces : List SV → Mo SV := runF 4 f_all_pieces
theorem sc_all_pieces : FnScope ["web", "found", "joint", "name"] ["web"] (defScope (top 21)) := ⟨rfl, rfl, rfl, by decide +kernel, rfl, by decide +kernel, by decide +kernel⟩
theorem ok_all_pieces (F : VL.FnP K "all_pieces" (top 21) f fd) (hm : mg "all_pieces" = some (.ref f)) (fr : Fr mg) (d_piece_names : DefOk P w K mg base 34 "piece_names" 1 F_piece_names) : DefOk P w K mg base 35 "all_pieces" 1 F_all_pieces :=
  mk_def (k := 34) (fb := f_all_pieces) F hm sc_all_pieces (by decide) (fun _ _ _ _ _ _ us hl => match us, hl with | [_], _ => rfl) fun cdv A outer s H E hr E0 A0 Pr =>
  (ss_cons (s_set (i := 1) sc_all_pieces.nd rfl (by first | exact Or.inl rfl | exact Or.inr rfl) v_dic0)
  (ss_cons (s_for (passes_of rfl) rfl (i_enumF rfl rfl fr.enumerate (a_cons (v_call (bs := []) (d_piece_names.mono (k := 34) (by decide)) rfl rfl hr rfl (takes_of rfl rfl rfl rfl) (a_cons (v_varV (pv 0)) a_nil)) a_nil)) (L2.pg_tup rfl (pgs_cons (pg_name sc_all_pieces.nd rfl (by first | exact Or.inl rfl | exact Or.inr rfl)) (pgs_cons (pg_name sc_all_pieces.nd rfl (by first | exact Or.inl rfl | exact Or.inr rfl)) pgs_nil))) (g_tp (gs_cons g_nm (gs_cons g_nm gs_nil)))
  (ss_one (s_grp (pv 1) (pv 3) (pa_cons (pv 2) pa_nil) ⟨rfl, rfl, rfl, rfl⟩)))
  (ss_one (s_ret (v_calT (ka := .be) call_tuple_of ok_tuple rfl fr.tuple boot_tuple' (a_cons (v_lc (own := [("name", 3)]) rfl sc_all_pieces.nd (i_seq (ka := .be) rfl (v_calB (ka := .be) (call_sortedDI rfl) ok_sortDic rfl fr.sorted boot_sorted' (a_cons (v_var (pv 1)) a_nil))) (blk_of (by rfl)) (fun _ _ _ _ _ => (pg_name sc_all_pieces.nd rfl (by first | exact Or.inl rfl | exact Or.inr rfl))) g_nm (by decide) (fun _ _ _ _ _ => ts_nil) (fun _ _ _ _ _ => (v_calT (ka := .be) call_tuple_of ok_tuple rfl fr.tuple boot_tuple' (a_cons (v_ixDic (ka := .be) (kb := .be) rfl (u1 hr) (v_var (pv 1)) (v_var (pv 3)) (fun _ _ => rfl)) a_nil)))) a_nil))))))
/-! ### _law_lead -/
noncomputable def f__law_lead : Rho → Sto → Option Fl :=
  (sRet (eCall 2 F__law_f [] (aCons (eBin gAdd (eCon (.int 1)) (eCall 2 F__law_draw [] (aCons (eVarV 0) (aCons (eCon (.int 6)) aNil)))) (aCons (eBin gAdd (eCon (.int 1)) (eCall 2 F__law_draw [] (aCons (eVarV 0) (aCons (eCall 2 F__law_one [] (aCons (eVarV 0) (aCons (eLst (aCons (eCon (.int 1)) (aCons (eCon (.int 4)) aNil))) aNil))) aNil)))) aNil))))
noncomputable def F__law_lead : List SV → Mo SV := runF 1 f__law_lead
theorem sc__law_lead : FnScope ["bag"] ["bag"] (defScope (top 39)) := ⟨rfl, rfl, rfl, by decide +kernel, rfl, by decide +kernel, by decide +kernel⟩
theorem ok__law_lead (F : VL.FnP K "_law_lead" (top 39) f fd) (hm : mg "_law_lead" = some (.ref f)) (fr : Fr mg) (d__law_draw : DefOk P w K mg base 33 "_law_draw" 2 F__law_draw) (d__law_one : DefOk P w K mg base 34 "_law_one" 2 F__law_one) (d__law_f : DefOk P w K mg base 34 "_law_f" 2 F__law_f) : DefOk P w K mg base 35 "_law_lead" 1 F__law_lead :=
  mk_def (k := 34) (fb := f__law_lead) F hm sc__law_lead (by decide) (fun _ _ _ _ _ _ us hl => match us, hl with | [_], _ => rfl) fun cdv A outer s H E hr E0 A0 Pr =>
  (ss_one (s_ret (v_call (bs := []) (d__law_f.mono (k := 34) (by decide)) rfl rfl hr rfl (takes_of rfl rfl rfl rfl) (a_cons (v_add (hk := rfl) (ka := .be) (kb := .be) v_int (v_call (bs := []) (d__law_draw.mono (k := 34) (by decide)) rfl rfl hr rfl (takes_of rfl rfl rfl rfl) (a_cons (v_varV (pv 0)) (a_cons v_int a_nil)))) (a_cons (v_add (hk := rfl) (ka := .be) (kb := .be) v_int (v_call (bs := []) (d__law_draw.mono (k := 34) (by decide)) rfl rfl hr rfl (takes_of rfl rfl rfl rfl) (a_cons (v_varV (pv 0)) (a_cons (v_call (bs := []) (d__law_one.mono (k := 34) (by decide)) rfl rfl hr rfl (takes_of rfl rfl rfl rfl) (a_cons (v_varV (pv 0)) (a_cons (v_lst (a_cons v_int (a_cons v_int a_nil))) a_nil))) a_nil)))) a_nil)))))
/-! ### is_wire -/
noncomputable def f_is_wire : Rho → Sto → Option Fl :=
  (sSeq
  (sIf (bOr (bNot (bVal (eIsi1 (eVar 0) ["tuple"]))) (bB (eBin (cB gNe) (eCal gLen (aCons (eVar 0) aNil)) (eCon (.int 3)))))
  (sRet (eCon (.bool false)))
  sNil)
  (sSeq
  (sIf (bOr (bNot (bVal (eCall 3 F_is_integer [] (aCons (eBin gIx (eVar 0) (eCon (.int 0))) (aCons (eCon (.int 0)) (aCons (eBin gSub (eVar 1) (eCon (.int 1))) aNil)))))) (bNot (bVal (eCall 3 F_is_integer [] (aCons (eBin gIx (eVar 0) (eCon (.int 1))) (aCons (eBin gAdd (eBin gIxB (eVar 0) (eCon (.int 0))) (eCon (.int 1))) (aCons (eBin gSub (eVar 1) (eCon (.int 1))) aNil)))))))
  (sRet (eCon (.bool false)))
  sNil)
  (sRet (eAnd (eCall 1 F_is_fraction [] (aCons (eBin gIx (eVar 0) (eCon (.int 2))) aNil)) (eBin (cB gGt) (eBin gIxB (eBin gIxB (eVar 0) (eCon (.int 2))) (eCon (.int 0))) (eCon (.int 0)))))))
noncomputable def F_is_wire : List SV → Mo SV := runF 2 f_is_wire
theorem sc_is_wire : FnScope ["value", "n"] ["value", "n"] (defScope (top 14)) := ⟨rfl, rfl, rfl, by decide +kernel, rfl, by decide +kernel, by decide +kernel⟩
theorem ok_is_wire (F : VL.FnP K "is_wire" (top 14) f fd) (hm : mg "is_wire" = some (.ref f)) (fr : Fr mg) (d_is_integer : DefOk P w K mg base 33 "is_integer" 3 F_is_integer) (d_is_fraction : DefOk P w K mg base 35 "is_fraction" 1 F_is_fraction) : DefOk P w K mg base 36 "is_wire" 2 F_is_wire :=
  mk_def (k := 35) (fb := f_is_wire) F hm sc_is_wire (by decide) (fun _ _ _ _ _ _ us hl => match us, hl with | [_, _], _ => rfl) fun cdv A outer s H E hr E0 A0 Pr =>
  (ss_cons (s_if (PW.pt (b_or (b_not (b_val (ka := .be) rfl (v_isi (ka := .be) (T := "tuple") rfl (by decide) rfl fr.isinstance (v_var (pv 0)) rfl fr.tuple boot_tuple'))) (b_or1 (t_ne (ka := .be) (kb := .be) rfl hr.units (v_calB (ka := .be) call_len ok_len rfl fr.len boot_len' (a_cons (v_var (pv 0)) a_nil)) v_int))))
  (ss_one (s_ret v_bl))
  ss_nil)
  (ss_cons (s_if (PW.pt (b_or (b_not (b_val (ka := .be) rfl (v_call (bs := []) (d_is_integer.mono (k := 35) (by decide)) rfl rfl hr rfl (takes_of rfl rfl rfl rfl) (a_cons (v_ix (ka := .be) (kb := .be) rfl (v_var (pv 0)) v_int (fun _ _ => rfl)) (a_cons v_int (a_cons (v_sub (ka := .be) (kb := .be) (v_var (pv 1)) v_int) a_nil)))))) (b_or1 (b_not (b_val (ka := .be) rfl (v_call (bs := []) (d_is_integer.mono (k := 35) (by decide)) rfl rfl hr rfl (takes_of rfl rfl rfl rfl) (a_cons (v_ix (ka := .be) (kb := .be) rfl (v_var (pv 0)) v_int (fun _ _ => rfl)) (a_cons (v_add (hk := rfl) (ka := .be) (kb := .be) (v_ixB (ka := .be) (kb := .be) rfl (v_var (pv 0)) v_int (fun _ _ => rfl)) v_int) (a_cons (v_sub (ka := .be) (kb := .be) (v_var (pv 1)) v_int) a_nil)))))))))
  (ss_one (s_ret v_bl))
  ss_nil)
  (ss_one (s_ret (v_and (ka := .fe) (v_call (bs := []) (d_is_fraction.mono (k := 35) (by decide)) rfl rfl hr rfl (takes_of rfl rfl rfl rfl) (a_cons (v_ix (ka := .be) (kb := .be) rfl (v_var (pv 0)) v_int (fun _ _ => rfl)) a_nil)) (v_one (v_gt (ka := .be) (kb := .be) (v_ixB (ka := .be) (kb := .be) rfl (v_ixB (ka := .be) (kb := .be) rfl (v_var (pv 0)) v_int (fun _ _ => rfl)) v_int (fun _ _ => rfl)) v_int)))))))
/-! ### _law_web -/
noncomputable def f__law_web : Rho → Sto → Option Fl :=
  (sSeq
  (sSet 4 (eBin gAdd (eCon (.int 1)) (eCall 2 F__law_draw [] (aCons (eVarV 0) (aCons (eVarV 1) aNil)))))
  (sSeq
  (sSet 5 (eLst aNil))
  (sSeq
  (sIf (bVal (eVar 3))
  (sFor (iRng2 (aCons (eCon (.int 1)) (aCons (eVar 4) aNil))) (gNm 6)
  (sAppend (lVar 5) (aCons (eTup (aCons (eCall 2 F__law_draw [] (aCons (eVarV 0) (aCons (eVarV 6) aNil))) (aCons (eVarV 6) (aCons (eCall 1 F__law_lead [] (aCons (eVarV 0) aNil)) aNil)))) aNil)))
  sNil)
  (sSeq
  (sFor (iRng1 (aCons (eIf (bB (eBin (cB gGt) (eVar 4) (eCon (.int 1)))) (eCall 2 F__law_draw [] (aCons (eVarV 0) (aCons (eVarV 2) aNil))) (eCon (.int 0))) aNil)) (gNm 7)
  (sSeq
  (sSet 8 (eCall 2 F__law_draw [] (aCons (eVarV 0) (aCons (eBin gSub (eVar 4) (eCon (.int 1))) aNil))))
  (sAppend (lVar 5) (aCons (eTup (aCons (eVarV 8) (aCons (eBin gAdd (eBin gAdd (eVar 8) (eCon (.int 1))) (eCall 2 F__law_draw [] (aCons (eVarV 0) (aCons (eBin gSub (eBin gSub (eVar 4) (eCon (.int 1))) (eVar 8)) aNil)))) (aCons (eCall 1 F__law_lead [] (aCons (eVarV 0) aNil)) aNil)))) aNil))))
  (sRet (eTup (aCons (eCon (.str "web")) (aCons (eVarV 4) (aCons (eCal gTuple (aCons (eCal gSorted (aCons (eVar 5) aNil)) aNil)) aNil)))))))))
noncomputable def F__law_web : List SV → Mo SV := runF 9 f__law_web
theorem sc__law_web : FnScope ["bag", "most_joints", "most_wires", "whole", "n", "wires", "joint", "k", "a"] ["bag", "most_joints", "most_wires", "whole"] (defScope (top 40)) := ⟨rfl, rfl, rfl, by decide +kernel, rfl, by decide +kernel, by decide +kernel⟩
theorem ok__law_web (F : VL.FnP K "_law_web" (top 40) f fd) (hm : mg "_law_web" = some (.ref f)) (fr : Fr mg) (d__law_draw : DefOk P w K mg base 33 "_law_draw" 2 F__law_draw) (d__law_lead : DefOk P w K mg base 35 "_law_lead" 1 F__law_lead) : DefOk P w K mg base 36 "_law_web" 4 F__law_web :=
  mk_def (k := 35) (fb := f__law_web) F hm sc__law_web (by decide) (fun _ _ _ _ _ _ us hl => match us, hl with | [_, _, _, _], _ => rfl) fun cdv A outer s H E hr E0 A0 Pr =>
  (ss_cons (s_set (i := 4) sc__law_web.nd rfl (by first | exact Or.inl rfl | exact Or.inr rfl) (v_add (hk := rfl) (ka := .be) (kb := .be) v_int (v_call (bs := []) (d__law_draw.mono (k := 35) (by decide)) rfl rfl hr rfl (takes_of rfl rfl rfl rfl) (a_cons (v_varV (pv 0)) (a_cons (v_varV (pv 1)) a_nil)))))
  (ss_cons (s_set (i := 5) sc__law_web.nd rfl (by first | exact Or.inl rfl | exact Or.inr rfl) (v_lst a_nil))
  (ss_cons (s_if (b_val (ka := .be) rfl (v_var (pv 3)))
  (ss_one (s_for (passes_of rfl) rfl (i_rng2 rfl fr.range (a_cons v_int (a_cons (v_var (pv 4)) a_nil))) (pg_name sc__law_web.nd rfl (by first | exact Or.inl rfl | exact Or.inr rfl)) g_nm
  (ss_one (s_append (l_var (pv 5)) (a_cons (v_tup (a_cons (v_call (bs := []) (d__law_draw.mono (k := 35) (by decide)) rfl rfl hr rfl (takes_of rfl rfl rfl rfl) (a_cons (v_varV (pv 0)) (a_cons (v_varV (pv 6)) a_nil))) (a_cons (v_varV (pv 6)) (a_cons (v_call (bs := []) (d__law_lead.mono (k := 35) (by decide)) rfl rfl hr rfl (takes_of rfl rfl rfl rfl) (a_cons (v_varV (pv 0)) a_nil)) a_nil)))) a_nil)))))
  ss_nil)
  (ss_cons (s_for (passes_of rfl) rfl (i_rng1 rfl fr.range (a_cons (v_if (t_gt (ka := .be) (kb := .be) (v_var (pv 4)) v_int) (v_call (bs := []) (d__law_draw.mono (k := 35) (by decide)) rfl rfl hr rfl (takes_of rfl rfl rfl rfl) (a_cons (v_varV (pv 0)) (a_cons (v_varV (pv 2)) a_nil))) v_int) a_nil)) (pg_name sc__law_web.nd rfl (by first | exact Or.inl rfl | exact Or.inr rfl)) g_nm
  (ss_cons (s_set (i := 8) sc__law_web.nd rfl (by first | exact Or.inl rfl | exact Or.inr rfl) (v_call (bs := []) (d__law_draw.mono (k := 35) (by decide)) rfl rfl hr rfl (takes_of rfl rfl rfl rfl) (a_cons (v_varV (pv 0)) (a_cons (v_sub (ka := .be) (kb := .be) (v_var (pv 4)) v_int) a_nil))))
  (ss_one (s_append (l_var (pv 5)) (a_cons (v_tup (a_cons (v_varV (pv 8)) (a_cons (v_add (hk := rfl) (ka := .be) (kb := .be) (v_add (hk := rfl) (ka := .be) (kb := .be) (v_var (pv 8)) v_int) (v_call (bs := []) (d__law_draw.mono (k := 35) (by decide)) rfl rfl hr rfl (takes_of rfl rfl rfl rfl) (a_cons (v_varV (pv 0)) (a_cons (v_sub (ka := .be) (kb := .be) (v_sub (ka := .be) (kb := .be) (v_var (pv 4)) v_int) (v_var (pv 8))) a_nil)))) (a_cons (v_call (bs := []) (d__law_lead.mono (k := 35) (by decide)) rfl rfl hr rfl (takes_of rfl rfl rfl rfl) (a_cons (v_varV (pv 0)) a_nil)) a_nil)))) a_nil)))))
  (ss_one (s_ret (v_tup (a_cons v_str (a_cons (v_varV (pv 4)) (a_cons (v_calT (ka := .be) call_tuple_of ok_tuple rfl fr.tuple boot_tuple' (a_cons (v_calB (ka := .be) (cr_sortD (u66 hr)) ok_sorted rfl fr.sorted boot_sorted' (a_cons (v_var (pv 5)) a_nil)) a_nil)) a_nil))))))))))
/-! ### is_web -/
noncomputable def f_is_web : Rho → Sto → Option Fl :=
  (sSeq
  (sIf (bOr (bNot (bVal (eIsi1 (eVar 0) ["tuple"]))) (bOr (bB (eBin (cB gNe) (eCal gLen (aCons (eVar 0) aNil)) (eCon (.int 3)))) (bB (eBin (cB gNe) (eBin gIxB (eVar 0) (eCon (.int 0))) (eCon (.str "web"))))))
  (sRet (eCon (.bool false)))
  sNil)
  (sSeq
  (sAsg (gTp 3 (gsCons (gNm 1) (gsCons (gNm 2) (gsCons (gNm 3) gsNil)))) (eVarV 0))
  (sSeq
  (sIf (bOr (bNot (bVal (eCall 3 F_is_integer [] (aCons (eVarV 2) (aCons (eCon (.int 1)) (aCons (eCon (.int 24)) aNil)))))) (bOr (bNot (bVal (eIsi1 (eVar 3) ["tuple"]))) (bB (eBin (cB gGt) (eCal gLen (aCons (eVar 3) aNil)) (eCon (.int 60))))))
  (sRet (eCon (.bool false)))
  sNil)
  (sSeq
  (sIf (bNot (bVal (eCal gAll (aCons (eLc (iSeq (eVar 3)) (gNm 4) bYes (eCall 2 F_is_wire [] (aCons (eVarV 4) (aCons (eVarV 2) aNil))) [4]) aNil))))
  (sRet (eCon (.bool false)))
  sNil)
  (sRet (eCal gAll (aCons (eLc (iZip2 (aCons (eVar 3) (aCons (eSl (eVar 3) (pSome (eCon (.int 1))) pNone) aNil))) (gTp 2 (gsCons (gNm 5) (gsCons (gNm 6) gsNil))) bYes (eBin (cB gLeD) (eVar 5) (eVar 6)) [5, 6]) aNil)))))))
noncomputable def F_is_web : List SV → Mo SV := runF 7 f_is_web
theorem sc_is_web : FnScope ["value", "_", "n", "wires", "wire", "one", "other"] ["value"] (defScope (top 15)) := ⟨rfl, rfl, rfl, by decide +kernel, rfl, by decide +kernel, by decide +kernel⟩
theorem ok_is_web (F : VL.FnP K "is_web" (top 15) f fd) (hm : mg "is_web" = some (.ref f)) (fr : Fr mg) (d_is_integer : DefOk P w K mg base 33 "is_integer" 3 F_is_integer) (d_is_wire : DefOk P w K mg base 36 "is_wire" 2 F_is_wire) (g_MOST_JOINTS : GlobC K mg "MOST_JOINTS" (.int 24)) (g_MOST_WIRES : GlobC K mg "MOST_WIRES" (.int 60)) : DefOk P w K mg base 37 "is_web" 1 F_is_web :=
  mk_def (k := 36) (fb := f_is_web) F hm sc_is_web (by decide) (fun _ _ _ _ _ _ us hl => match us, hl with | [_], _ => rfl) fun cdv A outer s H E hr E0 A0 Pr =>
  (ss_cons (s_if (PW.pt (b_or (b_not (b_val (ka := .be) rfl (v_isi (ka := .be) (T := "tuple") rfl (by decide) rfl fr.isinstance (v_var (pv 0)) rfl fr.tuple boot_tuple'))) (b_or (t_ne (ka := .be) (kb := .be) rfl hr.units (v_calB (ka := .be) call_len ok_len rfl fr.len boot_len' (a_cons (v_var (pv 0)) a_nil)) v_int) (b_or1 (t_ne (ka := .be) (kb := .be) rfl hr.units (v_ixB (ka := .be) (kb := .be) rfl (v_var (pv 0)) v_int (fun _ _ => rfl)) v_str)))))
  (ss_one (s_ret v_bl))
  ss_nil)
  (ss_cons (s_asg (v_varV (pv 0)) (L2.pg_tup rfl (pgs_cons (pg_name sc_is_web.nd rfl (by first | exact Or.inl rfl | exact Or.inr rfl)) (pgs_cons (pg_name sc_is_web.nd rfl (by first | exact Or.inl rfl | exact Or.inr rfl)) (pgs_cons (pg_name sc_is_web.nd rfl (by first | exact Or.inl rfl | exact Or.inr rfl)) pgs_nil)))) (g_tp (gs_cons g_nm (gs_cons g_nm (gs_cons g_nm gs_nil)))))
  (ss_cons (s_if (PW.pt (b_or (b_not (b_val (ka := .be) rfl (v_call (bs := []) (d_is_integer.mono (k := 36) (by decide)) rfl rfl hr rfl (takes_of rfl rfl rfl rfl) (a_cons (v_varV (pv 2)) (a_cons v_int (a_cons (v_gc rfl g_MOST_JOINTS rfl) a_nil)))))) (b_or (b_not (b_val (ka := .be) rfl (v_isi (ka := .be) (T := "tuple") rfl (by decide) rfl fr.isinstance (v_var (pv 3)) rfl fr.tuple boot_tuple'))) (b_or1 (t_gt (ka := .be) (kb := .be) (v_calB (ka := .be) call_len ok_len rfl fr.len boot_len' (a_cons (v_var (pv 3)) a_nil)) (v_gc rfl g_MOST_WIRES rfl))))))
  (ss_one (s_ret v_bl))
  ss_nil)
  (ss_cons (s_if (b_not (b_val (ka := .be) rfl (v_calB (ka := .be) (cr_all rfl) ok_all rfl fr.all boot_all' (a_cons (v_lc (own := [("wire", 4)]) rfl sc_is_web.nd (i_seq (ka := .be) rfl (v_var (pv 3))) (blk_of (by rfl)) (fun _ _ _ _ _ => (pg_name sc_is_web.nd rfl (by first | exact Or.inl rfl | exact Or.inr rfl))) g_nm (by decide) (fun _ _ _ _ _ => ts_nil) (fun _ _ _ _ _ => (v_call (bs := []) (d_is_wire.mono (k := 36) (by decide)) rfl rfl hr rfl VL.takes0 (a_cons (v_varV (pv 4)) (a_cons (v_varV (pv 2)) a_nil))))) a_nil))))
  (ss_one (s_ret v_bl))
  ss_nil)
  (ss_one (s_ret (v_calB (ka := .be) (cr_all rfl) ok_all rfl fr.all boot_all' (a_cons (v_lc (own := [("one", 5), ("other", 6)]) rfl sc_is_web.nd (i_zip rfl rfl fr.zip (a_cons (v_var (pv 3)) (a_cons (v_sl (ka := .be) rfl (v_var (pv 3)) (o_some (ka := .be) v_int) o_none) a_nil))) (blk_of (by rfl)) (fun _ _ _ _ _ => (L2.pg_tup rfl (pgs_cons (pg_name sc_is_web.nd rfl (by first | exact Or.inl rfl | exact Or.inr rfl)) (pgs_cons (pg_name sc_is_web.nd rfl (by first | exact Or.inl rfl | exact Or.inr rfl)) pgs_nil)))) (g_tp (gs_cons g_nm (gs_cons g_nm gs_nil))) (by decide) (fun _ _ _ _ _ => ts_nil) (fun _ _ _ _ _ => (v_leD (ka := .be) (kb := .be) rfl hr.units (v_var (pv 5)) (v_var (pv 6))))) a_nil))))))))
/-! ### check_web -/
noncomputable def f_check_web : Rho → Sto → Option Fl :=
  (sIf (bNot (bVal (eCall 1 F_is_web [] (aCons (eVarV 0) aNil))))
  (sRaise "BadWeb")
  sNil)
noncomputable def F_check_web : List SV → Mo SV := runF 1 f_check_web
theorem sc_check_web : FnScope ["web"] ["web"] (defScope (top 16)) := ⟨rfl, rfl, rfl, by decide +kernel, rfl, by decide +kernel, by decide +kernel⟩
theorem ok_check_web (F : VL.FnP K "check_web" (top 16) f fd) (hm : mg "check_web" = some (.ref f)) (fr : Fr mg) (d_is_web : DefOk P w K mg base 37 "is_web" 1 F_is_web) (e_BadWeb : ExcOk K mg "BadWeb") : DefOk P w K mg base 38 "check_web" 1 F_check_web :=
  mk_def (k := 37) (fb := f_check_web) F hm sc_check_web (by decide) (fun _ _ _ _ _ _ us hl => match us, hl with | [_], _ => rfl) fun cdv A outer s H E hr E0 A0 Pr =>
  (ss_one (s_if (b_not (b_val (ka := .be) rfl (v_call (bs := []) (d_is_web.mono (k := 37) (by decide)) rfl rfl hr rfl (takes_of rfl rfl rfl rfl) (a_cons (v_varV (pv 0)) a_nil))))
  (ss_one (s_raise rfl e_BadWeb rfl (takes_of rfl rfl rfl rfl) rfl))
  ss_nil))
/-! ### pieces -/
noncomputable def f_pieces : Rho → Sto → Option Fl :=
  (sSeq
  (sDrop (eCall 1 F_check_web [] (aCons (eVarV 0) aNil)))
  (sRet (eCall 1 F_all_pieces [] (aCons (eVarV 0) aNil))))
noncomputable def F_pieces : List SV → Mo SV := runF 1 f_pieces
theorem sc_pieces : FnScope ["web"] ["web"] (defScope (top 22)) := ⟨rfl, rfl, rfl, by decide +kernel, rfl, by decide +kernel, by decide +kernel⟩
theorem ok_pieces (F : VL.FnP K "pieces" (top 22) f fd) (hm : mg "pieces" = some (.ref f)) (fr : Fr mg) (d_all_pieces : DefOk P w K mg base 35 "all_pieces" 1 F_all_pieces) (d_check_web : DefOk P w K mg base 38 "check_web" 1 F_check_web) : DefOk P w K mg base 39 "pieces" 1 F_pieces :=
  mk_def (k := 38) (fb := f_pieces) F hm sc_pieces (by decide) (fun _ _ _ _ _ _ us hl => match us, hl with | [_], _ => rfl) fun cdv A outer s H E hr E0 A0 Pr =>
  (ss_cons (s_drop (kd := .be) (v_call (bs := []) (d_check_web.mono (k := 38) (by decide)) rfl rfl hr rfl (takes_of rfl rfl rfl rfl) (a_cons (v_varV (pv 0)) a_nil)))
  (ss_one (s_ret (v_call (bs := []) (d_all_pieces.mono (k := 38) (by decide)) rfl rfl hr rfl (takes_of rfl rfl rfl rfl) (a_cons (v_varV (pv 0)) a_nil)))))
/-! ### joined_web -/
noncomputable def f_joined_web : Rho → Sto → Option Fl :=
  (sSeq
  (sDrop (eCall 1 F_check_web [] (aCons (eVarV 0) aNil)))
  (sSeq
  (sIf (bOr (bNot (bVal (eIsi1 (eVar 1) ["tuple"]))) (bB (eBin (cB gNe) (eCal gLen (aCons (eVar 1) aNil)) (eBin gIxB (eVar 0) (eCon (.int 1))))))
  (sRaise "BadEnds")
  sNil)
  (sSeq
  (sIf (bNot (bVal (eCal gAll (aCons (eLc (iSeq (eVar 1)) (gNm 4) bYes (eAnd (eIsi1 (eVar 4) ["int"]) (eNot (eIsi1 (eVar 4) ["bool"]))) [4]) aNil))))
  (sRaise "BadEnds")
  sNil)
  (sSeq
  (sSet 2 eDic0)
  (sSeq
  (sSetd 2 3 4 (iSeq (eVarV 1)))
  (ghF [3] (sRet (eCall 3 F_put_together [] (aCons (eVarV 0) (aCons (eVarV 3) (aCons (eCal gLenD (aCons (eVar 2) aNil)) aNil)))))))))))
noncomputable def F_joined_web : List SV → Mo SV := runF 5 f_joined_web
theorem sc_joined_web : FnScope ["web", "parting", "names", "numbers", "one"] ["web", "parting"] (defScope (top 24)) := ⟨rfl, rfl, rfl, by decide +kernel, rfl, by decide +kernel, by decide +kernel⟩
theorem ok_joined_web (F : VL.FnP K "joined_web" (top 24) f fd) (hm : mg "joined_web" = some (.ref f)) (fr : Fr mg) (d_put_together : DefOk P w K mg base 33 "put_together" 3 F_put_together) (d_check_web : DefOk P w K mg base 38 "check_web" 1 F_check_web) (e_BadEnds : ExcOk K mg "BadEnds") : DefOk P w K mg base 39 "joined_web" 2 F_joined_web :=
  mk_def (k := 38) (fb := f_joined_web) F hm sc_joined_web (by decide) (fun _ _ _ _ _ _ us hl => match us, hl with | [_, _], _ => rfl) fun cdv A outer s H E hr E0 A0 Pr =>
  (ss_cons (s_drop (kd := .be) (v_call (bs := []) (d_check_web.mono (k := 38) (by decide)) rfl rfl hr rfl (takes_of rfl rfl rfl rfl) (a_cons (v_varV (pv 0)) a_nil)))
  (ss_cons (s_if (PW.pt (b_or (b_not (b_val (ka := .be) rfl (v_isi (ka := .be) (T := "tuple") rfl (by decide) rfl fr.isinstance (v_var (pv 1)) rfl fr.tuple boot_tuple'))) (b_or1 (t_ne (ka := .be) (kb := .be) rfl hr.units (v_calB (ka := .be) call_len ok_len rfl fr.len boot_len' (a_cons (v_var (pv 1)) a_nil)) (v_ixB (ka := .be) (kb := .be) rfl (v_var (pv 0)) v_int (fun _ _ => rfl))))))
  (ss_one (s_raise rfl e_BadEnds rfl (takes_of rfl rfl rfl rfl) rfl))
  ss_nil)
  (ss_cons (s_if (b_not (b_val (ka := .be) rfl (v_calB (ka := .be) (cr_all rfl) ok_all rfl fr.all boot_all' (a_cons (v_lc (own := [("one", 4)]) rfl sc_joined_web.nd (i_seq (ka := .be) rfl (v_var (pv 1))) (blk_of (by rfl)) (fun _ _ _ _ _ => (pg_name sc_joined_web.nd rfl (by first | exact Or.inl rfl | exact Or.inr rfl))) g_nm (by decide) (fun _ _ _ _ _ => ts_nil) (fun _ _ _ _ _ => (v_and (ka := .fe) (v_isi (ka := .be) (T := "int") rfl (by decide) rfl fr.isinstance (v_var (pv 4)) rfl fr.int boot_int') (v_one (v_not (ka := .be) (v_isi (ka := .be) (T := "bool") rfl (by decide) rfl fr.isinstance (v_var (pv 4)) rfl fr.bool boot_bool')))))) a_nil))))
  (ss_one (s_raise rfl e_BadEnds rfl (takes_of rfl rfl rfl rfl) rfl))
  ss_nil)
  (ss_cons (s_set (i := 2) sc_joined_web.nd rfl (by first | exact Or.inl rfl | exact Or.inr rfl) v_dic0)
  (ss_cons (s_setd (i := 2) (m := 3) (v := 4) (own := [("one", 4)]) (by decide) rfl rfl rfl rfl sc_joined_web.nd (i_seqF rfl (v_varV (pv 1))) (blk_of (by rfl)) (fun _ _ _ _ _ => (pg_name sc_joined_web.nd rfl (by first | exact Or.inl rfl | exact Or.inr rfl))) (fun _ _ _ _ _ => pv 2) (fun _ _ _ _ _ => pv 4) (fun _ _ _ _ _ => pe_callB call_lenD rfl fr.len boot_len' (pa_cons (pv 2) pa_nil)) (fun _ _ _ _ _ => ⟨rfl, rfl, rfl, rfl⟩))
  (ss_one (s_ghF [3] (s_ret (v_call (bs := []) (d_put_together.mono (k := 38) (by decide)) rfl rfl hr rfl (takes_of rfl rfl rfl rfl) (a_cons (v_varV (pv 0)) (a_cons (v_varV (pv 3)) (a_cons (v_calB (ka := .be) call_lenD ok_lenD rfl fr.len boot_len' (a_cons (v_var (pv 2)) a_nil)) a_nil))))))))))))
/-! ### without -/
noncomputable def f_without : Rho → Sto → Option Fl :=
  (sSeq
  (sDrop (eCall 1 F_check_web [] (aCons (eVarV 0) aNil)))
  (sSeq
  (sDrop (eCall 2 F_check_wire [] (aCons (eVarV 0) (aCons (eVarV 1) aNil))))
  (sRet (eCall 2 F_less_wire [] (aCons (eVarV 0) (aCons (eVarV 1) aNil))))))
noncomputable def F_without : List SV → Mo SV := runF 2 f_without
theorem sc_without : FnScope ["web", "i"] ["web", "i"] (defScope (top 26)) := ⟨rfl, rfl, rfl, by decide +kernel, rfl, by decide +kernel, by decide +kernel⟩
theorem ok_without (F : VL.FnP K "without" (top 26) f fd) (hm : mg "without" = some (.ref f)) (fr : Fr mg) (d_less_wire : DefOk P w K mg base 33 "less_wire" 2 F_less_wire) (d_check_wire : DefOk P w K mg base 34 "check_wire" 2 F_check_wire) (d_check_web : DefOk P w K mg base 38 "check_web" 1 F_check_web) : DefOk P w K mg base 39 "without" 2 F_without :=
  mk_def (k := 38) (fb := f_without) F hm sc_without (by decide) (fun _ _ _ _ _ _ us hl => match us, hl with | [_, _], _ => rfl) fun cdv A outer s H E hr E0 A0 Pr =>
  (ss_cons (s_drop (kd := .be) (v_call (bs := []) (d_check_web.mono (k := 38) (by decide)) rfl rfl hr rfl (takes_of rfl rfl rfl rfl) (a_cons (v_varV (pv 0)) a_nil)))
  (ss_cons (s_drop (kd := .be) (v_call (bs := []) (d_check_wire.mono (k := 38) (by decide)) rfl rfl hr rfl (takes_of rfl rfl rfl rfl) (a_cons (v_varV (pv 0)) (a_cons (v_varV (pv 1)) a_nil))))
  (ss_one (s_ret (v_call (bs := []) (d_less_wire.mono (k := 38) (by decide)) rfl rfl hr rfl (takes_of rfl rfl rfl rfl) (a_cons (v_varV (pv 0)) (a_cons (v_varV (pv 1)) a_nil)))))))
/-! ### with_wire -/
noncomputable def f_with_wire : Rho → Sto → Option Fl :=
  (sSeq
  (sDrop (eCall 1 F_check_web [] (aCons (eVarV 0) aNil)))
  (sSeq
  (sIf (bNot (bVal (eCall 2 F_is_wire [] (aCons (eVarV 1) (aCons (eBin gIx (eVar 0) (eCon (.int 1))) aNil)))))
  (sRaise "BadEnds")
  sNil)
  (sSeq
  (sIf (bB (eBin (cB gEq) (eCal gLen (aCons (eBin gIxB (eVar 0) (eCon (.int 2))) aNil)) (eCon (.int 60))))
  (sRaise "TooFar")
  sNil)
  (sRet (eTup (aCons (eCon (.str "web")) (aCons (eBin gIx (eVar 0) (eCon (.int 1))) (aCons (eCal gTuple (aCons (eCal gSortedT (aCons (eBin gAdd (eBin gIxB (eVar 0) (eCon (.int 2))) (eTup (aCons (eVarV 1) aNil))) aNil)) aNil)) aNil))))))))
noncomputable def F_with_wire : List SV → Mo SV := runF 2 f_with_wire
theorem sc_with_wire : FnScope ["web", "wire"] ["web", "wire"] (defScope (top 27)) := ⟨rfl, rfl, rfl, by decide +kernel, rfl, by decide +kernel, by decide +kernel⟩
theorem ok_with_wire (F : VL.FnP K "with_wire" (top 27) f fd) (hm : mg "with_wire" = some (.ref f)) (fr : Fr mg) (d_is_wire : DefOk P w K mg base 36 "is_wire" 2 F_is_wire) (d_check_web : DefOk P w K mg base 38 "check_web" 1 F_check_web) (g_MOST_WIRES : GlobC K mg "MOST_WIRES" (.int 60)) (e_BadEnds : ExcOk K mg "BadEnds") (e_TooFar : ExcOk K mg "TooFar") : DefOk P w K mg base 39 "with_wire" 2 F_with_wire :=
  mk_def (k := 38) (fb := f_with_wire) F hm sc_with_wire (by decide) (fun _ _ _ _ _ _ us hl => match us, hl with | [_, _], _ => rfl) fun cdv A outer s H E hr E0 A0 Pr =>
  (ss_cons (s_drop (kd := .be) (v_call (bs := []) (d_check_web.mono (k := 38) (by decide)) rfl rfl hr rfl (takes_of rfl rfl rfl rfl) (a_cons (v_varV (pv 0)) a_nil)))
  (ss_cons (s_if (b_not (b_val (ka := .be) rfl (v_call (bs := []) (d_is_wire.mono (k := 38) (by decide)) rfl rfl hr rfl (takes_of rfl rfl rfl rfl) (a_cons (v_varV (pv 1)) (a_cons (v_ix (ka := .be) (kb := .be) rfl (v_var (pv 0)) v_int (fun _ _ => rfl)) a_nil)))))
  (ss_one (s_raise rfl e_BadEnds rfl (takes_of rfl rfl rfl rfl) rfl))
  ss_nil)
  (ss_cons (s_if (t_eq (ka := .be) (kb := .be) rfl hr.units (v_calB (ka := .be) call_len ok_len rfl fr.len boot_len' (a_cons (v_ixB (ka := .be) (kb := .be) rfl (v_var (pv 0)) v_int (fun _ _ => rfl)) a_nil)) (v_gc rfl g_MOST_WIRES rfl))
  (ss_one (s_raise rfl e_TooFar rfl (takes_of rfl rfl rfl rfl) rfl))
  ss_nil)
  (ss_one (s_ret (v_tup (a_cons v_str (a_cons (v_ix (ka := .be) (kb := .be) rfl (v_var (pv 0)) v_int (fun _ _ => rfl)) (a_cons (v_calT (ka := .be) call_tuple_of ok_tuple rfl fr.tuple boot_tuple' (a_cons (v_calB (ka := .be) (cr_sortDT (u66 hr)) ok_sortedT rfl fr.sorted boot_sorted' (a_cons (v_add (hk := rfl) (ka := .be) (kb := .be) (v_ixB (ka := .be) (kb := .be) rfl (v_var (pv 0)) v_int (fun _ _ => rfl)) (v_tup (a_cons (v_varV (pv 1)) a_nil))) a_nil)) a_nil)) a_nil)))))))))
/-! ### _law_told -/
noncomputable def f__law_told : Rho → Sto → Option Fl :=
  (sTryM mt [("BadWeb", (sRet (eCon (.str "web")))),
  ("BadEnds", (sRet (eCon (.str "ends")))),
  ("TooFar", (sRet (eCon (.str "far"))))]
  (sRet (eCallL 0 2 [("with_wire", F_with_wire), ("joined_web", F_joined_web), ("without", F_without)] [] (aCons (eVarV 1) (aCons (eVarV 2) aNil)))))
noncomputable def F__law_told : List SV → Mo SV := runF 3 f__law_told
theorem sc__law_told : FnScope ["call", "web", "value"] ["call", "web", "value"] (defScope (top 43)) := ⟨rfl, rfl, rfl, by decide +kernel, rfl, by decide +kernel, by decide +kernel⟩
theorem ok__law_told (F : VL.FnP K "_law_told" (top 43) f fd) (hm : mg "_law_told" = some (.ref f)) (fr : Fr mg) (d_joined_web : DefOk P w K mg base 39 "joined_web" 2 F_joined_web) (d_without : DefOk P w K mg base 39 "without" 2 F_without) (d_with_wire : DefOk P w K mg base 39 "with_wire" 2 F_with_wire) (e_BadEnds : ExcOk K mg "BadEnds") (e_BadWeb : ExcOk K mg "BadWeb") (e_TooFar : ExcOk K mg "TooFar") (hmt : MtOk K mg mt) : DefOk P w K mg base 40 "_law_told" 3 F__law_told :=
  mk_def (k := 39) (fb := f__law_told) F hm sc__law_told (by decide) (fun _ _ _ _ _ _ us hl => match us, hl with | [_, _, _], _ => rfl) fun cdv A outer s H E hr E0 A0 Pr =>
  (ss_one (s_tryM rfl hmt (HdM.cons e_BadWeb rfl (fun a oe pn => (ss_one (s_ret v_str))) (HdM.cons e_BadEnds rfl (fun a oe pn => (ss_one (s_ret v_str))) (HdM.cons e_TooFar rfl (fun a oe pn => (ss_one (s_ret v_str))) HdM.nil))) rfl rfl (takes_of rfl rfl rfl rfl) (fun W pn xe tk' hp' => (ss_one (s_ret (v_callL (i := 0) (hd_cons (d_with_wire.mono (k := 39) (by decide)) (hd_cons (d_joined_web.mono (k := 39) (by decide)) (hd_cons (d_without.mono (k := 39) (by decide)) hd_nil))) rfl rfl hr rfl (by first | exact Or.inl rfl | exact Or.inr (Or.inl rfl) | exact Or.inr (Or.inr rfl)) tk' (a_cons (v_varV (pv 1)) (a_cons (v_varV (pv 2)) a_nil))))))))
/-! ### _law_same -/
noncomputable def f__law_same (FF : List SV → Mo SV) : Rho → Sto → Option Fl :=
  (sSeq
  (sIf (bVal (eIsi1 (eVar 0) ["tuple"]))
  (sRet (eAnd (eIsi1 (eVar 1) ["tuple"]) (eAnd (eBin (cB gEq) (eCal gLen (aCons (eVar 0) aNil)) (eCal gLen (aCons (eVar 1) aNil))) (eBin (cB gNotIn) (eCon (.bool false)) (eLc (iRng1 (aCons (eCal gLen (aCons (eVar 0) aNil)) aNil)) (gNm 2) bYes (eCall 2 FF [] (aCons (eBin gIx (eVar 0) (eVar 2)) (aCons (eBin gIx (eVar 1) (eVar 2)) aNil))) [2])))))
  sNil)
  (sSeq
  (sIf (bB (eBin (cB gIsN) (eVar 0) (eCon (.none))))
  (sRet (eBin (cB gIsN) (eVar 1) (eCon (.none))))
  sNil)
  (sSeq
  (sIf (bVal (eIsi1 (eVar 0) ["str"]))
  (sRet (eAnd (eIsi1 (eVar 1) ["str"]) (eBin (cB gEq) (eVar 0) (eVar 1))))
  sNil)
  (sRet (eAnd (eIsi1 (eVar 1) ["int"]) (eAnd (eNot (eIsi1 (eVar 1) ["bool"])) (eBin (cB gEq) (eVar 0) (eVar 1))))))))
noncomputable def R__law_same : Nat → List SV → Mo SV
  | 0 => runF 3 fun _ _ => none
  | n + 1 => runF 3 (f__law_same (R__law_same n))
noncomputable def F__law_same : List SV → Mo SV := R__law_same 8
theorem sc__law_same : FnScope ["one", "other", "k"] ["one", "other"] (defScope (top 42)) := ⟨rfl, rfl, rfl, by decide +kernel, rfl, by decide +kernel, by decide +kernel⟩
theorem okn__law_same (F : VL.FnP K "_law_same" (top 42) f fd) (hm : mg "_law_same" = some (.ref f)) (fr : Fr mg) : ∀ n, DefOk P w K mg base (33 + n) "_law_same" 2 (R__law_same n)
  | 0 => mk_def0 (k := 32) F hm sc__law_same (by decide) (fun _ _ _ _ _ _ us hl => match us, hl with | [_, _], _ => rfl)
  | n + 1 => by
    have d__law_same := okn__law_same F hm fr n
    exact mk_def (k := 33 + n) (fb := f__law_same (R__law_same n)) F hm sc__law_same (by decide) (fun _ _ _ _ _ _ us hl => match us, hl with | [_, _], _ => rfl) fun cdv A outer s H E hr E0 A0 Pr =>
  (ss_cons (s_if (b_val (ka := .be) rfl (v_isi (ka := .be) (T := "tuple") rfl (by decide) rfl fr.isinstance (v_var (pv 0)) rfl fr.tuple boot_tuple'))
  (ss_one (s_ret (v_and (ka := .fe) (v_isi (ka := .be) (T := "tuple") rfl (by decide) rfl fr.isinstance (v_var (pv 1)) rfl fr.tuple boot_tuple') (v_and (ka := .fe) (v_eq (ka := .be) (kb := .be) rfl hr.units (v_calB (ka := .be) call_len ok_len rfl fr.len boot_len' (a_cons (v_var (pv 0)) a_nil)) (v_calB (ka := .be) call_len ok_len rfl fr.len boot_len' (a_cons (v_var (pv 1)) a_nil))) (v_one (v_notIn (ka := .be) (kb := .be) rfl (u65 hr) v_bl (v_lc (own := [("k", 2)]) rfl sc__law_same.nd (i_rng1 rfl fr.range (a_cons (v_calB (ka := .be) call_len ok_len rfl fr.len boot_len' (a_cons (v_var (pv 0)) a_nil)) a_nil)) (blk_of (by rfl)) (fun _ _ _ _ _ => (pg_name sc__law_same.nd rfl (by first | exact Or.inl rfl | exact Or.inr rfl))) g_nm (by decide) (fun _ _ _ _ _ => ts_nil) (fun _ _ _ _ _ => (v_call (bs := []) d__law_same rfl rfl hr rfl VL.takes0 (a_cons (v_ix (ka := .be) (kb := .be) rfl (v_var (pv 0)) (v_var (pv 2)) (fun _ _ => rfl)) (a_cons (v_ix (ka := .be) (kb := .be) rfl (v_var (pv 1)) (v_var (pv 2)) (fun _ _ => rfl)) a_nil))))) (by rfl)))))))
  ss_nil)
  (ss_cons (s_if (t_isN (ka := .be) (kb := .be) (v_var (pv 0)) v_non)
  (ss_one (s_ret (v_isN (ka := .be) (kb := .be) (v_var (pv 1)) v_non)))
  ss_nil)
  (ss_cons (s_if (b_val (ka := .be) rfl (v_isi (ka := .be) (T := "str") rfl (by decide) rfl fr.isinstance (v_var (pv 0)) rfl fr.str boot_str'))
  (ss_one (s_ret (v_and (ka := .fe) (v_isi (ka := .be) (T := "str") rfl (by decide) rfl fr.isinstance (v_var (pv 1)) rfl fr.str boot_str') (v_one (v_eq (ka := .be) (kb := .be) rfl hr.units (v_var (pv 0)) (v_var (pv 1)))))))
  ss_nil)
  (ss_one (s_ret (v_and (ka := .fe) (v_isi (ka := .be) (T := "int") rfl (by decide) rfl fr.isinstance (v_var (pv 1)) rfl fr.int boot_int') (v_and (ka := .fe) (v_not (ka := .be) (v_isi (ka := .be) (T := "bool") rfl (by decide) rfl fr.isinstance (v_var (pv 1)) rfl fr.bool boot_bool')) (v_one (v_eq (ka := .be) (kb := .be) rfl hr.units (v_var (pv 0)) (v_var (pv 1)))))))))))
theorem ok__law_same (F : VL.FnP K "_law_same" (top 42) f fd) (hm : mg "_law_same" = some (.ref f)) (fr : Fr mg) : DefOk P w K mg base 41 "_law_same" 2 F__law_same := okn__law_same F hm fr 8
/-! ### law -/
noncomputable def f_law : Rho → Sto → Option Fl :=
  (sSeq
  (sFor (iRng1 (aCons (eCal gMax2 (aCons (eCon (.int 1)) (aCons (eCal gMin2 (aCons (eCon (.int 8)) (aCons (eCal gLen (aCons (eVar 0) aNil)) aNil))) aNil))) aNil)) (gNm 1)
  (sSeq
  (sSet 2 (eCall 2 F__law_bag [] (aCons (eVarV 0) (aCons (eVarV 1) aNil))))
  (ghA 2
  (sSeq
  (sSet 3 (eCall 4 F__law_web [] (aCons (eVarV 2) (aCons (eCon (.int 12)) (aCons (eCon (.int 12)) (aCons (eBin (cB gEq) (eCall 2 F__law_draw [] (aCons (eVarV 2) (aCons (eCon (.int 2)) aNil))) (eCon (.int 0))) aNil))))))
  (sSeq
  (sSet 4 (eCall 1 F__law_names [] (aCons (eVarV 3) aNil)))
  (sSeq
  (sSet 5 (eLc (iRng1 (aCons (eBin gIxB (eVar 3) (eCon (.int 1))) aNil)) (gNm 12) (bB (eBin (cB gIn) (eVar 12) (eVar 4))) (eCal gTuple (aCons (eLc (iRng1 (aCons (eBin gIxB (eVar 3) (eCon (.int 1))) aNil)) (gNm 13) (bB (eBin (cB gEq) (eBin gIxB (eVar 4) (eVar 13)) (eVar 12))) (eVarV 13) [13]) aNil)) [12]))
  (sSeq
  (sIf (bNot (bVal (eCall 2 F__law_same [] (aCons (eCal gTuple (aCons (eVar 5) aNil)) (aCons (eCall 1 F_pieces [] (aCons (eVarV 3) aNil)) aNil)))))
  (sRet (eCon (.bool false)))
  sNil)
  (sSeq
  (sSet 6 (eCal gTuple (aCons (eLc (iRng1 (aCons (eBin gIxB (eVar 3) (eCon (.int 1))) aNil)) (gNm 13) bYes (eBin gSub (eCall 2 F__law_draw [] (aCons (eVarV 2) (aCons (eCon (.int 5)) aNil))) (eCon (.int 2))) [13]) aNil)))
  (sSeq
  (sIf (bNot (bVal (eCall 2 F__law_same [] (aCons (eCall 2 F__law_joined [] (aCons (eVarV 3) (aCons (eVarV 6) aNil))) (aCons (eCall 3 F__law_told [] (aCons (eFn "joined_web") (aCons (eVarV 3) (aCons (eVarV 6) aNil)))) aNil)))))
  (sRet (eCon (.bool false)))
  sNil)
  (sSeq
  (sFor (iSeq (eLst (aCons (eBin gAdd (eVar 6) (eTup (aCons (eCon (.int 0)) aNil))) (aCons (eSl (eVar 6) pNone (pSome (eUn gNeg (eCon (.int 1))))) (aCons (eFrz (eCal gList (aCons (eVar 6) aNil))) (aCons (eCon (.none)) (aCons (eBin gMulT (eTup (aCons (eCon (.bool true)) aNil)) (eBin gIxB (eVar 3) (eCon (.int 1)))) (aCons (eBin gMulT (eTup (aCons (eCon (.str "x")) aNil)) (eBin gIxB (eVar 3) (eCon (.int 1)))) aNil)))))))) (gNm 7)
  (sIf (bB (eBin (cB gNe) (eCall 3 F__law_told [] (aCons (eFn "joined_web") (aCons (eVarV 3) (aCons (eVarV 7) aNil)))) (eCon (.str "ends"))))
  (sRet (eCon (.bool false)))
  sNil))
  (sSeq
  (sSet 8 (eCall 2 F__law_draw [] (aCons (eVarV 2) (aCons (eBin gAdd (eCal gLen (aCons (eBin gIxB (eVar 3) (eCon (.int 2))) aNil)) (eCon (.int 1))) aNil))))
  (sSeq
  (sIf (bB (eBin (cB gNe) (eCall 3 F__law_told [] (aCons (eFn "without") (aCons (eVarV 3) (aCons (eVarV 8) aNil)))) (eIf (bB (eBin (cB gLt) (eVar 8) (eCal gLen (aCons (eBin gIxB (eVar 3) (eCon (.int 2))) aNil)))) (eTup (aCons (eCon (.str "web")) (aCons (eBin gIx (eVar 3) (eCon (.int 1))) (aCons (eBin gAdd (eSl (eBin gIxB (eVar 3) (eCon (.int 2))) pNone (pSome (eVar 8))) (eSl (eBin gIxB (eVar 3) (eCon (.int 2))) (pSome (eBin gAdd (eVar 8) (eCon (.int 1)))) pNone)) aNil)))) (eCon (.str "ends")))))
  (sRet (eCon (.bool false)))
  sNil)
  (sSeq
  (sIf (bB (eBin (cB gGt) (eBin gIxB (eVar 3) (eCon (.int 1))) (eCon (.int 1))))
  (sSeq
  (sSet 9 (eCall 2 F__law_draw [] (aCons (eVarV 2) (aCons (eBin gSub (eBin gIxB (eVar 3) (eCon (.int 1))) (eCon (.int 1))) aNil))))
  (sSeq
  (sSet 10 (eTup (aCons (eVarV 9) (aCons (eBin gAdd (eBin gAdd (eVar 9) (eCon (.int 1))) (eCall 2 F__law_draw [] (aCons (eVarV 2) (aCons (eBin gSub (eBin gSub (eBin gIxB (eVar 3) (eCon (.int 1))) (eCon (.int 1))) (eVar 9)) aNil)))) (aCons (eCall 1 F__law_lead [] (aCons (eVarV 2) aNil)) aNil)))))
  (sSeq
  (sIf (bNot (bVal (eCall 2 F__law_same [] (aCons (eTup (aCons (eCon (.str "web")) (aCons (eBin gIx (eVar 3) (eCon (.int 1))) (aCons (eCal gTuple (aCons (eCal gSortedT (aCons (eBin gAdd (eBin gIxB (eVar 3) (eCon (.int 2))) (eTup (aCons (eVarV 10) aNil))) aNil)) aNil)) aNil)))) (aCons (eCall 3 F__law_told [] (aCons (eFn "with_wire") (aCons (eVarV 3) (aCons (eVarV 10) aNil)))) aNil)))))
  (sRet (eCon (.bool false)))
  sNil)
  (sSeq
  (sSet 11 (eTup (aCons (eCon (.str "web")) (aCons (eCon (.int 2)) (aCons (eBin gMulT (eTup (aCons (eTup (aCons (eCon (.int 0)) (aCons (eCon (.int 1)) (aCons (eTup (aCons (eCon (.int 1)) (aCons (eCon (.int 1)) aNil))) aNil)))) aNil)) (eCon (.int 60))) aNil)))))
  (sIf (bB (eBin (cB gNe) (eCall 3 F__law_told [] (aCons (eFn "with_wire") (aCons (eVarV 11) (aCons (eTup (aCons (eCon (.int 0)) (aCons (eCon (.int 1)) (aCons (eTup (aCons (eCon (.int 1)) (aCons (eCon (.int 1)) aNil))) aNil)))) aNil)))) (eCon (.str "far"))))
  (sRet (eCon (.bool false)))
  sNil)))))
  sNil)
  (sSeq
  (sFor (iSeq (eLst (aCons (eTup (aCons (eCon (.int 0)) (aCons (eBin gIx (eVar 3) (eCon (.int 1))) (aCons (eTup (aCons (eCon (.int 1)) (aCons (eCon (.int 1)) aNil))) aNil)))) (aCons (eTup (aCons (eCon (.int 0)) (aCons (eCon (.int 0)) (aCons (eTup (aCons (eCon (.int 1)) (aCons (eCon (.int 1)) aNil))) aNil)))) (aCons (eTup (aCons (eCon (.int 0)) (aCons (eCon (.int 1)) (aCons (eTup (aCons (eCon (.int 0)) (aCons (eCon (.int 1)) aNil))) aNil)))) (aCons (eTup (aCons (eCon (.int 1)) (aCons (eCon (.int 0)) (aCons (eTup (aCons (eCon (.int 1)) (aCons (eCon (.int 1)) aNil))) aNil)))) (aCons (eCon (.none)) aNil))))))) (gNm 7)
  (sIf (bB (eBin (cB gNe) (eCall 3 F__law_told [] (aCons (eFn "with_wire") (aCons (eVarV 3) (aCons (eVarV 7) aNil)))) (eCon (.str "ends"))))
  (sRet (eCon (.bool false)))
  sNil))
  (sIf (bOr (bB (eBin (cB gNe) (eCall 3 F__law_told [] (aCons (eFn "without") (aCons (eVarV 3) (aCons (eUn gNeg (eCon (.int 1))) aNil)))) (eCon (.str "ends")))) (bOr (bB (eBin (cB gNe) (eCall 3 F__law_told [] (aCons (eFn "joined_web") (aCons (eCon (.none)) (aCons (eTup aNil) aNil)))) (eCon (.str "web")))) (bB (eBin (cB gNe) (eCall 3 F__law_told [] (aCons (eFn "without") (aCons (eVarV 3) (aCons (eCon (.bool true)) aNil)))) (eCon (.str "ends"))))))
  (sRet (eCon (.bool false)))
  sNil)))))))))))))))
  (sRet (eCon (.bool true))))
noncomputable def F_law : List SV → Mo SV := runF 14 f_law
theorem sc_law : FnScope ["script", "k", "bag", "web", "names", "due", "parting", "odd", "i", "a", "wire", "full", "name", "joint"] ["script"] (defScope (top 45)) := ⟨rfl, rfl, rfl, by decide +kernel, rfl, by decide +kernel, by decide +kernel⟩
theorem ok_law0 (F : VL.FnP K "law" (top 45) f fd) (fr : Fr mg) (d__law_bag : DefOk P w K mg base 33 "_law_bag" 2 F__law_bag) (d__law_draw : DefOk P w K mg base 33 "_law_draw" 2 F__law_draw) (d__law_names : DefOk P w K mg base 33 "_law_names" 1 F__law_names) (d__law_joined : DefOk P w K mg base 33 "_law_joined" 2 F__law_joined) (d__law_lead : DefOk P w K mg base 35 "_law_lead" 1 F__law_lead) (d__law_web : DefOk P w K mg base 36 "_law_web" 4 F__law_web) (d_pieces : DefOk P w K mg base 39 "pieces" 1 F_pieces) (d_joined_web : DefOk P w K mg base 39 "joined_web" 2 F_joined_web) (d_without : DefOk P w K mg base 39 "without" 2 F_without) (d_with_wire : DefOk P w K mg base 39 "with_wire" 2 F_with_wire) (d__law_told : DefOk P w K mg base 40 "_law_told" 3 F__law_told) (d__law_same : DefOk P w K mg base 41 "_law_same" 2 F__law_same) : FnOk P w K mg base (L2.CX P w) 42 f fd ["script"] (spF K mg (List.length ["script"]) (runF (List.length ["script", "k", "bag", "web", "names", "due", "parting", "odd", "i", "a", "wire", "full", "name", "joint"]) f_law)) :=
  fn_vl2 (k := 41) (fb := f_law) (N := ["script", "k", "bag", "web", "names", "due", "parting", "odd", "i", "a", "wire", "full", "name", "joint"]) (ps := ["script"]) F sc_law (by decide) fun cdv A outer s H E hr E0 A0 Pr =>
  (ss_cons (s_for (passes_of rfl) rfl (i_rng1 rfl fr.range (a_cons (v_calB (ka := .be) (call_max2 rfl) ok_max2 rfl fr.max boot_max' (a_cons v_int (a_cons (v_calB (ka := .be) (call_min2 rfl) ok_min2 rfl fr.min boot_min' (a_cons v_int (a_cons (v_calB (ka := .be) call_len ok_len rfl fr.len boot_len' (a_cons (v_var (pv 0)) a_nil)) a_nil))) a_nil))) a_nil)) (pg_name sc_law.nd rfl (by first | exact Or.inl rfl | exact Or.inr rfl)) g_nm
  (ss_cons (s_set (i := 2) sc_law.nd rfl (by first | exact Or.inl rfl | exact Or.inr rfl) (v_call (bs := []) (d__law_bag.mono (k := 41) (by decide)) rfl rfl hr rfl (takes_of rfl rfl rfl rfl) (a_cons (v_varV (pv 0)) (a_cons (v_varV (pv 1)) a_nil))))
  (ss_ghA (i := 2) (ss_cons (s_set (i := 3) sc_law.nd rfl (by first | exact Or.inl rfl | exact Or.inr rfl) (v_call (bs := []) (d__law_web.mono (k := 41) (by decide)) rfl rfl hr rfl (takes_of rfl rfl rfl rfl) (a_cons (v_varV (pv 2)) (a_cons v_int (a_cons v_int (a_cons (v_eq (ka := .be) (kb := .be) rfl hr.units (v_call (bs := []) (d__law_draw.mono (k := 41) (by decide)) rfl rfl hr rfl (takes_of rfl rfl rfl rfl) (a_cons (v_varV (pv 2)) (a_cons v_int a_nil))) v_int) a_nil))))))
  (ss_cons (s_set (i := 4) sc_law.nd rfl (by first | exact Or.inl rfl | exact Or.inr rfl) (v_call (bs := []) (d__law_names.mono (k := 41) (by decide)) rfl rfl hr rfl (takes_of rfl rfl rfl rfl) (a_cons (v_varV (pv 3)) a_nil)))
  (ss_cons (s_setLc (own := [("name", 12)]) (i := 5) rfl rfl rfl sc_law.nd (i_rng1 rfl fr.range (a_cons (v_ixB (ka := .be) (kb := .be) rfl (v_var (pv 3)) v_int (fun _ _ => rfl)) a_nil)) (blk_of (by rfl)) (fun _ _ _ _ _ => (pg_name sc_law.nd rfl (by first | exact Or.inl rfl | exact Or.inr rfl))) g_nm (by decide) (fun _ _ _ _ _ => (ts_one (t_in (ka := .be) (kb := .be) rfl (u65 hr) (v_var (pv 12)) (v_var (pv 4)) (by rfl)))) (fun _ _ _ _ _ => (v_calT (ka := .be) call_tuple_of ok_tuple rfl fr.tuple boot_tuple' (a_cons (v_lc (own := [("joint", 13)]) rfl sc_law.nd (i_rng1 rfl fr.range (a_cons (v_ixB (ka := .be) (kb := .be) rfl (v_var (pv 3)) v_int (fun _ _ => rfl)) a_nil)) (blk_of (by rfl)) (fun _ _ _ _ _ => (pg_name sc_law.nd rfl (by first | exact Or.inl rfl | exact Or.inr rfl))) g_nm (by decide) (fun _ _ _ _ _ => (ts_one (t_eq (ka := .be) (kb := .be) rfl hr.units (v_ixB (ka := .be) (kb := .be) rfl (v_var (pv 4)) (v_var (pv 13)) (fun _ _ => rfl)) (v_var (pv 12))))) (fun _ _ _ _ _ => (v_varV (pv 13)))) a_nil))))
  (ss_cons (s_if (b_not (b_val (ka := .be) rfl (v_call (bs := []) (d__law_same.mono (k := 41) (by decide)) rfl rfl hr rfl (takes_of rfl rfl rfl rfl) (a_cons (v_calT (ka := .be) call_tuple_of ok_tuple rfl fr.tuple boot_tuple' (a_cons (v_var (pv 5)) a_nil)) (a_cons (v_call (bs := []) (d_pieces.mono (k := 41) (by decide)) rfl rfl hr rfl (takes_of rfl rfl rfl rfl) (a_cons (v_varV (pv 3)) a_nil)) a_nil)))))
  (ss_one (s_ret v_bl))
  ss_nil)
  (ss_cons (s_set (i := 6) sc_law.nd rfl (by first | exact Or.inl rfl | exact Or.inr rfl) (v_calT (ka := .be) call_tuple_of ok_tuple rfl fr.tuple boot_tuple' (a_cons (v_lc (own := [("joint", 13)]) rfl sc_law.nd (i_rng1 rfl fr.range (a_cons (v_ixB (ka := .be) (kb := .be) rfl (v_var (pv 3)) v_int (fun _ _ => rfl)) a_nil)) (blk_of (by rfl)) (fun _ _ _ _ _ => (pg_name sc_law.nd rfl (by first | exact Or.inl rfl | exact Or.inr rfl))) g_nm (by decide) (fun _ _ _ _ _ => ts_nil) (fun _ _ _ _ _ => (v_sub (ka := .be) (kb := .be) (v_call (bs := []) (d__law_draw.mono (k := 41) (by decide)) rfl rfl hr rfl VL.takes0 (a_cons (v_varV (pv 2)) (a_cons v_int a_nil))) v_int))) a_nil)))
  (ss_cons (s_if (b_not (b_val (ka := .be) rfl (v_call (bs := []) (d__law_same.mono (k := 41) (by decide)) rfl rfl hr rfl (takes_of rfl rfl rfl rfl) (a_cons (v_call (bs := []) (d__law_joined.mono (k := 41) (by decide)) rfl rfl hr rfl (takes_of rfl rfl rfl rfl) (a_cons (v_varV (pv 3)) (a_cons (v_varV (pv 6)) a_nil))) (a_cons (v_call (bs := []) (d__law_told.mono (k := 41) (by decide)) rfl rfl hr rfl (takes_of rfl rfl rfl rfl) (a_cons (v_fnD rfl d_joined_web rfl) (a_cons (v_varV (pv 3)) (a_cons (v_varV (pv 6)) a_nil)))) a_nil)))))
  (ss_one (s_ret v_bl))
  ss_nil)
  (ss_cons (s_for (passes_of rfl) rfl (i_seqF rfl (v_lst (a_cons (v_add (hk := rfl) (ka := .be) (kb := .be) (v_var (pv 6)) (v_tup (a_cons v_int a_nil))) (a_cons (v_sl (ka := .be) rfl (v_var (pv 6)) o_none (o_some (ka := .be) (v_neg (ka := .be) v_int))) (a_cons (v_frz (v_calT (ka := .be) call_list_of ok_list rfl fr.list boot_list' (a_cons (v_var (pv 6)) a_nil))) (a_cons v_non (a_cons (v_mulT (hk := rfl) (ka := .be) (kb := .be) (v_tup (a_cons v_bl a_nil)) (v_ixB (ka := .be) (kb := .be) rfl (v_var (pv 3)) v_int (fun _ _ => rfl))) (a_cons (v_mulT (hk := rfl) (ka := .be) (kb := .be) (v_tup (a_cons v_str a_nil)) (v_ixB (ka := .be) (kb := .be) rfl (v_var (pv 3)) v_int (fun _ _ => rfl))) a_nil)))))))) (pg_name sc_law.nd rfl (by first | exact Or.inl rfl | exact Or.inr rfl)) g_nm
  (ss_one (s_if (t_ne (ka := .be) (kb := .be) rfl hr.units (v_call (bs := []) (d__law_told.mono (k := 41) (by decide)) rfl rfl hr rfl (takes_of rfl rfl rfl rfl) (a_cons (v_fnD rfl d_joined_web rfl) (a_cons (v_varV (pv 3)) (a_cons (v_varV (pv 7)) a_nil)))) v_str)
  (ss_one (s_ret v_bl))
  ss_nil)))
  (ss_cons (s_set (i := 8) sc_law.nd rfl (by first | exact Or.inl rfl | exact Or.inr rfl) (v_call (bs := []) (d__law_draw.mono (k := 41) (by decide)) rfl rfl hr rfl (takes_of rfl rfl rfl rfl) (a_cons (v_varV (pv 2)) (a_cons (v_add (hk := rfl) (ka := .be) (kb := .be) (v_calB (ka := .be) call_len ok_len rfl fr.len boot_len' (a_cons (v_ixB (ka := .be) (kb := .be) rfl (v_var (pv 3)) v_int (fun _ _ => rfl)) a_nil)) v_int) a_nil))))
  (ss_cons (s_if (t_ne (ka := .be) (kb := .be) rfl hr.units (v_call (bs := []) (d__law_told.mono (k := 41) (by decide)) rfl rfl hr rfl (takes_of rfl rfl rfl rfl) (a_cons (v_fnD rfl d_without rfl) (a_cons (v_varV (pv 3)) (a_cons (v_varV (pv 8)) a_nil)))) (v_if (t_lt (ka := .be) (kb := .be) rfl hr.units (v_var (pv 8)) (v_calB (ka := .be) call_len ok_len rfl fr.len boot_len' (a_cons (v_ixB (ka := .be) (kb := .be) rfl (v_var (pv 3)) v_int (fun _ _ => rfl)) a_nil))) (v_tup (a_cons v_str (a_cons (v_ix (ka := .be) (kb := .be) rfl (v_var (pv 3)) v_int (fun _ _ => rfl)) (a_cons (v_add (hk := rfl) (ka := .be) (kb := .be) (v_sl (ka := .be) rfl (v_ixB (ka := .be) (kb := .be) rfl (v_var (pv 3)) v_int (fun _ _ => rfl)) o_none (o_some (ka := .be) (v_var (pv 8)))) (v_sl (ka := .be) rfl (v_ixB (ka := .be) (kb := .be) rfl (v_var (pv 3)) v_int (fun _ _ => rfl)) (o_some (ka := .be) (v_add (hk := rfl) (ka := .be) (kb := .be) (v_var (pv 8)) v_int)) o_none)) a_nil)))) v_str))
  (ss_one (s_ret v_bl))
  ss_nil)
  (ss_cons (s_if (t_gt (ka := .be) (kb := .be) (v_ixB (ka := .be) (kb := .be) rfl (v_var (pv 3)) v_int (fun _ _ => rfl)) v_int)
  (ss_cons (s_set (i := 9) sc_law.nd rfl (by first | exact Or.inl rfl | exact Or.inr rfl) (v_call (bs := []) (d__law_draw.mono (k := 41) (by decide)) rfl rfl hr rfl (takes_of rfl rfl rfl rfl) (a_cons (v_varV (pv 2)) (a_cons (v_sub (ka := .be) (kb := .be) (v_ixB (ka := .be) (kb := .be) rfl (v_var (pv 3)) v_int (fun _ _ => rfl)) v_int) a_nil))))
  (ss_cons (s_set (i := 10) sc_law.nd rfl (by first | exact Or.inl rfl | exact Or.inr rfl) (v_tup (a_cons (v_varV (pv 9)) (a_cons (v_add (hk := rfl) (ka := .be) (kb := .be) (v_add (hk := rfl) (ka := .be) (kb := .be) (v_var (pv 9)) v_int) (v_call (bs := []) (d__law_draw.mono (k := 41) (by decide)) rfl rfl hr rfl (takes_of rfl rfl rfl rfl) (a_cons (v_varV (pv 2)) (a_cons (v_sub (ka := .be) (kb := .be) (v_sub (ka := .be) (kb := .be) (v_ixB (ka := .be) (kb := .be) rfl (v_var (pv 3)) v_int (fun _ _ => rfl)) v_int) (v_var (pv 9))) a_nil)))) (a_cons (v_call (bs := []) (d__law_lead.mono (k := 41) (by decide)) rfl rfl hr rfl (takes_of rfl rfl rfl rfl) (a_cons (v_varV (pv 2)) a_nil)) a_nil)))))
  (ss_cons (s_if (b_not (b_val (ka := .be) rfl (v_call (bs := []) (d__law_same.mono (k := 41) (by decide)) rfl rfl hr rfl (takes_of rfl rfl rfl rfl) (a_cons (v_tup (a_cons v_str (a_cons (v_ix (ka := .be) (kb := .be) rfl (v_var (pv 3)) v_int (fun _ _ => rfl)) (a_cons (v_calT (ka := .be) call_tuple_of ok_tuple rfl fr.tuple boot_tuple' (a_cons (v_calB (ka := .be) (cr_sortDT (u66 hr)) ok_sortedT rfl fr.sorted boot_sorted' (a_cons (v_add (hk := rfl) (ka := .be) (kb := .be) (v_ixB (ka := .be) (kb := .be) rfl (v_var (pv 3)) v_int (fun _ _ => rfl)) (v_tup (a_cons (v_varV (pv 10)) a_nil))) a_nil)) a_nil)) a_nil)))) (a_cons (v_call (bs := []) (d__law_told.mono (k := 41) (by decide)) rfl rfl hr rfl (takes_of rfl rfl rfl rfl) (a_cons (v_fnD rfl d_with_wire rfl) (a_cons (v_varV (pv 3)) (a_cons (v_varV (pv 10)) a_nil)))) a_nil)))))
  (ss_one (s_ret v_bl))
  ss_nil)
  (ss_cons (s_set (i := 11) sc_law.nd rfl (by first | exact Or.inl rfl | exact Or.inr rfl) (v_tup (a_cons v_str (a_cons v_int (a_cons (v_mulT (hk := rfl) (ka := .be) (kb := .be) (v_tup (a_cons (v_tup (a_cons v_int (a_cons v_int (a_cons (v_tup (a_cons v_int (a_cons v_int a_nil))) a_nil)))) a_nil)) v_int) a_nil)))))
  (ss_one (s_if (t_ne (ka := .be) (kb := .be) rfl hr.units (v_call (bs := []) (d__law_told.mono (k := 41) (by decide)) rfl rfl hr rfl (takes_of rfl rfl rfl rfl) (a_cons (v_fnD rfl d_with_wire rfl) (a_cons (v_varV (pv 11)) (a_cons (v_tup (a_cons v_int (a_cons v_int (a_cons (v_tup (a_cons v_int (a_cons v_int a_nil))) a_nil)))) a_nil)))) v_str)
  (ss_one (s_ret v_bl))
  ss_nil))))))
  ss_nil)
  (ss_cons (s_for (passes_of rfl) rfl (i_seqF rfl (v_lst (a_cons (v_tup (a_cons v_int (a_cons (v_ix (ka := .be) (kb := .be) rfl (v_var (pv 3)) v_int (fun _ _ => rfl)) (a_cons (v_tup (a_cons v_int (a_cons v_int a_nil))) a_nil)))) (a_cons (v_tup (a_cons v_int (a_cons v_int (a_cons (v_tup (a_cons v_int (a_cons v_int a_nil))) a_nil)))) (a_cons (v_tup (a_cons v_int (a_cons v_int (a_cons (v_tup (a_cons v_int (a_cons v_int a_nil))) a_nil)))) (a_cons (v_tup (a_cons v_int (a_cons v_int (a_cons (v_tup (a_cons v_int (a_cons v_int a_nil))) a_nil)))) (a_cons v_non a_nil))))))) (pg_name sc_law.nd rfl (by first | exact Or.inl rfl | exact Or.inr rfl)) g_nm
  (ss_one (s_if (t_ne (ka := .be) (kb := .be) rfl hr.units (v_call (bs := []) (d__law_told.mono (k := 41) (by decide)) rfl rfl hr rfl (takes_of rfl rfl rfl rfl) (a_cons (v_fnD rfl d_with_wire rfl) (a_cons (v_varV (pv 3)) (a_cons (v_varV (pv 7)) a_nil)))) v_str)
  (ss_one (s_ret v_bl))
  ss_nil)))
  (ss_one (s_if (PW.pt (b_or (t_ne (ka := .be) (kb := .be) rfl hr.units (v_call (bs := []) (d__law_told.mono (k := 41) (by decide)) rfl rfl hr rfl (takes_of rfl rfl rfl rfl) (a_cons (v_fnD rfl d_without rfl) (a_cons (v_varV (pv 3)) (a_cons (v_neg (ka := .be) v_int) a_nil)))) v_str) (b_or (t_ne (ka := .be) (kb := .be) rfl hr.units (v_call (bs := []) (d__law_told.mono (k := 41) (by decide)) rfl rfl hr rfl (takes_of rfl rfl rfl rfl) (a_cons (v_fnD rfl d_joined_web rfl) (a_cons v_non (a_cons (v_tup a_nil) a_nil)))) v_str) (b_or1 (t_ne (ka := .be) (kb := .be) rfl hr.units (v_call (bs := []) (d__law_told.mono (k := 41) (by decide)) rfl rfl hr rfl (takes_of rfl rfl rfl rfl) (a_cons (v_fnD rfl d_without rfl) (a_cons (v_varV (pv 3)) (a_cons v_bl a_nil)))) v_str)))))
  (ss_one (s_ret v_bl))
  ss_nil))))))))))))))))
  (ss_one (s_ret v_bl)))
theorem len_ps : List.length ["script"] = 1 := by decide
theorem len_N : runF (List.length ["script", "k", "bag", "web", "names", "due", "parting", "odd", "i", "a", "wire", "full", "name", "joint"]) f_law = F_law := congrArg (fun n => runF n f_law) (show List.length ["script", "k", "bag", "web", "names", "due", "parting", "odd", "i", "a", "wire", "full", "name", "joint"] = 14 by decide)
theorem ok_law (F : VL.FnP K "law" (top 45) f fd) (fr : Fr mg) (d__law_bag : DefOk P w K mg base 33 "_law_bag" 2 F__law_bag) (d__law_draw : DefOk P w K mg base 33 "_law_draw" 2 F__law_draw) (d__law_names : DefOk P w K mg base 33 "_law_names" 1 F__law_names) (d__law_joined : DefOk P w K mg base 33 "_law_joined" 2 F__law_joined) (d__law_lead : DefOk P w K mg base 35 "_law_lead" 1 F__law_lead) (d__law_web : DefOk P w K mg base 36 "_law_web" 4 F__law_web) (d_pieces : DefOk P w K mg base 39 "pieces" 1 F_pieces) (d_joined_web : DefOk P w K mg base 39 "joined_web" 2 F_joined_web) (d_without : DefOk P w K mg base 39 "without" 2 F_without) (d_with_wire : DefOk P w K mg base 39 "with_wire" 2 F_with_wire) (d__law_told : DefOk P w K mg base 40 "_law_told" 3 F__law_told) (d__law_same : DefOk P w K mg base 41 "_law_same" 2 F__law_same) : FnOk P w K mg base (L2.CX P w) 42 f fd ["script"] (spF K mg 1 F_law) := by
  have h := ok_law0 (P := P) (w := w) (base := base) F fr d__law_bag d__law_draw d__law_names d__law_joined d__law_lead d__law_web d_pieces d_joined_web d_without d_with_wire d__law_told d__law_same
  rw [len_ps, len_N] at h
  exact h
end
end G

end
section
set_option Elab.async false
set_option linter.all false
set_option maxRecDepth 100000
set_option maxHeartbeats 0
namespace G
open PySem PySem.Spec PyProof.Rows L2 VL
/-! ### the head -/
def dd_common : He.DefD := ⟨("common", none), "common", "common", defArgs (top 8), defBody (top 8), defScope (top 8), [], []⟩
def dd_is_integer : He.DefD := ⟨("is_integer", none), "is_integer", "is_integer", defArgs (top 12), defBody (top 12), defScope (top 12), [], []⟩
def dd_names_of : He.DefD := ⟨("names_of", none), "names_of", "names_of", defArgs (top 19), defBody (top 19), defScope (top 19), [], []⟩
def dd_put_together : He.DefD := ⟨("put_together", none), "put_together", "put_together", defArgs (top 23), defBody (top 23), defScope (top 23), [], []⟩
def dd_less_wire : He.DefD := ⟨("less_wire", none), "less_wire", "less_wire", defArgs (top 25), defBody (top 25), defScope (top 25), [], []⟩
def dd__law_bag : He.DefD := ⟨("_law_bag", none), "_law_bag", "_law_bag", defArgs (top 29), defBody (top 29), defScope (top 29), [], []⟩
def dd__law_draw : He.DefD := ⟨("_law_draw", none), "_law_draw", "_law_draw", defArgs (top 30), defBody (top 30), defScope (top 30), [], []⟩
def dd__law_gcd : He.DefD := ⟨("_law_gcd", none), "_law_gcd", "_law_gcd", defArgs (top 32), defBody (top 32), defScope (top 32), [], []⟩
def dd__law_names : He.DefD := ⟨("_law_names", none), "_law_names", "_law_names", defArgs (top 41), defBody (top 41), defScope (top 41), [], []⟩
def dd__law_joined : He.DefD := ⟨("_law_joined", none), "_law_joined", "_law_joined", defArgs (top 44), defBody (top 44), defScope (top 44), [], []⟩
def dd_is_any_fraction : He.DefD := ⟨("is_any_fraction", none), "is_any_fraction", "is_any_fraction", defArgs (top 9), defBody (top 9), defScope (top 9), [], []⟩
def dd_check_wire : He.DefD := ⟨("check_wire", none), "check_wire", "check_wire", defArgs (top 17), defBody (top 17), defScope (top 17), [], []⟩
def dd_piece_names : He.DefD := ⟨("piece_names", none), "piece_names", "piece_names", defArgs (top 20), defBody (top 20), defScope (top 20), [], []⟩
def dd__law_one : He.DefD := ⟨("_law_one", none), "_law_one", "_law_one", defArgs (top 31), defBody (top 31), defScope (top 31), [], []⟩
def dd__law_f : He.DefD := ⟨("_law_f", none), "_law_f", "_law_f", defArgs (top 33), defBody (top 33), defScope (top 33), [], []⟩
def dd_is_fraction : He.DefD := ⟨("is_fraction", none), "is_fraction", "is_fraction", defArgs (top 13), defBody (top 13), defScope (top 13), [], []⟩
def dd_all_pieces : He.DefD := ⟨("all_pieces", none), "all_pieces", "all_pieces", defArgs (top 21), defBody (top 21), defScope (top 21), [], []⟩
def dd__law_lead : He.DefD := ⟨("_law_lead", none), "_law_lead", "_law_lead", defArgs (top 39), defBody (top 39), defScope (top 39), [], []⟩
def dd_is_wire : He.DefD := ⟨("is_wire", none), "is_wire", "is_wire", defArgs (top 14), defBody (top 14), defScope (top 14), [], []⟩
def dd__law_web : He.DefD := ⟨("_law_web", none), "_law_web", "_law_web", defArgs (top 40), defBody (top 40), defScope (top 40), [], []⟩
def dd_is_web : He.DefD := ⟨("is_web", none), "is_web", "is_web", defArgs (top 15), defBody (top 15), defScope (top 15), [], []⟩
def dd_check_web : He.DefD := ⟨("check_web", none), "check_web", "check_web", defArgs (top 16), defBody (top 16), defScope (top 16), [], []⟩
def dd_pieces : He.DefD := ⟨("pieces", none), "pieces", "pieces", defArgs (top 22), defBody (top 22), defScope (top 22), [], []⟩
def dd_joined_web : He.DefD := ⟨("joined_web", none), "joined_web", "joined_web", defArgs (top 24), defBody (top 24), defScope (top 24), [], []⟩
def dd_without : He.DefD := ⟨("without", none), "without", "without", defArgs (top 26), defBody (top 26), defScope (top 26), [], []⟩
def dd_with_wire : He.DefD := ⟨("with_wire", none), "with_wire", "with_wire", defArgs (top 27), defBody (top 27), defScope (top 27), [], []⟩
def dd__law_told : He.DefD := ⟨("_law_told", none), "_law_told", "_law_told", defArgs (top 43), defBody (top 43), defScope (top 43), [], []⟩
def dd__law_same : He.DefD := ⟨("_law_same", none), "_law_same", "_law_same", defArgs (top 42), defBody (top 42), defScope (top 42), [], []⟩
def dd_law : He.DefD := ⟨("law", none), "law", "law", defArgs (top 45), defBody (top 45), defScope (top 45), [], []⟩
def fns : List He.DefD := [dd_common, dd_is_integer, dd_names_of, dd_put_together, dd_less_wire, dd__law_bag, dd__law_draw, dd__law_gcd, dd__law_names, dd__law_joined, dd_is_any_fraction, dd_check_wire, dd_piece_names, dd__law_one, dd__law_f, dd_is_fraction, dd_all_pieces, dd__law_lead, dd_is_wire, dd__law_web, dd_is_web, dd_check_web, dd_pieces, dd_joined_web, dd_without, dd_with_wire, dd__law_told, dd__law_same, dd_law]
def fas : List He.Fa := [.glo "common",
  .glo "is_integer",
  .glo "names_of",
  .glo "put_together",
  .glo "less_wire",
  .glo "_law_bag",
  .glo "_law_draw",
  .glo "_law_gcd",
  .glo "_law_names",
  .glo "_law_joined",
  .glo "is_any_fraction",
  .glo "check_wire",
  .glo "piece_names",
  .glo "_law_one",
  .glo "_law_f",
  .glo "is_fraction",
  .glo "all_pieces",
  .glo "_law_lead",
  .glo "is_wire",
  .glo "_law_web",
  .glo "is_web",
  .glo "check_web",
  .glo "pieces",
  .glo "joined_web",
  .glo "without",
  .glo "with_wire",
  .glo "_law_told",
  .glo "_law_same",
  .glo "law",
  .free "len",
  .free "range",
  .free "isinstance",
  .free "int",
  .free "bool",
  .free "str",
  .free "tuple",
  .free "list",
  .free "abs",
  .free "max",
  .free "min",
  .free "all",
  .free "any",
  .free "sum",
  .free "sorted",
  .free "enumerate",
  .free "zip",
  .free "set",
  .free "dict",
  .free "repr",
  .glo "BadEnds",
  .exc "BadEnds",
  .glo "BadWeb",
  .exc "BadWeb",
  .glo "TooFar",
  .exc "TooFar",
  .exm "BadEnds" "BadEnds" true,
  .exm "BadEnds" "BadWeb" false,
  .exm "BadEnds" "TooFar" false,
  .exm "BadWeb" "BadEnds" false,
  .exm "BadWeb" "BadWeb" true,
  .exm "BadWeb" "TooFar" false,
  .exm "TooFar" "BadEnds" false,
  .exm "TooFar" "BadWeb" false,
  .exm "TooFar" "TooFar" true]
def exs (K : PySem.W.Frag) : Bool := gcB K "BEYOND" (.int 100000000000000000000) && gcB K "MOST_JOINTS" (.int 24) && gcB K "MOST_WIRES" (.int 60) && VL.seerB K
abbrev R : PySem.W.OpenRow := PySem.W.OpenLaw.row PySem.Challenge.rw_currentwebs_k04_pieces_and_changed_webs
abbrev hk : PySem.W.Hook := VL.hookY 4 fas fns exs
def ob (s : PySem.W.SharedT) : He.AlX := VL.obsY 4 fas fns exs (HandSHeadRun.getT s)
theorem ob_eq (s : PySem.W.SharedT) : ob s = hk.obs s.abs := VL.obsY_eq (HandSHeadRun.getT_eq s)
def loose0 : List PySem.Str := ["WebError", "BadWeb", "BadEnds", "TooFar", "MOST_JOINTS", "MOST_WIRES", "common", "is_any_fraction", "BEYOND", "is_integer", "is_fraction", "is_wire", "is_web", "check_web", "check_wire", "names_of", "piece_names", "all_pieces", "pieces", "put_together", "joined_web", "less_wire", "without", "with_wire", "_law_bag", "_law_draw", "_law_one", "_law_gcd", "_law_f", "_law_add"]
def loose1 : List PySem.Str := ["_law_sub", "_law_mul", "_law_div", "_law_sum", "_law_lead", "_law_web", "_law_names", "_law_same", "_law_told", "_law_joined"]
abbrev loose : List PySem.Str := loose0 ++ loose1
end G

end
section
set_option Elab.async false
set_option linter.all false
set_option maxRecDepth 100000
set_option maxHeartbeats 0
namespace G
open PySem PySem.Spec PyProof.Rows L2 VL
theorem run (w : World) : HandSHeadRun.RunEq R (PySem.W.view R.prog [45]) hk ob 2240 loose w := by
  intro os
  kernel_rfl
end G

end
section
set_option Elab.async false
set_option linter.all false
set_option maxRecDepth 100000
set_option maxHeartbeats 0
namespace G
open PySem PySem.Spec PyProof.Rows L2 VL
theorem facts {P : Program} (ht : P.given.tree = none) {w : World} {K : PySem.W.Frag} {h : Heap} {mg : Str → Option Value} {fl : Addr} (X : K.In h) (G : h.Ns mainGlobals mg) (hfa : mg ("law" : Str) = some (.ref fl)) (c : He.SaysX fas fns [] [] exs w h K) :
    ∃ fd : FuncData, (∀ (s : Shared) (v : Value), BindsTo s fd ⟨[v], []⟩ [("script", v)]) ∧ ∀ base : Heap, K.In base → base.Ns mainGlobals mg → FnOk P w K mg base (L2.CX P w) 42 fl fd ["script"] (spF K mg 1 F_law) := by
  obtain ⟨fd_common, Fd_common⟩ := c.t.d.def_ 0 (d := dd_common) rfl
  obtain ⟨fd_is_integer, Fd_is_integer⟩ := c.t.d.def_ 1 (d := dd_is_integer) rfl
  obtain ⟨fd_names_of, Fd_names_of⟩ := c.t.d.def_ 2 (d := dd_names_of) rfl
  obtain ⟨fd_put_together, Fd_put_together⟩ := c.t.d.def_ 3 (d := dd_put_together) rfl
  obtain ⟨fd_less_wire, Fd_less_wire⟩ := c.t.d.def_ 4 (d := dd_less_wire) rfl
  obtain ⟨fd__law_bag, Fd__law_bag⟩ := c.t.d.def_ 5 (d := dd__law_bag) rfl
  obtain ⟨fd__law_draw, Fd__law_draw⟩ := c.t.d.def_ 6 (d := dd__law_draw) rfl
  obtain ⟨fd__law_gcd, Fd__law_gcd⟩ := c.t.d.def_ 7 (d := dd__law_gcd) rfl
  obtain ⟨fd__law_names, Fd__law_names⟩ := c.t.d.def_ 8 (d := dd__law_names) rfl
  obtain ⟨fd__law_joined, Fd__law_joined⟩ := c.t.d.def_ 9 (d := dd__law_joined) rfl
  obtain ⟨fd_is_any_fraction, Fd_is_any_fraction⟩ := c.t.d.def_ 10 (d := dd_is_any_fraction) rfl
  obtain ⟨fd_check_wire, Fd_check_wire⟩ := c.t.d.def_ 11 (d := dd_check_wire) rfl
  obtain ⟨fd_piece_names, Fd_piece_names⟩ := c.t.d.def_ 12 (d := dd_piece_names) rfl
  obtain ⟨fd__law_one, Fd__law_one⟩ := c.t.d.def_ 13 (d := dd__law_one) rfl
  obtain ⟨fd__law_f, Fd__law_f⟩ := c.t.d.def_ 14 (d := dd__law_f) rfl
  obtain ⟨fd_is_fraction, Fd_is_fraction⟩ := c.t.d.def_ 15 (d := dd_is_fraction) rfl
  obtain ⟨fd_all_pieces, Fd_all_pieces⟩ := c.t.d.def_ 16 (d := dd_all_pieces) rfl
  obtain ⟨fd__law_lead, Fd__law_lead⟩ := c.t.d.def_ 17 (d := dd__law_lead) rfl
  obtain ⟨fd_is_wire, Fd_is_wire⟩ := c.t.d.def_ 18 (d := dd_is_wire) rfl
  obtain ⟨fd__law_web, Fd__law_web⟩ := c.t.d.def_ 19 (d := dd__law_web) rfl
  obtain ⟨fd_is_web, Fd_is_web⟩ := c.t.d.def_ 20 (d := dd_is_web) rfl
  obtain ⟨fd_check_web, Fd_check_web⟩ := c.t.d.def_ 21 (d := dd_check_web) rfl
  obtain ⟨fd_pieces, Fd_pieces⟩ := c.t.d.def_ 22 (d := dd_pieces) rfl
  obtain ⟨fd_joined_web, Fd_joined_web⟩ := c.t.d.def_ 23 (d := dd_joined_web) rfl
  obtain ⟨fd_without, Fd_without⟩ := c.t.d.def_ 24 (d := dd_without) rfl
  obtain ⟨fd_with_wire, Fd_with_wire⟩ := c.t.d.def_ 25 (d := dd_with_wire) rfl
  obtain ⟨fd__law_told, Fd__law_told⟩ := c.t.d.def_ 26 (d := dd__law_told) rfl
  obtain ⟨fd__law_same, Fd__law_same⟩ := c.t.d.def_ 27 (d := dd__law_same) rfl
  obtain ⟨fd_law, Fd_law⟩ := c.t.d.def_ 28 (d := dd_law) rfl
  have e := hfa.symm.trans (He.glo_ok X G (c.t.d.fact 28 (f := .glo "law") rfl))
  cases e
  have fr : Fr mg := fr_of X G fun x m => by
    simp only [VL.frs, List.mem_cons, List.not_mem_nil, or_false] at m
    rcases m with rfl | rfl | rfl | rfl | rfl | rfl | rfl | rfl | rfl | rfl | rfl | rfl | rfl | rfl | rfl | rfl | rfl | rfl | rfl | rfl
    · exact c.t.d.fact 29 rfl
    · exact c.t.d.fact 30 rfl
    · exact c.t.d.fact 31 rfl
    · exact c.t.d.fact 32 rfl
    · exact c.t.d.fact 33 rfl
    · exact c.t.d.fact 34 rfl
    · exact c.t.d.fact 35 rfl
    · exact c.t.d.fact 36 rfl
    · exact c.t.d.fact 37 rfl
    · exact c.t.d.fact 38 rfl
    · exact c.t.d.fact 39 rfl
    · exact c.t.d.fact 40 rfl
    · exact c.t.d.fact 41 rfl
    · exact c.t.d.fact 42 rfl
    · exact c.t.d.fact 43 rfl
    · exact c.t.d.fact 44 rfl
    · exact c.t.d.fact 45 rfl
    · exact c.t.d.fact 46 rfl
    · exact c.t.d.fact 47 rfl
    · exact c.t.d.fact 48 rfl
  have e_BadEnds : ExcOk K mg "BadEnds" := exc_of X G (c.t.d.fact 49 (f := .glo "BadEnds") rfl) (c.t.d.fact 50 (f := .exc "BadEnds") rfl)
  have e_BadWeb : ExcOk K mg "BadWeb" := exc_of X G (c.t.d.fact 51 (f := .glo "BadWeb") rfl) (c.t.d.fact 52 (f := .exc "BadWeb") rfl)
  have e_TooFar : ExcOk K mg "TooFar" := exc_of X G (c.t.d.fact 53 (f := .glo "TooFar") rfl) (c.t.d.fact 54 (f := .exc "TooFar") rfl)
  have cm0 := c.more
  simp only [exs, Bool.and_eq_true] at cm0
  have sr : SeerP P K := ⟨cm0.2, ht⟩
  have cm := cm0.1
  obtain ⟨⟨cm_BEYOND, cm_MOST_JOINTS⟩, cm_MOST_WIRES⟩ := cm
  have g_BEYOND : GlobC K mg "BEYOND" (.int 100000000000000000000) := gc_of X G cm_BEYOND
  have g_MOST_JOINTS : GlobC K mg "MOST_JOINTS" (.int 24) := gc_of X G cm_MOST_JOINTS
  have g_MOST_WIRES : GlobC K mg "MOST_WIRES" (.int 60) := gc_of X G cm_MOST_WIRES
  have hmt : MtOk K mg mt := mt_ok fun z m => by
    simp only [List.mem_cons, List.not_mem_nil, or_false] at m
    rcases m with rfl | rfl | rfl | rfl | rfl | rfl | rfl | rfl | rfl
    · exact em_of X G (c.t.d.fact 49 (f := .glo "BadEnds") rfl) (c.t.d.fact 49 (f := .glo "BadEnds") rfl) (c.t.d.fact 55 (f := .exm "BadEnds" "BadEnds" true) rfl)
    · exact em_of X G (c.t.d.fact 49 (f := .glo "BadEnds") rfl) (c.t.d.fact 51 (f := .glo "BadWeb") rfl) (c.t.d.fact 56 (f := .exm "BadEnds" "BadWeb" false) rfl)
    · exact em_of X G (c.t.d.fact 49 (f := .glo "BadEnds") rfl) (c.t.d.fact 53 (f := .glo "TooFar") rfl) (c.t.d.fact 57 (f := .exm "BadEnds" "TooFar" false) rfl)
    · exact em_of X G (c.t.d.fact 51 (f := .glo "BadWeb") rfl) (c.t.d.fact 49 (f := .glo "BadEnds") rfl) (c.t.d.fact 58 (f := .exm "BadWeb" "BadEnds" false) rfl)
    · exact em_of X G (c.t.d.fact 51 (f := .glo "BadWeb") rfl) (c.t.d.fact 51 (f := .glo "BadWeb") rfl) (c.t.d.fact 59 (f := .exm "BadWeb" "BadWeb" true) rfl)
    · exact em_of X G (c.t.d.fact 51 (f := .glo "BadWeb") rfl) (c.t.d.fact 53 (f := .glo "TooFar") rfl) (c.t.d.fact 60 (f := .exm "BadWeb" "TooFar" false) rfl)
    · exact em_of X G (c.t.d.fact 53 (f := .glo "TooFar") rfl) (c.t.d.fact 49 (f := .glo "BadEnds") rfl) (c.t.d.fact 61 (f := .exm "TooFar" "BadEnds" false) rfl)
    · exact em_of X G (c.t.d.fact 53 (f := .glo "TooFar") rfl) (c.t.d.fact 51 (f := .glo "BadWeb") rfl) (c.t.d.fact 62 (f := .exm "TooFar" "BadWeb" false) rfl)
    · exact em_of X G (c.t.d.fact 53 (f := .glo "TooFar") rfl) (c.t.d.fact 53 (f := .glo "TooFar") rfl) (c.t.d.fact 63 (f := .exm "TooFar" "TooFar" true) rfl)
  refine ⟨fd_law, fun s v => FunD.bindsA (ps := ["script"]) Fd_law (fun _ _ _ _ _ _ us hl => match us, hl with | [_], _ => rfl) s [v] rfl, fun base _ _ => ?_⟩
  have d_common : DefOk P w K mg base 33 "common" 2 F_common := ok_common Fd_common (He.glo_ok X G (c.t.d.fact 0 (f := .glo "common") rfl)) fr
  have d_is_integer : DefOk P w K mg base 33 "is_integer" 3 F_is_integer := ok_is_integer Fd_is_integer (He.glo_ok X G (c.t.d.fact 1 (f := .glo "is_integer") rfl)) fr
  have d_names_of : DefOk P w K mg base 33 "names_of" 2 F_names_of := ok_names_of Fd_names_of (He.glo_ok X G (c.t.d.fact 2 (f := .glo "names_of") rfl)) fr
  have d_put_together : DefOk P w K mg base 33 "put_together" 3 F_put_together := ok_put_together Fd_put_together (He.glo_ok X G (c.t.d.fact 3 (f := .glo "put_together") rfl)) fr
  have d_less_wire : DefOk P w K mg base 33 "less_wire" 2 F_less_wire := ok_less_wire Fd_less_wire (He.glo_ok X G (c.t.d.fact 4 (f := .glo "less_wire") rfl)) fr
  have d__law_bag : DefOk P w K mg base 33 "_law_bag" 2 F__law_bag := ok__law_bag Fd__law_bag (He.glo_ok X G (c.t.d.fact 5 (f := .glo "_law_bag") rfl)) fr
  have d__law_draw : DefOk P w K mg base 33 "_law_draw" 2 F__law_draw := ok__law_draw Fd__law_draw (He.glo_ok X G (c.t.d.fact 6 (f := .glo "_law_draw") rfl)) fr sr
  have d__law_gcd : DefOk P w K mg base 33 "_law_gcd" 2 F__law_gcd := ok__law_gcd Fd__law_gcd (He.glo_ok X G (c.t.d.fact 7 (f := .glo "_law_gcd") rfl)) fr sr
  have d__law_names : DefOk P w K mg base 33 "_law_names" 1 F__law_names := ok__law_names Fd__law_names (He.glo_ok X G (c.t.d.fact 8 (f := .glo "_law_names") rfl)) fr
  have d__law_joined : DefOk P w K mg base 33 "_law_joined" 2 F__law_joined := ok__law_joined Fd__law_joined (He.glo_ok X G (c.t.d.fact 9 (f := .glo "_law_joined") rfl)) fr
  have d_is_any_fraction : DefOk P w K mg base 34 "is_any_fraction" 1 F_is_any_fraction := ok_is_any_fraction Fd_is_any_fraction (He.glo_ok X G (c.t.d.fact 10 (f := .glo "is_any_fraction") rfl)) fr d_common
  have d_check_wire : DefOk P w K mg base 34 "check_wire" 2 F_check_wire := ok_check_wire Fd_check_wire (He.glo_ok X G (c.t.d.fact 11 (f := .glo "check_wire") rfl)) fr d_is_integer e_BadEnds
  have d_piece_names : DefOk P w K mg base 34 "piece_names" 1 F_piece_names := ok_piece_names Fd_piece_names (He.glo_ok X G (c.t.d.fact 12 (f := .glo "piece_names") rfl)) fr d_names_of
  have d__law_one : DefOk P w K mg base 34 "_law_one" 2 F__law_one := ok__law_one Fd__law_one (He.glo_ok X G (c.t.d.fact 13 (f := .glo "_law_one") rfl)) fr d__law_draw
  have d__law_f : DefOk P w K mg base 34 "_law_f" 2 F__law_f := ok__law_f Fd__law_f (He.glo_ok X G (c.t.d.fact 14 (f := .glo "_law_f") rfl)) fr d__law_gcd sr
  have d_is_fraction : DefOk P w K mg base 35 "is_fraction" 1 F_is_fraction := ok_is_fraction Fd_is_fraction (He.glo_ok X G (c.t.d.fact 15 (f := .glo "is_fraction") rfl)) fr d_is_any_fraction g_BEYOND
  have d_all_pieces : DefOk P w K mg base 35 "all_pieces" 1 F_all_pieces := ok_all_pieces Fd_all_pieces (He.glo_ok X G (c.t.d.fact 16 (f := .glo "all_pieces") rfl)) fr d_piece_names
  have d__law_lead : DefOk P w K mg base 35 "_law_lead" 1 F__law_lead := ok__law_lead Fd__law_lead (He.glo_ok X G (c.t.d.fact 17 (f := .glo "_law_lead") rfl)) fr d__law_draw d__law_one d__law_f
  have d_is_wire : DefOk P w K mg base 36 "is_wire" 2 F_is_wire := ok_is_wire Fd_is_wire (He.glo_ok X G (c.t.d.fact 18 (f := .glo "is_wire") rfl)) fr d_is_integer d_is_fraction
  have d__law_web : DefOk P w K mg base 36 "_law_web" 4 F__law_web := ok__law_web Fd__law_web (He.glo_ok X G (c.t.d.fact 19 (f := .glo "_law_web") rfl)) fr d__law_draw d__law_lead
  have d_is_web : DefOk P w K mg base 37 "is_web" 1 F_is_web := ok_is_web Fd_is_web (He.glo_ok X G (c.t.d.fact 20 (f := .glo "is_web") rfl)) fr d_is_integer d_is_wire g_MOST_JOINTS g_MOST_WIRES
  have d_check_web : DefOk P w K mg base 38 "check_web" 1 F_check_web := ok_check_web Fd_check_web (He.glo_ok X G (c.t.d.fact 21 (f := .glo "check_web") rfl)) fr d_is_web e_BadWeb
  have d_pieces : DefOk P w K mg base 39 "pieces" 1 F_pieces := ok_pieces Fd_pieces (He.glo_ok X G (c.t.d.fact 22 (f := .glo "pieces") rfl)) fr d_all_pieces d_check_web
  have d_joined_web : DefOk P w K mg base 39 "joined_web" 2 F_joined_web := ok_joined_web Fd_joined_web (He.glo_ok X G (c.t.d.fact 23 (f := .glo "joined_web") rfl)) fr d_put_together d_check_web e_BadEnds
  have d_without : DefOk P w K mg base 39 "without" 2 F_without := ok_without Fd_without (He.glo_ok X G (c.t.d.fact 24 (f := .glo "without") rfl)) fr d_less_wire d_check_wire d_check_web
  have d_with_wire : DefOk P w K mg base 39 "with_wire" 2 F_with_wire := ok_with_wire Fd_with_wire (He.glo_ok X G (c.t.d.fact 25 (f := .glo "with_wire") rfl)) fr d_is_wire d_check_web g_MOST_WIRES e_BadEnds e_TooFar
  have d__law_told : DefOk P w K mg base 40 "_law_told" 3 F__law_told := ok__law_told Fd__law_told (He.glo_ok X G (c.t.d.fact 26 (f := .glo "_law_told") rfl)) fr d_joined_web d_without d_with_wire e_BadEnds e_BadWeb e_TooFar hmt
  have d__law_same : DefOk P w K mg base 41 "_law_same" 2 F__law_same := ok__law_same Fd__law_same (He.glo_ok X G (c.t.d.fact 27 (f := .glo "_law_same") rfl)) fr
  exact ok_law Fd_law fr d__law_bag d__law_draw d__law_names d__law_joined d__law_lead d__law_web d_pieces d_joined_web d_without d_with_wire d__law_told d__law_same
end G

end
section
set_option Elab.async false
set_option linter.all false
set_option maxRecDepth 100000
set_option maxHeartbeats 0
open PySem PySem.W PySem.Calls PyProof.Rows
theorem G.holds (hlaw : ∀ ns : List Int, ns.length ≤ 63 → (∀ z ∈ ns, Builtin.Int.intBits z ≤ 1048576) → ∃ S, G.F_law [.scr ns] [] = some (.ok (.d (.bool true)) S)) : PySem.Challenge.rw_currentwebs_k04_pieces_and_changed_webs.Holds := by
  w_on; o_law
  refine HandSHeadRun.head_any (r := OpenLaw.row PySem.Challenge.rw_currentwebs_k04_pieces_and_changed_webs) (q := view (OpenLaw.row PySem.Challenge.rw_currentwebs_k04_pieces_and_changed_webs).prog [45]) (H := G.hk) (ob := G.ob) (M := 2240) (loose := G.loose) (d := HandSHeadRun.topDef (OpenLaw.row PySem.Challenge.rw_currentwebs_k04_pieces_and_changed_webs).prog 45) (kwd := []) G.ob_eq
    (by kernel_rfl) (fun s => by kernel_rfl) G.run (by kernel_rfl) (by kernel_rfl) (by kernel_rfl) (by rfl) (by first | assumption | decide +kernel) (by decide +kernel) ⟨rfl, rfl, rfl, rfl, rfl, by decide +kernel⟩ ?hw ?hc
  case hw => w_witness2
  case hc =>
    refine VL.walk_vl (l := PySem.Challenge.rw_currentwebs_k04_pieces_and_changed_webs) (n := 63) (k := 42) (x := "script") (Fn := G.F_law) rfl (by decide) (by kernel_rfl) ⟨rfl, by decide, by decide⟩ hlaw ?F
    intro w mg fa h Y GN hmg0
    obtain ⟨K, KX, c⟩ := Y
    have hmg : mg ("law" : PySem.Str) = some (.ref fa) := by
      have e : (HandSHeadRun.topDef (OpenLaw.row PySem.Challenge.rw_currentwebs_k04_pieces_and_changed_webs).prog 45).name = ("law" : PySem.Str) := by kernel_rfl
      rw [← e]
      exact hmg0
    obtain ⟨fd, hb, hF⟩ := G.facts (P := (PySem.Challenge.rw_currentwebs_k04_pieces_and_changed_webs).prog) rfl (w := w) KX GN hmg c
    exact ⟨K, fd, KX, hb, hF⟩

end
section
set_option Elab.async false
set_option linter.all false
set_option maxRecDepth 100000
/-! C0: no program: sizes of ints and of fractions; fractions as data. -/
namespace M
open PySem PySem.Spec PyProof.Rows L2 VL
theorem fmod_pos {p q : Int} (h : 0 < q) : p.fmod q = p % q := Int.fmod_eq_emod_of_nonneg p (by omega)
theorem fdiv_pos {p q : Int} (h : 0 < q) : p.fdiv q = p / q := Int.fdiv_eq_ediv_of_nonneg p (by omega)
theorem gcd_mod (p q : Int) : Int.gcd q (p % q) = Int.gcd p q := by
  have e : p % q = p - q * (p / q) := Int.emod_def p q
  apply Nat.dvd_antisymm
  · have h1 : ((Int.gcd q (p % q) : Nat) : Int) ∣ q := Int.gcd_dvd_left ..
    have h2 : ((Int.gcd q (p % q) : Nat) : Int) ∣ p % q := Int.gcd_dvd_right ..
    have h3 : ((Int.gcd q (p % q) : Nat) : Int) ∣ p := by
      have h4 := Int.dvd_add h2 (Int.dvd_trans h1 (Int.dvd_mul_right q (p / q)))
      rw [Int.emod_add_mul_ediv] at h4
      exact h4
    exact Int.ofNat_dvd.mp (Int.dvd_coe_gcd h3 h1)
  · have h1 : ((Int.gcd p q : Nat) : Int) ∣ q := Int.gcd_dvd_right ..
    have h2 : ((Int.gcd p q : Nat) : Int) ∣ p := Int.gcd_dvd_left ..
    have h3 : ((Int.gcd p q : Nat) : Int) ∣ p % q := by
      rw [e]
      exact Int.dvd_sub h2 (Int.dvd_trans h1 (Int.dvd_mul_right q (p / q)))
    exact Int.ofNat_dvd.mp (Int.dvd_coe_gcd h1 h3)
theorem gcd_pos {p q : Int} (h : 0 < q) : (0 : Int) < Int.gcd p q := by
  have := Int.gcd_pos_of_ne_zero_right p (show q ≠ 0 by omega)
  omega
theorem ediv_mul_sub (p q : Int) : p - p / q * q = p % q := by
  have := Int.emod_add_mul_ediv p q
  rw [Int.mul_comm] at this
  omega
/-! sizes -/
def Bd (b : Nat) (x : Int) : Prop := x.natAbs < 2 ^ b
theorem two_pos (b : Nat) : 0 < 2 ^ b := Nat.pow_pos (by decide)
theorem two_mono {a b : Nat} (h : a ≤ b) : 2 ^ a ≤ 2 ^ b := Nat.pow_le_pow_right (by decide) h
theorem Bd.mono {a b : Nat} {x : Int} (h : Bd a x) (l : a ≤ b) : Bd b x := Nat.lt_of_lt_of_le h (two_mono l)
theorem Bd.log {b : Nat} {x : Int} (h : Bd b x) : x.natAbs.log2 ≤ b := by
  by_cases h0 : x.natAbs = 0
  · rw [h0]; exact Nat.zero_le _
  · exact Nat.le_of_lt ((Nat.log2_lt h0).mpr h)
theorem Bd.of_log {b : Nat} {x : Int} (h : x.natAbs.log2 < b) : Bd b x := by
  by_cases h0 : x.natAbs = 0
  · unfold Bd; rw [h0]; exact two_pos b
  · exact (Nat.log2_lt h0).mp h
theorem mulOk_bd {a b : Nat} {x y : Int} (hx : Bd a x) (hy : Bd b y) (h : a + b < 100000000) : mulOk x y = true := by
  have h1 := hx.log
  have h2 := hy.log
  unfold mulOk
  rw [decide_eq_true_eq]
  omega
theorem Bd.mul {a b : Nat} {x y : Int} (hx : Bd a x) (hy : Bd b y) : Bd (a + b) (x * y) := by
  unfold Bd at *
  rw [Int.natAbs_mul, Nat.pow_add]
  exact Nat.mul_lt_mul'' hx hy
theorem Bd.add {a : Nat} {x y : Int} (hx : Bd a x) (hy : Bd a y) : Bd (a + 1) (x + y) := by
  unfold Bd at *
  rw [Nat.pow_succ]
  have := Int.natAbs_add_le x y
  omega
theorem Bd.neg {a : Nat} {x : Int} (hx : Bd a x) : Bd a (-x) := by
  unfold Bd at *
  rw [Int.natAbs_neg]
  exact hx
theorem Bd.sub {a : Nat} {x y : Int} (hx : Bd a x) (hy : Bd a y) : Bd (a + 1) (x - y) := by
  rw [Int.sub_eq_add_neg]
  exact hx.add hy.neg
theorem Bd.div {a : Nat} {x y : Int} (hx : Bd a x) : Bd a (x / y) := Nat.lt_of_le_of_lt (Int.natAbs_ediv_le_natAbs x y) hx
theorem bd_lit {x : Int} (b : Nat) (h : x.natAbs < 2 ^ b) : Bd b x := h
theorem bd100 {x : Int} (h : x.natAbs ≤ 1000000000000000000000000000000) : Bd 100 x := Nat.lt_of_le_of_lt h (by decide +kernel)
/-! fractions -/
def rD (x : Rat) : PyData := .tuple [.int x.num, .int (x.den : Int)]
theorem dpos (x : Rat) : (0 : Int) < x.den := by
  have := x.den_pos
  omega
def Sz (b : Nat) (x : Rat) : Prop := Bd b x.num ∧ Bd b (x.den : Int)
theorem Sz.mono {a b : Nat} {x : Rat} (h : Sz a x) (l : a ≤ b) : Sz b x := ⟨h.1.mono l, h.2.mono l⟩
theorem divInt_le {p q : Int} (hq : q ≠ 0) : (Rat.divInt p q).num.natAbs ≤ p.natAbs ∧ (Rat.divInt p q).den ≤ q.natAbs := by
  refine ⟨?_, ?_⟩
  · rw [Rat.num_divInt]
    refine Nat.le_trans (Int.natAbs_ediv_le_natAbs _ _) ?_
    rw [Int.natAbs_mul, Int.natAbs_sign_of_ne_zero hq, Nat.one_mul]
    exact Nat.le_refl _
  · rw [Rat.den_divInt, if_neg hq]
    exact Nat.div_le_self ..
theorem sz_div {a : Nat} {p q : Int} (hq : q ≠ 0) (hp : Bd a p) (h : Bd a q) : Sz a (Rat.divInt p q) := by
  obtain ⟨h1, h2⟩ := divInt_le (p := p) hq
  refine ⟨Nat.lt_of_le_of_lt h1 hp, ?_⟩
  unfold Bd at *
  omega
theorem add_div (x y : Rat) : x + y = Rat.divInt (x.num * y.den + y.num * x.den) ((x.den : Int) * y.den) := by
  conv => lhs; rw [← Rat.num_divInt_den x, ← Rat.num_divInt_den y]
  rw [Rat.divInt_add_divInt _ _ (by have := dpos x; omega) (by have := dpos y; omega)]
theorem sub_div (x y : Rat) : x - y = Rat.divInt (x.num * y.den - y.num * x.den) ((x.den : Int) * y.den) := by
  conv => lhs; rw [← Rat.num_divInt_den x, ← Rat.num_divInt_den y]
  rw [Rat.divInt_sub_divInt _ _ (by have := dpos x; omega) (by have := dpos y; omega)]
theorem mul_div (x y : Rat) : x * y = Rat.divInt (x.num * y.num) ((x.den : Int) * y.den) := by
  conv => lhs; rw [← Rat.num_divInt_den x, ← Rat.num_divInt_den y]
  rw [Rat.divInt_mul_divInt]
theorem div_div (x y : Rat) : x / y = Rat.divInt (x.num * y.den) ((x.den : Int) * y.num) := by
  rw [Rat.div_def, Rat.inv_def, ← Rat.divInt_mul_divInt, Rat.num_divInt_den]
theorem mul_ne {x y : Int} (h1 : x ≠ 0) (h2 : y ≠ 0) : x * y ≠ 0 := Int.mul_ne_zero h1 h2
theorem Sz.add {a b : Nat} {x y : Rat} (hx : Sz a x) (hy : Sz b y) : Sz (a + b + 1) (x + y) := by
  rw [add_div]
  exact sz_div (mul_ne (by have := dpos x; omega) (by have := dpos y; omega)) ((hx.1.mul hy.2).add ((hy.1.mul hx.2).mono (by omega))) ((hx.2.mul hy.2).mono (by omega))
theorem Sz.sub {a b : Nat} {x y : Rat} (hx : Sz a x) (hy : Sz b y) : Sz (a + b + 1) (x - y) := by
  rw [sub_div]
  exact sz_div (mul_ne (by have := dpos x; omega) (by have := dpos y; omega)) ((hx.1.mul hy.2).sub ((hy.1.mul hx.2).mono (by omega))) ((hx.2.mul hy.2).mono (by omega))
theorem Sz.mul {a b : Nat} {x y : Rat} (hx : Sz a x) (hy : Sz b y) : Sz (a + b) (x * y) := by
  rw [mul_div]
  exact sz_div (mul_ne (by have := dpos x; omega) (by have := dpos y; omega)) (hx.1.mul hy.1) (hx.2.mul hy.2)
theorem Sz.div {a b : Nat} {x y : Rat} (hx : Sz a x) (hy : Sz b y) (h0 : y ≠ 0) : Sz (a + b) (x / y) := by
  rw [div_div]
  exact sz_div (mul_ne (by have := dpos x; omega) (fun h => h0 (Rat.num_eq_zero.mp h))) (hx.1.mul hy.2) (hx.2.mul hy.1)
theorem Sz.neg {a : Nat} {x : Rat} (hx : Sz a x) : Sz a (-x) := ⟨by show (-x).num.natAbs < _; rw [Rat.neg_num]; exact hx.1.neg, hx.2⟩
/-- small enough for any one operation -/
def Ok (x : Rat) : Prop := ∃ b, b ≤ 20000000 ∧ Sz b x
theorem Sz.ok {b : Nat} {x : Rat} (h : Sz b x) (hb : b ≤ 20000000) : Ok x := ⟨b, hb, h⟩
theorem sz_int {b : Nat} {i : Int} (h : Bd b i) (hb : 1 ≤ b) : Sz b (i : Rat) := ⟨h, by
  show (1 : Int).natAbs < 2 ^ b
  have := two_mono hb
  show 1 < 2 ^ b
  omega⟩
theorem sz0 : Sz 1 0 := ⟨show (0 : Int).natAbs < 2 by decide, show (1 : Int).natAbs < 2 by decide⟩
theorem sz1 : Sz 1 1 := ⟨show (1 : Int).natAbs < 2 by decide, show (1 : Int).natAbs < 2 by decide⟩
theorem ok0 : Ok 0 := sz0.ok (by omega)
theorem ok1 : Ok 1 := sz1.ok (by omega)
end M

end
section
set_option Elab.async false
set_option linter.all false
set_option maxRecDepth 100000
/-! CG: rules for statements' value functions. -/
namespace M
open PySem PySem.Spec PyProof.Rows L2 VL
abbrev Stm := Rho → Sto → Option VL.Fl
def Wp (m : Option VL.Fl) (Q : VL.Fl → Prop) : Prop := ∃ r, m = some r ∧ Q r
section
variable {s t b1 b2 : Stm} {ρ ρ2 : Rho} {S S1 S2 : Sto} {Q Q' : VL.Fl → Prop} {e : Rho → Mo SV} {x : SV} {i : Nat} {c : Rho → Mo Bool} {fs : Rho → Mo (List SV)}
theorem Wp.mono (h : Wp (s ρ S) Q) (q : ∀ r, Q r → Q' r) : Wp (s ρ S) Q' := by
  obtain ⟨r, e, z⟩ := h
  exact ⟨r, e, q r z⟩
theorem wp_nx (h : s ρ S = some (.nx ρ2 S2)) (q : Wp (t ρ2 S2) Q) : Wp (sSeq s t ρ S) Q := by
  obtain ⟨r, e, z⟩ := q
  exact ⟨r, by show (match s ρ S with | some (.nx ρ' S') => t ρ' S' | r => r) = _; rw [h]; exact e, z⟩
/-- a part ahead -/
theorem wp_seq (h : Wp (s ρ S) fun r => (∃ ρ2 S2, r = .nx ρ2 S2 ∧ Wp (t ρ2 S2) Q) ∨ ((∀ ρ2 S2, r ≠ .nx ρ2 S2) ∧ Q r)) : Wp (sSeq s t ρ S) Q := by
  obtain ⟨r, e, z⟩ := h
  rcases z with ⟨ρ2, S2, rfl, z⟩ | ⟨n, z⟩
  · exact wp_nx e z
  · refine ⟨r, ?_, z⟩
    show (match s ρ S with | some (.nx ρ' S') => t ρ' S' | r => r) = _
    rw [e]
    cases r with
    | nx ρ2 S2 => exact absurd rfl (n ρ2 S2)
    | _ => rfl
theorem wp_set (h : e ρ S = some (.ok x S1)) (q : Wp (t (ρ.set i (some x)) S1) Q) : Wp (sSeq (sSet i e) t ρ S) Q := wp_nx (by show bindS ρ (e ρ S) _ = _; rw [h]; rfl) q
theorem wp_set1 (h : e ρ S = some (.ok x S1)) (q : Q (.nx (ρ.set i (some x)) S1)) : Wp (sSet i e ρ S) Q := ⟨_, by show bindS ρ (e ρ S) _ = _; rw [h]; rfl, q⟩
/-- a check that is passed -/
theorem wp_pass (h : c ρ S = some (.ok false S1)) (q : Wp (t ρ S1) Q) : Wp (sSeq (sIf c b1 sNil) t ρ S) Q := wp_nx (by show bindS ρ (c ρ S) _ = _; rw [h]; rfl) q
theorem wp_ifT (h : c ρ S = some (.ok true S1)) (q : Wp (b1 ρ S1) Q) : Wp (sIf c b1 b2 ρ S) Q := by
  obtain ⟨r, e, z⟩ := q
  exact ⟨r, by show bindS ρ (c ρ S) _ = _; rw [h]; exact e, z⟩
theorem wp_ifF (h : c ρ S = some (.ok false S1)) (q : Wp (b2 ρ S1) Q) : Wp (sIf c b1 b2 ρ S) Q := by
  obtain ⟨r, e, z⟩ := q
  exact ⟨r, by show bindS ρ (c ρ S) _ = _; rw [h]; exact e, z⟩
theorem wp_nil (q : Q (.nx ρ S)) : Wp (sNil ρ S) Q := ⟨_, rfl, q⟩
theorem wp_ret (h : e ρ S = some (.ok x S1)) (q : Q (.rt x S1)) : Wp (sRet e ρ S) Q := ⟨_, by show bindS ρ (e ρ S) _ = _; rw [h]; rfl, q⟩
theorem wp_retV (h : ρ[i]? = some (some x)) (q : Q (.rt x S)) : Wp (sRetV i ρ S) Q := ⟨_, by unfold sRetV; rw [h], q⟩
theorem wp_raise (k : Str) (q : Q (.exc k [] ρ S)) : Wp (sRaise k ρ S) Q := ⟨_, rfl, q⟩
theorem wp_drop (h : e ρ S = some (.ok x S1)) (q : Wp (t ρ S1) Q) : Wp (sSeq (sDrop e) t ρ S) Q := wp_nx (by show bindS ρ (e ρ S) _ = _; rw [h]; rfl) q
/-- x.append(y), of a local -/
theorem app_own {ys : List SV} {y : SV} (h : ρ[i]? = some (some (.own ys))) (hf : fs ρ S = some (.ok [y] S1)) (hl : ys.length < sizeLine) : sAppend (lVar i) fs ρ S = some (.nx (ρ.set i (some (.own (ys ++ [y])))) S1) := by
  unfold sAppend lVar
  simp only [h, bindS, hf, Lo.get, Lo.put, getP, putP, Option.bind_some, Option.map_some, if_pos hl]
/-- a for with an invariant -/
theorem forL_inv {tf : TgF} {body : Stm} (I : Nat → Rho → Sto → Prop) (xs : List SV) (h : ∀ (i : Nat) x, xs[i]? = some x → ∀ ρ S, I i ρ S → ∃ ρ', tf x ρ = some ρ' ∧ Wp (body ρ' S) fun r => ∃ ρ2 S2, (r = .nx ρ2 S2 ∨ r = .ct ρ2 S2) ∧ I (i + 1) ρ2 S2) : ∀ ρ S, I 0 ρ S → ∃ ρ2 S2, I xs.length ρ2 S2 ∧ forL tf body xs ρ S = some (.nx ρ2 S2) :=
  forL_step I xs fun i x hx ρ S hI => by
    obtain ⟨ρ', t, r, e, ρ2, S2, z, k⟩ := h i x hx ρ S hI
    refine ⟨ρ', t, ρ2, S2, k, ?_⟩
    rcases z with rfl | rfl
    · exact .inl e
    · exact .inr e
theorem wp_for {it : Rho → Mo (List SV)} {tf : TgF} {body : Stm} {xs : List SV} (I : Nat → Rho → Sto → Prop) (hi : it ρ S = some (.ok xs S1)) (h0 : I 0 ρ S1) (hb : ∀ (i : Nat) x, xs[i]? = some x → ∀ ρ S, I i ρ S → ∃ ρ', tf x ρ = some ρ' ∧ Wp (body ρ' S) fun r => ∃ ρ2 S2, (r = .nx ρ2 S2 ∨ r = .ct ρ2 S2) ∧ I (i + 1) ρ2 S2)
    (hr : ∀ ρ2 S2, I xs.length ρ2 S2 → Wp (t ρ2 S2) Q) : Wp (sSeq (sFor it tf body) t ρ S) Q := by
  obtain ⟨ρ2, S2, k, e⟩ := forL_inv I xs hb ρ S1 h0
  exact wp_nx (by show bindS ρ (it ρ S) _ = _; rw [hi]; exact e) (hr ρ2 S2 k)
/-- a for as a fold over typed values, the store left as it is -/
theorem forL_fold {α σ : Type} {tf : TgF} {body : Stm} (f : α → SV) (step : σ → α → σ) (I : σ → Rho → Prop) : ∀ (l : List α), (∀ a ∈ l, ∀ s ρ, I s ρ → ∃ ρ', tf (f a) ρ = some ρ' ∧ Wp (body ρ' S) fun r => ∃ ρ2, (r = .nx ρ2 S ∨ r = .ct ρ2 S) ∧ I (step s a) ρ2) → ∀ s ρ, I s ρ → ∃ ρ2, I (l.foldl step s) ρ2 ∧ forL tf body (l.map f) ρ S = some (.nx ρ2 S)
  | [], _, s, ρ, h => ⟨ρ, h, rfl⟩
  | a :: l, hb, s, ρ, h => by
    obtain ⟨ρ', t, r, q, ρ2, z, h2⟩ := hb a List.mem_cons_self s ρ h
    obtain ⟨ρ3, h3, e⟩ := forL_fold f step I l (fun b m => hb b (List.mem_cons_of_mem _ m)) (step s a) ρ2 h2
    refine ⟨ρ3, h3, ?_⟩
    rw [List.map_cons]
    unfold forL
    rcases z with rfl | rfl <;> simp [t, q, e]
theorem wp_fold {α σ : Type} {it : Rho → Mo (List SV)} {tf : TgF} {body : Stm} (f : α → SV) (l : List α) (step : σ → α → σ) (I : σ → Rho → Prop) (s : σ) (hi : it ρ S = some (.ok (l.map f) S1)) (h0 : I s ρ) (hb : ∀ a ∈ l, ∀ s ρ, I s ρ → ∃ ρ', tf (f a) ρ = some ρ' ∧ Wp (body ρ' S1) fun r => ∃ ρ2, (r = .nx ρ2 S1 ∨ r = .ct ρ2 S1) ∧ I (step s a) ρ2)
    (hr : ∀ ρ2, I (l.foldl step s) ρ2 → Wp (t ρ2 S1) Q) : Wp (sSeq (sFor it tf body) t ρ S) Q := by
  obtain ⟨ρ2, k, e⟩ := forL_fold f step I l hb s ρ h0
  exact wp_nx (by show bindS ρ (it ρ S) _ = _; rw [hi]; exact e) (hr ρ2 k)
/-- a for that looks at each, handing back where one does not pass; here all pass -/
theorem wp_all {α : Type} {it : Rho → Mo (List SV)} {tf : TgF} {body : Stm} (f : α → SV) (l : List α) (I : Rho → Sto → Prop) (hi : it ρ S = some (.ok (l.map f) S1)) (h0 : I ρ S1) (hb : ∀ a ∈ l, ∀ ρ S, I ρ S → ∃ ρ', tf (f a) ρ = some ρ' ∧ Wp (body ρ' S) fun r => ∃ ρ2 S2, (r = .nx ρ2 S2 ∨ r = .ct ρ2 S2) ∧ I ρ2 S2)
    (hr : ∀ ρ2 S2, I ρ2 S2 → Wp (t ρ2 S2) Q) : Wp (sSeq (sFor it tf body) t ρ S) Q := by
  refine wp_for (fun _ => I) hi h0 (fun i x hx => ?_) hr
  rw [List.getElem?_map, Option.map_eq_some_iff] at hx
  obtain ⟨a, ha, rfl⟩ := hx
  exact hb a (List.mem_of_getElem? ha)
end
section
variable {n : Nat} {f : Stm} {xs : List SV} {S S' : Sto} {x : SV} {P : Sto → Prop}
theorem run_wp (q : Wp (f (rho0 n xs) S) fun r => r = .rt x S') : runF n f xs S = some (.ok x S') := by
  obtain ⟨r, e, rfl⟩ := q
  unfold runF; rw [e]
theorem run_wpN (q : Wp (f (rho0 n xs) S) fun r => ∃ ρ, r = .nx ρ S') : runF n f xs S = some (.ok (.d .none) S') := by
  obtain ⟨r, e, _, rfl⟩ := q
  unfold runF; rw [e]
theorem run_wpE {k : Str} (q : Wp (f (rho0 n xs) S) fun r => ∃ ρ, r = .exc k [] ρ S') : runF n f xs S = some (.exc k [] S') := by
  obtain ⟨r, e, _, rfl⟩ := q
  unfold runF; rw [e]
theorem run_wp2 {P : SV → Sto → Prop} (q : Wp (f (rho0 n xs) S) fun r => ∃ x S', r = .rt x S' ∧ P x S') : ∃ x S', runF n f xs S = some (.ok x S') ∧ P x S' := by
  obtain ⟨r, e, x, S', rfl, p⟩ := q
  exact ⟨x, S', by unfold runF; rw [e], p⟩
end
/-! expressions, part by part -/
section
variable {ρ : Rho} {S S1 S2 S3 : Sto} {f g h : Rho → Mo SV} {fs : Rho → Mo (List SV)} {x y z : SV} {xs ys : List SV} {ds : List PyData} {b b1 b2 : Bool} {c c1 c2 : Rho → Mo Bool} {n i : Nat}
theorem e_bin {op : Sto → SV → SV → Option SV} (h1 : f ρ S = some (.ok x S1)) (h2 : g ρ S1 = some (.ok y S2)) (h3 : op S2 x y = some z) : eBin op f g ρ S = some (.ok z S2) := by
  unfold eBin; rw [h1, VL.bindM_ok, h2, VL.bindM_ok, h3]; rfl
theorem e_cmp {op : Sto → SV → SV → Option Bool} (h1 : f ρ S = some (.ok x S1)) (h2 : g ρ S1 = some (.ok y S2)) (h3 : op S2 x y = some b) : eBin (cB op) f g ρ S = some (.ok (.d (.bool b)) S2) := e_bin h1 h2 (by unfold cB; rw [h3]; rfl)
theorem b_cmp {op : Sto → SV → SV → Option Bool} (h1 : f ρ S = some (.ok x S1)) (h2 : g ρ S1 = some (.ok y S2)) (h3 : op S2 x y = some b) : bB (eBin (cB op) f g) ρ S = some (.ok b S2) := by
  unfold bB; rw [e_cmp h1 h2 h3]; rfl
theorem e_nil : aNil ρ S = some (.ok [] S) := rfl
theorem e_cons (h1 : f ρ S = some (.ok x S1)) (h2 : fs ρ S1 = some (.ok xs S2)) : aCons f fs ρ S = some (.ok (x :: xs) S2) := by
  unfold aCons; rw [h1, VL.bindM_ok, h2, VL.bindM_ok]
theorem e_one (h1 : f ρ S = some (.ok x S1)) : aCons f aNil ρ S = some (.ok [x] S1) := e_cons h1 e_nil
theorem e_cal {cl : Sto → List SV → Option SV} (h1 : fs ρ S = some (.ok xs S1)) (h2 : cl S1 xs = some z) : eCal cl fs ρ S = some (.ok z S1) := by
  unfold eCal; rw [h1, VL.bindM_ok, h2]; rfl
theorem cvt_frz : ∀ {xs ys : List SV} {S : Sto}, frzs xs = some ys → cvt [] xs S = some (ys, S)
  | [], ys, S, h => by cases h; rfl
  | x :: xs, ys, S, h => by
    simp only [frzs_cons, Option.bind_eq_some_iff, Option.map_eq_some_iff] at h
    obtain ⟨y, hy, zs, hz, rfl⟩ := h
    rw [cvt_0, hy, Option.bind_some, cvt_frz hz]
    rfl
theorem e_call {F : List SV → Mo SV} {r : Option (Res SV)} (h1 : fs ρ S = some (.ok xs S1)) (hl : xs.length = n) (hc : frzs xs = some ys) (hF : F ys S1 = r) : eCall n F [] fs ρ S = r := by
  unfold eCall; rw [h1, VL.bindM_ok, if_pos hl, cvt_frz hc]; exact hF
theorem e_tup (h1 : fs ρ S = some (.ok xs S1)) (hd : datOs xs = some ds) (hl : xs.length ≤ 1000) : eTup fs ρ S = some (.ok (.d (.tuple ds)) S1) := by
  unfold eTup; rw [h1, VL.bindM_ok, if_pos (by rw [sizeLine_eq]; omega), hd]; rfl
theorem e_lst (h1 : fs ρ S = some (.ok xs S1)) (hl : xs.length ≤ 1000) : eLst fs ρ S = some (.ok (.own xs) S1) := by
  unfold eLst; rw [h1, VL.bindM_ok, if_pos (by rw [sizeLine_eq]; omega)]
theorem e_var (h : ρ[i]? = some (some x)) : eVar i ρ S = some (.ok x S) := by
  unfold eVar; rw [h]
theorem e_varV (h : ρ[i]? = some (some x)) (hn : noOwn x = true) : eVarV i ρ S = some (.ok x S) := by
  unfold eVarV; simp only [h, hn, if_true]
theorem e_varO {l : List SV} (h : ρ[i]? = some (some (.own l))) : eVar i ρ S = some (.ok (.own l) S) := e_var h
theorem e_ifT (h1 : c ρ S = some (.ok true S1)) (h2 : f ρ S1 = some (.ok x S2)) : eIf c f g ρ S = some (.ok x S2) := by
  unfold eIf; rw [h1, VL.bindM_ok]; exact h2
theorem e_ifF (h1 : c ρ S = some (.ok false S1)) (h2 : g ρ S1 = some (.ok x S2)) : eIf c f g ρ S = some (.ok x S2) := by
  unfold eIf; rw [h1, VL.bindM_ok]; exact h2
theorem e_un {o : Sto → SV → Option SV} (h1 : f ρ S = some (.ok x S1)) (h2 : o S1 x = some z) : eUn o f ρ S = some (.ok z S1) := by
  unfold eUn; rw [h1, VL.bindM_ok, h2]; rfl
theorem e_frz (h1 : f ρ S = some (.ok x S1)) (h2 : frz x = some z) : eFrz f ρ S = some (.ok z S1) := by
  unfold eFrz; rw [h1, VL.bindM_ok, h2]; rfl
theorem b_val (h1 : f ρ S = some (.ok x S1)) (h2 : truth S1 x = some b) : bVal f ρ S = some (.ok b S1) := by
  unfold bVal; rw [h1, VL.bindM_ok, h2]; rfl
theorem b_valB (h1 : f ρ S = some (.ok (.d (.bool b)) S1)) : bVal f ρ S = some (.ok b S1) := b_val h1 rfl
theorem b_not (h1 : c ρ S = some (.ok b S1)) : bNot c ρ S = some (.ok (!b) S1) := by
  unfold bNot; rw [h1, VL.bindM_ok]
theorem b_orT (h1 : c1 ρ S = some (.ok true S1)) : bOr c1 c2 ρ S = some (.ok true S1) := by
  unfold bOr; rw [h1, VL.bindM_ok]; rfl
theorem b_orF (h1 : c1 ρ S = some (.ok false S1)) (h2 : c2 ρ S1 = some (.ok b S2)) : bOr c1 c2 ρ S = some (.ok b S2) := by
  unfold bOr; rw [h1, VL.bindM_ok]; exact h2
theorem b_andF (h1 : c1 ρ S = some (.ok false S1)) : bAnd c1 c2 ρ S = some (.ok false S1) := by
  unfold bAnd; rw [h1, VL.bindM_ok]; rfl
theorem b_andT (h1 : c1 ρ S = some (.ok true S1)) (h2 : c2 ρ S1 = some (.ok b S2)) : bAnd c1 c2 ρ S = some (.ok b S2) := by
  unfold bAnd; rw [h1, VL.bindM_ok]; exact h2
theorem e_sl {lo hi : Rho → Mo (Option Int)} {l u : Option Int} (h1 : f ρ S = some (.ok x S1)) (h2 : lo ρ S1 = some (.ok l S2)) (h3 : hi ρ S2 = some (.ok u S3)) (h4 : gSl S3 x l u = some z) : eSl f lo hi ρ S = some (.ok z S3) := by
  unfold eSl; rw [h1, VL.bindM_ok, h2, VL.bindM_ok, h3, VL.bindM_ok, h4]; rfl
theorem o_some' {k : Int} (h1 : f ρ S = some (.ok (.d (.int k)) S1)) : pSome f ρ S = some (.ok (some k) S1) := by
  unfold pSome; rw [h1, VL.bindM_ok]
theorem st_asg {tf : TgF} {ρ2 : Rho} (h1 : f ρ S = some (.ok x S1)) (h2 : frz x = some y) (h3 : tf y ρ = some ρ2) : sAsg tf f ρ S = some (.nx ρ2 S1) := by
  unfold sAsg bindS; rw [h1]; simp only [h2, Option.bind_some, h3, Option.map_some]
end
/-! comprehensions -/
theorem compL_filter {α : Type} {tf : TgF} {tst : Rho → Mo Bool} {elt : Rho → Mo SV} {ρ : Rho} {S : Sto} (f g : α → SV) (p : α → Bool) : ∀ (l : List α) (acc : List SV), (∀ a ∈ l, ∃ ρ', tf (f a) ρ = some ρ' ∧ tst ρ' S = some (.ok (p a) S) ∧ (p a = true → elt ρ' S = some (.ok (g a) S))) → acc.length + l.length ≤ sizeLine → compL tf tst elt ρ (l.map f) acc S = some (.ok (acc ++ (l.filter p).map g) S)
  | [], acc, _, _ => by simp [compL]
  | a :: l, acc, h, hl => by
    rw [List.length_cons] at hl
    obtain ⟨ρ', t, h1, h2⟩ := h a List.mem_cons_self
    rw [List.map_cons]
    unfold compL
    cases q : p a with
    | true =>
      rw [q] at h1
      have ih := compL_filter f g p l (acc ++ [g a]) (fun z m => h z (List.mem_cons_of_mem _ m)) (by simp; omega)
      simp only [t, h1, h2 q]
      rw [if_pos (by omega), ih]
      simp [List.filter_cons, q]
    | false =>
      rw [q] at h1
      have ih := compL_filter f g p l acc (fun z m => h z (List.mem_cons_of_mem _ m)) (by omega)
      simp only [t, h1]
      rw [ih]
      simp [List.filter_cons, q]
theorem lc_filter {α : Type} {it : Rho → Mo (List SV)} {tf : TgF} {tst : Rho → Mo Bool} {elt : Rho → Mo SV} {vs : List Nat} {ρ : Rho} {S S1 : Sto} (l : List α) (f g : α → SV) (p : α → Bool) (hi : it ρ S = some (.ok (l.map f) S1)) (hl : l.length ≤ sizeLine) (h : ∀ a ∈ l, ∃ ρ', tf (f a) (wipeR ρ vs) = some ρ' ∧ tst ρ' S1 = some (.ok (p a) S1) ∧ (p a = true → elt ρ' S1 = some (.ok (g a) S1))) :
    eLc it tf tst elt vs ρ S = some (.ok (.own ((l.filter p).map g)) S1) := by
  unfold eLc
  rw [hi]
  simp only [bindM_ok, compL_filter f g p l [] h (by simpa using hl)]
  simp
theorem lc_map {α : Type} {it : Rho → Mo (List SV)} {tf : TgF} {elt : Rho → Mo SV} {vs : List Nat} {ρ : Rho} {S S1 : Sto} (l : List α) (f g : α → SV) (hi : it ρ S = some (.ok (l.map f) S1)) (hl : l.length ≤ sizeLine) (h : ∀ a ∈ l, ∃ ρ', tf (f a) (wipeR ρ vs) = some ρ' ∧ elt ρ' S1 = some (.ok (g a) S1)) :
    eLc it tf bYes elt vs ρ S = some (.ok (.own (l.map g)) S1) := by
  have := lc_filter (tst := bYes) l f g (fun _ => true) hi hl fun a m => by
    obtain ⟨ρ', t, q⟩ := h a m
    exact ⟨ρ', t, rfl, fun _ => q⟩
  rw [this, List.filter_eq_self.mpr (fun _ _ => rfl)]
/-- a comprehension that draws: the store changes -/
theorem compL_draw {tf : TgF} {elt : Rho → Mo SV} {ρ : Rho} (I : Nat → List SV → Sto → Prop) : ∀ (xs : List SV) (k : Nat) (acc : List SV) (S : Sto), (∀ (j : Nat) x, xs[j]? = some x → ∀ acc S, I (k + j) acc S → ∃ ρ' y S2, tf x ρ = some ρ' ∧ elt ρ' S = some (.ok y S2) ∧ I (k + j + 1) (acc ++ [y]) S2) → acc.length + xs.length ≤ sizeLine → I k acc S → ∃ ys S2, compL tf bYes elt ρ xs acc S = some (.ok ys S2) ∧ I (k + xs.length) ys S2
  | [], k, acc, S, _, _, h => ⟨acc, S, by simp [compL], h⟩
  | x :: xs, k, acc, S, hx, hl, h => by
    rw [List.length_cons] at hl
    obtain ⟨ρ', y, S2, t, q, h2⟩ := hx 0 x rfl acc S h
    obtain ⟨ys, S3, e, h3⟩ := compL_draw I xs (k + 1) (acc ++ [y]) S2 (fun j z hz acc S hI => by
      have := hx (j + 1) z (by simpa using hz) acc S (by rwa [show k + (j + 1) = k + 1 + j by omega])
      rwa [show k + (j + 1) + 1 = k + 1 + j + 1 by omega] at this) (by simp; omega) h2
    refine ⟨ys, S3, ?_, by rw [List.length_cons, show k + (xs.length + 1) = k + 1 + xs.length by omega]; exact h3⟩
    unfold compL
    have h1 : bYes ρ' S = some (.ok true S) := rfl
    simp only [t, h1, q]
    rw [if_pos (by omega), e]
theorem lc_draw {it : Rho → Mo (List SV)} {tf : TgF} {elt : Rho → Mo SV} {vs : List Nat} {ρ : Rho} {S S1 : Sto} {xs : List SV} (I : Nat → List SV → Sto → Prop) (hi : it ρ S = some (.ok xs S1)) (hl : xs.length ≤ sizeLine) (h0 : I 0 [] S1) (h : ∀ (j : Nat) x, xs[j]? = some x → ∀ acc S, I j acc S → ∃ ρ' y S2, tf x (wipeR ρ vs) = some ρ' ∧ elt ρ' S = some (.ok y S2) ∧ I (j + 1) (acc ++ [y]) S2) :
    ∃ ys S2, eLc it tf bYes elt vs ρ S = some (.ok (.own ys) S2) ∧ I xs.length ys S2 := by
  obtain ⟨ys, S2, e, k⟩ := compL_draw I xs 0 [] S1 (fun j x hx acc S hI => by
    rw [Nat.zero_add] at hI ⊢
    exact h j x hx acc S hI) (by simpa using hl) h0
  refine ⟨ys, S2, ?_, by simpa using k⟩
  unfold eLc
  rw [hi]
  simp only [bindM_ok, e]
end M

end
section
set_option Elab.async false
set_option linter.all false
set_option maxRecDepth 100000
/-! C1: the fractions of the program and of the law. -/
namespace M
open PySem PySem.Spec PyProof.Rows L2 VL
theorem rat_mk {p q : Int} (h : 0 < q) : PyData.tuple [.int (p / (Int.gcd p q : Int)), .int (q / (Int.gcd p q : Int))] = rD (Rat.divInt p q) := by
  have hn : (Rat.divInt p q).num = p / (Int.gcd p q : Int) := by
    rw [Rat.num_divInt, Int.sign_eq_one_of_pos h, Int.one_mul, Int.gcd_comm]
  have hd : ((Rat.divInt p q).den : Int) = q / (Int.gcd p q : Int) := by
    rw [Rat.den_divInt, if_neg (by omega), Int.gcd_comm, Int.natCast_ediv]
    congr 1
    omega
  unfold rD
  rw [hn, hd]
abbrev rS (x : Rat) : SV := .d (rD x)
@[simp] theorem rD_at0 (x : Rat) : atI ([PyData.int x.num, .int (x.den : Int)].map SV.d) 0 = some (.d (.int x.num)) := rfl
@[simp] theorem rD_at1 (x : Rat) : atI ([PyData.int x.num, .int (x.den : Int)].map SV.d) 1 = some (.d (.int (x.den : Int))) := rfl
@[simp] theorem seq_rD (S : Sto) (x : Rat) : seq? S (.d (rD x)) = some [.d (.int x.num), .d (.int (x.den : Int))] := rfl
@[simp] theorem gIx_rD (S : Sto) (x : Rat) (i : Int) : gIx S (.d (rD x)) (.d (.int i)) = (atI [SV.d (.int x.num), .d (.int (x.den : Int))] i).bind fun z => if noOwn z then some z else none := rfl
@[simp] theorem at20 (x y : SV) : atI [x, y] 0 = some x := rfl
@[simp] theorem at21 (x y : SV) : atI [x, y] 1 = some y := rfl
@[simp] theorem at30 (x y z : SV) : atI [x, y, z] 0 = some x := rfl
@[simp] theorem at31 (x y z : SV) : atI [x, y, z] 1 = some y := rfl
@[simp] theorem at32 (x y z : SV) : atI [x, y, z] 2 = some z := rfl
theorem ok_parts {x y : Rat} (hx : Ok x) (hy : Ok y) : ∃ b, b ≤ 20000000 ∧ Bd b x.num ∧ Bd b (x.den : Int) ∧ Bd b y.num ∧ Bd b (y.den : Int) := by
  obtain ⟨a, ha, h1, h2⟩ := hx
  obtain ⟨c, hc, h3, h4⟩ := hy
  exact ⟨max a c, by omega, h1.mono (by omega), h2.mono (by omega), h3.mono (by omega), h4.mono (by omega)⟩
theorem num_ne {x : Rat} (h : x ≠ 0) : x.num ≠ 0 := fun e => h (Rat.num_eq_zero.mp e)
--# common
theorem while_common (S : Sto) : ∀ (n : Nat) (p q : Int), 0 ≤ q → q.toNat ≤ n → ∃ g : Int, g.natAbs = Int.gcd p q ∧
    sWhile (bB (eBin (cB gNe) (eVar 1) (eCon (.int 0)))) (sPar 0 1 (aCons (eVarV 1) (aCons (eBin gMod (eVar 0) (eVar 1)) aNil))) [some (.d (.int p)), some (.d (.int q))] S = some (.nx [some (.d (.int g)), some (.d (.int 0))] S) := by
  intro n
  induction n with
  | zero =>
    intro p q h0 h
    have : q = 0 := by omega
    subst this
    exact ⟨p, by simp, while_stop (S1 := S) (by simp [cB])⟩
  | succ n ih =>
    intro p q h0 h
    by_cases hq : q = 0
    · subst hq
      exact ⟨p, by simp, while_stop (S1 := S) (by simp [cB])⟩
    · have h1 := Int.emod_nonneg p hq
      have h2 := Int.emod_lt_of_pos p (show 0 < q by omega)
      obtain ⟨g, hg, hw⟩ := ih q (p % q) h1 (by omega)
      exact ⟨g, hg.trans (gcd_mod p q), while_go (S1 := S) (by simp [cB, hq]) (by simp [hq, fmod_pos (show 0 < q by omega)]) hw⟩
theorem common_eq (p q : Int) (h : 0 ≤ q) (S : Sto) : G.F_common [.d (.int p), .d (.int q)] S = some (.ok (.d (.int (Int.gcd p q))) S) := by
  obtain ⟨g, hg, hw⟩ := while_common S q.toNat p q h (Nat.le_refl _)
  unfold G.F_common runF rho0 G.f_common
  simp [hw]
  omega
--# lgcd
theorem while_lgcd {b : Nat} (hb : b ≤ 49000000) (S : Sto) : ∀ (n : Nat) (p q : Int), 0 ≤ q → Bd b p → Bd b q → q.toNat ≤ n → ∃ g : Int, g.natAbs = Int.gcd p q ∧
    sWhile (bB (eBin (cB gNe) (eVar 1) (eCon (.int 0)))) (sPar 0 1 (aCons (eVarV 1) (aCons (eBin gSub (eVar 0) (eBin gMulT (eBin gFdivS (eVar 0) (eVar 1)) (eVar 1))) aNil))) [some (.d (.int p)), some (.d (.int q))] S = some (.nx [some (.d (.int g)), some (.d (.int 0))] S) := by
  intro n
  induction n with
  | zero =>
    intro p q h0 sp sq h
    have : q = 0 := by omega
    subst this
    exact ⟨p, by simp, while_stop (S1 := S) (by simp [cB])⟩
  | succ n ih =>
    intro p q h0 sp sq h
    by_cases hq : q = 0
    · subst hq
      exact ⟨p, by simp, while_stop (S1 := S) (by simp [cB])⟩
    · have qp : 0 < q := by omega
      have h1 := Int.emod_nonneg p hq
      have h2 := Int.emod_lt_of_pos p qp
      obtain ⟨g, hg, hw⟩ := ih q (p % q) h1 sq (by unfold Bd at *; omega) (by omega)
      have m1 : mulOk (p / q) q = true := mulOk_bd sp.div sq (by omega)
      have e1 := ediv_mul_sub p q
      exact ⟨g, hg.trans (gcd_mod p q), while_go (S1 := S) (by simp [cB, hq]) (by simp [hq, fdiv_pos qp, m1, e1]) hw⟩
theorem lgcd_eq {b : Nat} (p q : Int) (h : 0 ≤ q) (sp : Bd b p) (sq : Bd b q) (hb : b ≤ 49000000) (S : Sto) : G.F__law_gcd [.d (.int p), .d (.int q)] S = some (.ok (.d (.int (Int.gcd p q))) S) := by
  obtain ⟨g, hg, hw⟩ := while_lgcd hb S q.toNat p q h sp sq (Nat.le_refl _)
  unfold G.F__law_gcd runF rho0 G.f__law_gcd
  simp [hw]
  omega
--# lawf
theorem lawf_eq {p q : Int} {b : Nat} (h : q ≠ 0) (sp : Bd b p) (sq : Bd b q) (hb : b ≤ 49000000) (S : Sto) : G.F__law_f [.d (.int p), .d (.int q)] S = some (.ok (rS (Rat.divInt p q)) S) := by
  unfold G.F__law_f runF rho0 G.f__law_f
  by_cases hn : q < 0
  · have c := lgcd_eq (-p) (-q) (by omega) sp.neg sq.neg hb S
    have g := gcd_pos (p := -p) (q := -q) (by omega)
    have g0 : ((Int.gcd (-p) (-q) : Nat) : Int) ≠ 0 := by omega
    have r := rat_mk (p := -p) (q := -q) (by omega)
    rw [Rat.divInt_neg', Int.neg_neg] at r
    simp only [Int.gcd_neg, Int.neg_gcd] at c g g0 r
    simp [cB, h, hn, c, g0, fdiv_pos g, sizeLine_eq, r]
  · have c := lgcd_eq p q (by omega) sp sq hb S
    have g := gcd_pos (p := p) (q := q) (by omega)
    have g0 : ((Int.gcd p q : Nat) : Int) ≠ 0 := by omega
    have r := rat_mk (p := p) (q := q) (by omega)
    simp [cB, h, hn, c, g0, fdiv_pos g, sizeLine_eq, r]
--# end
end M

end
section
set_option Elab.async false
set_option linter.all false
set_option maxRecDepth 100000
/-! C2: data, fractions and webs that are looked at. -/
namespace M
open PySem PySem.Spec PyProof.Rows L2 VL
/-! data -/
def atomB : PyData → Bool
  | .none => true
  | .bool _ => true
  | .int _ => true
  | .str s => PyData.strOk s
  | _ => false
def nd : Nat → PyData → Bool
  | k + 1, .tuple ds => ds.all (nd k)
  | k + 1, .list ds => ds.all (nd k)
  | _, d => atomB d
theorem nd_atom {k : Nat} {d : PyData} (h : atomB d = true) : nd k d = true := by
  cases d with
  | tuple _ => cases h
  | list _ => cases h
  | dict _ => cases h
  | _ => cases k <;> exact h
@[simp] theorem nd_int (k : Nat) (i : Int) : nd k (.int i) = true := nd_atom rfl
@[simp] theorem nd_bool (k : Nat) (i : Bool) : nd k (.bool i) = true := nd_atom rfl
@[simp] theorem nd_none (k : Nat) : nd k .none = true := nd_atom rfl
theorem nd_mono : ∀ (k k' : Nat), k ≤ k' → ∀ d, nd k d = true → nd k' d = true
  | 0, k', _, d, h => by
    cases d with
    | tuple _ => cases h
    | list _ => cases h
    | dict _ => cases h
    | _ => exact nd_atom h
  | k + 1, 0, hk, d, h => by omega
  | k + 1, k' + 1, hk, d, h => by
    have ih := nd_mono k k' (by omega)
    cases d with
    | tuple ds =>
      simp only [nd, List.all_eq_true] at h ⊢
      exact fun x m => ih x (h x m)
    | list ds =>
      simp only [nd, List.all_eq_true] at h ⊢
      exact fun x m => ih x (h x m)
    | _ => exact h
mutual
theorem nd_shape : ∀ (k : Nat) (d : PyData), nd k d = true → d.canLay0 = true ∧ d.depth ≤ k
  | k, .none, _ => ⟨by simp [PyData.canLay0], by simp [PyData.depth]⟩
  | k, .bool _, _ => ⟨by simp [PyData.canLay0], by simp [PyData.depth]⟩
  | k, .int _, _ => ⟨by simp [PyData.canLay0], by simp [PyData.depth]⟩
  | k, .str s, h => ⟨by
    have : PyData.strOk s = true := by cases k <;> exact h
    simpa [PyData.canLay0] using this, by simp [PyData.depth]⟩
  | 0, .tuple _, h => by cases h
  | 0, .list _, h => by cases h
  | k, .dict _, h => by cases k <;> cases h
  | k + 1, .tuple ds, h => by
    simp only [nd] at h
    have := nd_shapes k ds h
    refine ⟨by simp only [PyData.canLay0]; exact this.1, by simp only [PyData.depth]; omega⟩
  | k + 1, .list ds, h => by
    simp only [nd] at h
    have := nd_shapes k ds h
    refine ⟨by simp only [PyData.canLay0]; exact this.1, by simp only [PyData.depth]; omega⟩
theorem nd_shapes : ∀ (k : Nat) (ds : List PyData), ds.all (nd k) = true → PyData.canLayAll0 ds = true ∧ PyData.depthAll ds ≤ k
  | k, [], _ => ⟨by simp [PyData.canLayAll0], by simp [PyData.depthAll]⟩
  | k, d :: ds, h => by
    rw [List.all_cons, Bool.and_eq_true] at h
    have h1 := nd_shape k d h.1
    have h2 := nd_shapes k ds h.2
    refine ⟨by simp [PyData.canLayAll0, h1.1, h2.1], by simp only [PyData.depthAll]; omega⟩
end
theorem nd_shaped {k : Nat} {d : PyData} (h : nd k d = true) (hk : k ≤ 64) : SeqAt.shaped d = true := by
  obtain ⟨h1, h2⟩ := nd_shape k d h
  show (d.canLay0 && decide (d.depth ≤ 64)) = true
  rw [h1, decide_eq_true (by omega)]
  rfl
theorem nd_mk {k : Nat} {ds : List PyData} (h : ∀ x ∈ ds, nd k x = true) : nd (k + 1) (.tuple ds) = true := by
  simp only [nd, List.all_eq_true]
  exact h
theorem nd_tup {k : Nat} {ds : List PyData} (h : nd (k + 1) (.tuple ds) = true) : ∀ x ∈ ds, nd k x = true := by
  simp only [nd, List.all_eq_true] at h
  exact h
theorem nd_tup' {k : Nat} {ds : List PyData} (h : nd k (.tuple ds) = true) : ∃ j, k = j + 1 ∧ ∀ x ∈ ds, nd j x = true := by
  cases k with
  | zero => cases h
  | succ j => exact ⟨j, rfl, nd_tup h⟩
@[simp] theorem isB_NoneType_int : isB "NoneType" "int" = false := by decide
@[simp] theorem isB_NoneType_bool : isB "NoneType" "bool" = false := by decide
@[simp] theorem isB_NoneType_str : isB "NoneType" "str" = false := by decide
@[simp] theorem isB_NoneType_tuple : isB "NoneType" "tuple" = false := by decide
@[simp] theorem isB_NoneType_list : isB "NoneType" "list" = false := by decide
@[simp] theorem isB_bool_int : isB "bool" "int" = true := by decide
@[simp] theorem isB_bool_bool : isB "bool" "bool" = true := by decide
@[simp] theorem isB_bool_str : isB "bool" "str" = false := by decide
@[simp] theorem isB_bool_tuple : isB "bool" "tuple" = false := by decide
@[simp] theorem isB_bool_list : isB "bool" "list" = false := by decide
@[simp] theorem isB_int_int : isB "int" "int" = true := by decide
@[simp] theorem isB_int_bool : isB "int" "bool" = false := by decide
@[simp] theorem isB_int_str : isB "int" "str" = false := by decide
@[simp] theorem isB_int_tuple : isB "int" "tuple" = false := by decide
@[simp] theorem isB_int_list : isB "int" "list" = false := by decide
@[simp] theorem isB_str_int : isB "str" "int" = false := by decide
@[simp] theorem isB_str_bool : isB "str" "bool" = false := by decide
@[simp] theorem isB_str_str : isB "str" "str" = true := by decide
@[simp] theorem isB_str_tuple : isB "str" "tuple" = false := by decide
@[simp] theorem isB_str_list : isB "str" "list" = false := by decide
@[simp] theorem isB_list_int : isB "list" "int" = false := by decide
@[simp] theorem isB_list_bool : isB "list" "bool" = false := by decide
@[simp] theorem isB_list_str : isB "list" "str" = false := by decide
@[simp] theorem isB_list_tuple : isB "list" "tuple" = false := by decide
@[simp] theorem isB_list_list : isB "list" "list" = true := by decide
@[simp] theorem isB_tuple_int : isB "tuple" "int" = false := by decide
@[simp] theorem isB_tuple_bool : isB "tuple" "bool" = false := by decide
@[simp] theorem isB_tuple_str : isB "tuple" "str" = false := by decide
@[simp] theorem isB_tuple_tuple : isB "tuple" "tuple" = true := by decide
@[simp] theorem isB_tuple_list : isB "tuple" "list" = false := by decide
@[simp] theorem a_gTp (n : Nat) (u : List SV → Rho → Option Rho) (ds : List PyData) (ρ : Rho) : gTp n u (.d (.tuple ds)) ρ = if ds.length = n then u (ds.map .d) ρ else none := rfl
@[simp] theorem a_gTl (n : Nat) (u : List SV → Rho → Option Rho) (ds : List PyData) (ρ : Rho) : gTl n u (.d (.list ds)) ρ = if ds.length = n then u (ds.map .d) ρ else none := rfl
@[simp] theorem a_gsCons (t : TgF) (u : List SV → Rho → Option Rho) (x : SV) (xs : List SV) (ρ : Rho) : gsCons t u (x :: xs) ρ = (t x ρ).bind (u xs) := rfl
@[simp] theorem a_gsNil (ρ : Rho) : gsNil [] ρ = some ρ := rfl
@[simp] theorem a_gNm (i : Nat) (d : PyData) (ρ : Rho) : gNm i (.d d) ρ = some (ρ.set i (some (.d d))) := rfl
@[simp] theorem a_gIxT (S : Sto) (ds : List PyData) (i : Int) : gIx S (.d (.tuple ds)) (.d (.int i)) = (atI (ds.map SV.d) i).bind fun z => if noOwn z then some z else none := rfl
@[simp] theorem a_gIxL (S : Sto) (ds : List PyData) (i : Int) : gIx S (.d (.list ds)) (.d (.int i)) = (atI (ds.map SV.d) i).bind fun z => if noOwn z then some z else none := rfl
theorem absn (p : Int) : (if p < 0 then -p else p) = (p.natAbs : Int) := by split <;> omega
theorem gpow20 (S : Sto) : gPow S (.d (.int 10)) (.d (.int 20)) = some (.d (.int 100000000000000000000)) := by
  have : (10 : Int) ^ 20 = 100000000000000000000 := by decide
  unfold gPow
  simp
def isI : PyData → Bool
  | .int _ => true
  | _ => false
/-- a fraction that may be handed in -/
def isFr : PyData → Bool
  | .tuple [.int p, .int q] => decide (1 ≤ q) && decide ((p.natAbs : Int) < 100000000000000000000) && decide (q < 100000000000000000000) && decide (Int.gcd p q = 1)
  | _ => false
theorem len3 {r : List PyData} : ¬ ((r.length : Nat) : Int) + 1 + 1 + 1 = 2 := by omega
theorem beq_one (g : Nat) : (((g : Nat) : Int) == 1) = decide (g = 1) := by
  by_cases h : g = 1
  · simp [h]
  · rw [decide_eq_false h]; exact beq_eq_false_iff_ne.mpr (by omega)
theorem gcd1_nat {p q : Int} : (((Int.gcd p q : Nat) : Int) = 1) ↔ Int.gcd p q = 1 := by omega
def top0 : PyData → Bool
  | .tuple (.int p :: _) => decide (0 < p)
  | _ => false
/-- a wire between two of n joints -/
def isWr (n : Int) : PyData → Bool
  | .tuple [.int a, .int b, f] => decide (0 ≤ a) && decide (a < b) && decide (b < n) && isFr f && top0 f
  | _ => false
theorem len4 {r : List PyData} : ¬ ((r.length : Nat) : Int) + 1 + 1 + 1 + 1 = 3 := by omega
theorem isFr_form {f : PyData} (h : isFr f = true) : ∃ p q, f = .tuple [.int p, .int q] := by
  unfold isFr at h
  split at h
  · exact ⟨_, _, rfl⟩
  · cases h
theorem seq_nx {s t : Rho → Sto → Option VL.Fl} {ρ ρ2 : Rho} {S S2 : Sto} {r : Option VL.Fl} (h : s ρ S = some (.nx ρ2 S2)) (q : t ρ2 S2 = r) : sSeq s t ρ S = r := by
  rw [a_sSeq, h]
  exact q
theorem seq_rt {s t : Rho → Sto → Option VL.Fl} {ρ : Rho} {S S2 : Sto} {x : SV} (h : s ρ S = some (.rt x S2)) : sSeq s t ρ S = some (.rt x S2) := by
  rw [a_sSeq, h]
theorem compL_mapF {α : Type} {tf : TgF} {elt : Rho → Mo SV} {ρ : Rho} {S : Sto} (f g : α → SV) : ∀ (l : List α) (acc : List SV), (∀ a ∈ l, ∃ ρ', tf (f a) ρ = some ρ' ∧ elt ρ' S = some (.ok (g a) S)) → acc.length + l.length ≤ sizeLine →
    compL tf bYes elt ρ (l.map f) acc S = some (.ok (acc ++ l.map g) S)
  | [], acc, _, _ => by simp [compL]
  | a :: l, acc, h, hl => by
    obtain ⟨ρ', ht, h2⟩ := h a List.mem_cons_self
    rw [List.length_cons] at hl
    have ih := compL_mapF f g l (acc ++ [g a]) (fun z m => h z (List.mem_cons_of_mem _ m)) (by simp; omega)
    have h1 : bYes ρ' S = some (.ok true S) := rfl
    rw [List.map_cons]
    unfold compL
    simp only [ht, h1, h2]
    rw [if_pos (by omega), ih]
    simp
theorem eLc_mapF {α : Type} {it : Rho → Mo (List SV)} {tf : TgF} {elt : Rho → Mo SV} {vs : List Nat} {ρ : Rho} {S : Sto} {l : List α} (f g : α → SV) (hi : it ρ S = some (.ok (l.map f) S)) (h : ∀ a ∈ l, ∃ ρ', tf (f a) (wipeR ρ vs) = some ρ' ∧ elt ρ' S = some (.ok (g a) S)) (hl : l.length ≤ sizeLine) :
    eLc it tf bYes elt vs ρ S = some (.ok (.own (l.map g)) S) := by
  unfold eLc
  rw [hi]
  have := compL_mapF (tf := tf) (elt := elt) (ρ := wipeR ρ vs) (S := S) f g l [] h (by simpa using hl)
  simp only [bindM_ok, this]
  simp

/-! bools -/
theorem bools_map : ∀ bs : List Bool, VL.bools (bs.map fun b => SV.d (.bool b)) = some bs
  | [] => rfl
  | b :: bs => by simp [VL.bools, bools_map bs]
theorem allD_bools : ∀ bs : List Bool, VL.allD (bs.map fun b => SV.d (.bool b)) = some (bs.map PyData.bool)
  | [] => rfl
  | b :: bs => by simp [VL.allD, allD_bools bs]
theorem can_bools : ∀ bs : List Bool, PyData.canLayAll0 (bs.map PyData.bool) = true ∧ PyData.depthAll (bs.map PyData.bool) = 0
  | [] => by simp [PyData.canLayAll0, PyData.depthAll]
  | b :: bs => by
    obtain ⟨h1, h2⟩ := can_bools bs
    simp [PyData.canLayAll0, PyData.depthAll, PyData.canLay0, PyData.depth, h1, h2]
theorem gAll_b (S : Sto) (bs : List Bool) : gAll S [.own (bs.map fun b => SV.d (.bool b))] = some (.d (.bool (bs.all id))) := by
  simp [gAll, lst?, bools_map]
theorem notin_b (S : Sto) (bs : List Bool) : gNotIn S (.d (.bool false)) (.own (bs.map fun b => SV.d (.bool b))) = some (bs.all id) := by
  obtain ⟨h1, h2⟩ := can_bools bs
  have s1 : SeqAt.shaped (.list (bs.map PyData.bool)) = true := by
    show (PyData.canLay0 (.list (bs.map PyData.bool)) && decide (PyData.depth (.list (bs.map PyData.bool)) ≤ 64)) = true
    simp [PyData.canLay0, PyData.depth, h1, h2]
  have s2 : SeqAt.shaped (.bool false) = true := by decide +kernel
  unfold gNotIn
  simp only [dat?, allD_bools, Option.map_some, Option.bind_some, s1, s2, Bool.and_self, if_true, List.any_map]
  congr 1
  induction bs with
  | nil => rfl
  | cons b bs ih =>
    obtain ⟨h1, h2⟩ := can_bools bs
    have s1 : SeqAt.shaped (.list (bs.map PyData.bool)) = true := by
      show (PyData.canLay0 (.list (bs.map PyData.bool)) && decide (PyData.depth (.list (bs.map PyData.bool)) ≤ 64)) = true
      simp [PyData.canLay0, PyData.depth, h1, h2]
    have ih := ih h1 h2 s1
    rw [List.any_cons, Bool.not_or, ih, List.all_cons]
    cases b <;> simp [PyData.eqv]
/-! the order of wires -/
def leW (x y : PyData) : Bool := !PySem.W.dataLt y x
def srt (ws : List PyData) : Bool := (ws.zip ws.tail).all fun p => leW p.1 p.2
theorem isWr_form {n : Int} {d : PyData} (h : isWr n d = true) : ∃ a b p q, d = .tuple [.int a, .int b, .tuple [.int p, .int q]] ∧ 0 ≤ a ∧ a < b ∧ b < n := by
  unfold isWr at h
  split at h
  · rename_i a b f
    simp only [Bool.and_eq_true, decide_eq_true_eq] at h
    obtain ⟨p, q, rfl⟩ := isFr_form h.1.2
    exact ⟨a, b, p, q, rfl, h.1.1.1.1, h.1.1.1.2, h.1.1.2⟩
  · cases h
theorem leW_eq {k : Nat} {n : Int} {x y : PyData} (hx : nd k x = true) (hk : k ≤ 64) (h1 : isWr n x = true) (h2 : isWr n y = true) (S : Sto) : gLeD S (.d x) (.d y) = some (leW x y) := by
  have sh := nd_shaped hx hk
  obtain ⟨a, b, p, q, rfl, _⟩ := isWr_form h1
  obtain ⟨a', b', p', q', rfl, _⟩ := isWr_form h2
  unfold gLeD leW
  simp only
  rw [sh]
  have : PySem.W.alike (.tuple [.int a, .int b, .tuple [.int p, .int q]]) (.tuple [.int a', .int b', .tuple [.int p', .int q']]) = true := by simp [PySem.W.alike, PySem.W.alikeAll]
  rw [this]
  rfl
/-- a web -/
def isWb : PyData → Bool
  | .tuple [.str w, .int n, .tuple ws] => decide (w = "web") && decide (1 ≤ n) && decide (n ≤ 24) && decide (ws.length ≤ 60) && ws.all (isWr n) && srt ws
  | _ => false

theorem sIx_pos (n dd : Nat) {i : Int} (h : 0 ≤ i) : HT.sIx n dd (some i) = min i.toNat n := by
  show (if i < 0 then (i + (n : Int)).toNat else min i.toNat n) = min i.toNat n
  rw [if_neg (by omega)]
theorem cut_from {α : Type} (xs : List α) {i : Int} (h : 0 ≤ i) : cutL xs (some i) none = xs.drop i.toNat := by
  unfold cutL
  rw [sIx_pos _ _ h]
  show (xs.drop (min i.toNat xs.length)).take (xs.length - min i.toNat xs.length) = _
  rw [List.take_of_length_le (by rw [List.length_drop]; omega)]
  rcases Nat.le_total i.toNat xs.length with z | z
  · rw [Nat.min_eq_left z]
  · rw [Nat.min_eq_right z, List.drop_of_length_le (Nat.le_refl _), List.drop_of_length_le z]
theorem cut_to {α : Type} (xs : List α) {i : Int} (h : 0 ≤ i) : cutL xs none (some i) = xs.take i.toNat := by
  unfold cutL
  rw [sIx_pos _ _ h]
  show (xs.drop 0).take (min i.toNat xs.length - 0) = _
  rw [List.drop_zero, Nat.sub_zero]
  rcases Nat.le_total i.toNat xs.length with z | z
  · rw [Nat.min_eq_left z]
  · rw [Nat.min_eq_right z, List.take_of_length_le (Nat.le_refl _), List.take_of_length_le z]
theorem atI_nat {α : Type} (xs : List α) {j : Nat} (h : j < xs.length) : atI xs (j : Int) = some xs[j] := by
  have e : ixN xs.length (j : Int) = some j := by
    unfold ixN
    simp
    omega
  unfold atI
  rw [e]
  simp [h]
@[simp] theorem a_gSlT (S : Sto) (ds : List PyData) (lo hi : Option Int) : gSl S (.d (.tuple ds)) lo hi = some (.d (.tuple (cutL ds lo hi))) := rfl
section
variable {k : Nat} {n : Int} {d w m t : PyData} {ws : List PyData} {S : Sto}
def isWeb : PyData → Bool
  | .str s => decide (s = "web")
  | _ => false
theorem ne_web (h : nd k w = true) (hk : k ≤ 64) (S : Sto) : gNe S (.d w) (.d (.str "web")) = some (!isWeb w) := by
  have s1 := nd_shaped h hk
  have s2 : SeqAt.shaped (.str "web") = true := by decide +kernel
  unfold gNe
  simp only [dat_d, Option.bind_some, s1, s2, Bool.and_self, if_true]
  congr 2
  cases w with
  | dict _ => cases k <;> cases h
  | str s =>
    simp only [PyData.eqv, isWeb]
    by_cases e : s = "web"
    · simp [e]
    · rw [decide_eq_false e]; exact beq_eq_false_iff_ne.mpr e
  | _ => simp [PyData.eqv, isWeb]
theorem isWb_no (h : ¬ ∃ n ws, d = .tuple [.str "web", .int n, .tuple ws]) : isWb d = false := by
  unfold isWb
  split
  · rename_i w n ws
    by_cases e : w = "web"
    · subst e
      exact absurd ⟨n, ws, rfl⟩ h
    · rw [decide_eq_false e]
      rfl
  · rfl
end
theorem run_rt {n : Nat} {f : Rho → Sto → Option VL.Fl} {xs : List SV} {S S' : Sto} {x : SV} (q : f (rho0 n xs) S = some (.rt x S')) : runF n f xs S = some (.ok x S') := by
  unfold runF; rw [q]
theorem run_nx {n : Nat} {f : Rho → Sto → Option VL.Fl} {xs : List SV} {S S' : Sto} {ρ : Rho} (q : f (rho0 n xs) S = some (.nx ρ S')) : runF n f xs S = some (.ok (.d .none) S') := by
  unfold runF; rw [q]
theorem run_ex {n : Nat} {f : Rho → Sto → Option VL.Fl} {xs : List SV} {S S' : Sto} {ρ : Rho} {c : Str} {fs : List (Str × SV)} (q : f (rho0 n xs) S = some (.exc c fs ρ S')) : runF n f xs S = some (.exc c fs S') := by
  unfold runF; rw [q]
@[simp] theorem getP_nil_o (xs : List SV) : getP [] (.own xs) = some xs := rfl
@[simp] theorem putP_nil (ys xs : List SV) : putP [] ys (.own xs) = .own ys := rfl
--# any_fraction
section
variable {k : Nat} {d x y : PyData} {S : Sto}
theorem any_eq (h : nd k d = true) (S : Sto) : G.F_is_any_fraction [.d d] S = some (.ok (.d (.bool (match d with
    | .tuple [.int p, .int q] => decide (1 ≤ q) && decide (Int.gcd p q = 1)
    | _ => false))) S) := by
  unfold G.F_is_any_fraction runF rho0 G.f_is_any_fraction
  cases d with
  | dict _ => cases k <;> cases h
  | tuple ds =>
    obtain ⟨j, rfl, hx⟩ := nd_tup' h
    match ds with
    | [] => simp [cB]
    | [x] => simp [cB]
    | x :: y :: z :: r =>
      have l3 := @len3 r
      simp [cB, l3]
    | [x, y] =>
      have h1 := hx x (by simp)
      have h2 := hx y (by simp)
      cases x with
      | dict _ => cases j <;> cases h1
      | int p =>
        cases y with
        | dict _ => cases j <;> cases h2
        | int q =>
          by_cases hq : q < 1
          · have : ¬ 1 ≤ q := by omega
            simp [cB, hq, this]
          · have c := common_eq p q (by omega) S
            have : 1 ≤ q := by omega
            simp [cB, hq, this, c, beq_one]
        | _ => simp [cB]
      | _ => simp [cB]
  | _ => simp [cB]
end
--# is_fraction
section
variable {k : Nat} {d x y : PyData} {S : Sto}
theorem isfr_eq (h : nd k d = true) (S : Sto) : G.F_is_fraction [.d d] S = some (.ok (.d (.bool (isFr d))) S) := by
  have a := any_eq h S
  unfold G.F_is_fraction runF rho0 G.f_is_fraction
  cases d with
  | tuple ds =>
    match ds with
    | [] => simp [a, isFr]
    | [x] => simp [a, isFr]
    | x :: y :: z :: r => simp [a, isFr]
    | [x, y] =>
      cases x with
      | int p =>
        cases y with
        | int q =>
          simp only at a
          cases e : (decide (1 ≤ q) && decide (Int.gcd p q = 1)) with
          | false =>
            rw [e] at a
            simp only [Bool.and_eq_false_iff, decide_eq_false_iff_not] at e
            have : isFr (.tuple [.int p, .int q]) = false := by
              rcases e with e | e <;> simp [isFr, e]
            simp [a, this]
          | true =>
            rw [e] at a
            simp only [Bool.and_eq_true, decide_eq_true_eq] at e
            have hq : q.natAbs = q.toNat := by omega
            by_cases b1 : (p.natAbs : Int) < 100000000000000000000 <;> simp [a, eAnd, cB, isFr, e.1, e.2, atI, ixN, absn, b1]
        | _ => simp [a, isFr]
      | _ => simp [a, isFr]
  | _ => simp [a, isFr]
end
--# is_integer
section
variable {k : Nat} {d x y : PyData} {S : Sto}
theorem isint_eq (h : nd k d = true) (lo hi : Int) (S : Sto) : G.F_is_integer [.d d, .d (.int lo), .d (.int hi)] S = some (.ok (.d (.bool (match d with
    | .int i => decide (lo ≤ i) && decide (i ≤ hi)
    | _ => false))) S) := by
  unfold G.F_is_integer runF rho0 G.f_is_integer
  cases d with
  | dict _ => cases k <;> cases h
  | int i => by_cases c : lo ≤ i <;> simp [eAnd, eChain, c]
  | _ => simp [eAnd]
end
--# is_wire
section
variable {k : Nat} {d x y : PyData} {S : Sto}
theorem iswire_eq (h : nd k d = true) (n : Int) (S : Sto) : G.F_is_wire [.d d, .d (.int n)] S = some (.ok (.d (.bool (isWr n d))) S) := by
  unfold G.F_is_wire runF rho0 G.f_is_wire
  cases d with
  | dict _ => cases k <;> cases h
  | tuple ds =>
    obtain ⟨j, rfl, hx⟩ := nd_tup' h
    match ds with
    | [] => simp [cB, isWr]
    | [x] => simp [cB, isWr]
    | [x, y] => simp [cB, isWr]
    | x :: y :: z :: w :: r =>
      have l3 := @len4 r
      simp [cB, l3, isWr]
    | [x, y, f] =>
      have h1 := hx x (by simp)
      have h2 := hx y (by simp)
      have h3 := hx f (by simp)
      have i1 := isint_eq h1 0 (n - 1) S
      have i3 := isfr_eq h3 S
      cases x with
      | int a =>
        have i2 := isint_eq h2 (a + 1) (n - 1) S
        simp only at i1
        cases y with
        | int b =>
          simp only at i2
          by_cases c1 : 0 ≤ a
          · by_cases c2 : a ≤ n - 1
            · by_cases c3 : a + 1 ≤ b
              · by_cases c4 : b ≤ n - 1
                · have c3' : a < b := by omega
                  have c4' : b < n := by omega
                  cases hf : isFr f with
                  | false =>
                    rw [hf] at i3
                    simp [cB, i1, i2, i3, atI, ixN, c1, c2, c3, c4, c3', c4', isWr, hf, eAnd]
                  | true =>
                    rw [hf] at i3
                    obtain ⟨p, q, rfl⟩ := isFr_form hf
                    simp [cB, i1, i2, i3, atI, ixN, c1, c2, c3, c4, c3', c4', isWr, hf, eAnd, top0]
                · have c4' : ¬ b < n := by omega
                  simp [cB, i1, i2, atI, ixN, c1, c2, c3, c4, c4', isWr]
              · have c3' : ¬ a < b := by omega
                simp [cB, i1, i2, atI, ixN, c1, c2, c3, c3', isWr]
            · have c2' : ¬ (a < b ∧ b < n) := by omega
              have : isWr n (.tuple [.int a, .int b, f]) = false := by
                unfold isWr
                by_cases z : a < b
                · have : ¬ b < n := by omega
                  simp [this]
                · simp [z]
              simp [cB, i1, atI, ixN, c1, c2, this]
          · simp [cB, i1, atI, ixN, c1, isWr]
        | dict _ => cases j <;> cases h2
        | _ =>
          have : ∀ b, (b && false) = false := Bool.and_false
          cases e : (decide (0 ≤ a) && decide (a ≤ n - 1)) <;> (rw [e] at i1; simp [cB, i1, i2, atI, ixN, isWr])
      | dict _ => cases j <;> cases h1
      | _ => simp [cB, i1, atI, ixN, isWr]
  | _ => simp [cB, isWr]

end
--# is_web
section
variable {k : Nat} {n : Int} {d w m t : PyData} {ws : List PyData} {S : Sto} {s1 s2 s3 s4 s5 s6 : Option SV}
noncomputable abbrev v0 : Rho → Sto → Option VL.Fl := (sIf (bOr (bNot (bVal (eIsi1 (eVar 0) ["tuple"]))) (bOr (bB (eBin (cB gNe) (eCal gLen (aCons (eVar 0) aNil)) (eCon (.int 3)))) (bB (eBin (cB gNe) (eBin gIxB (eVar 0) (eCon (.int 0))) (eCon (.str "web"))))))
  (sRet (eCon (.bool false)))
  sNil)
noncomputable abbrev v1 : Rho → Sto → Option VL.Fl := (sAsg (gTp 3 (gsCons (gNm 1) (gsCons (gNm 2) (gsCons (gNm 3) gsNil)))) (eVarV 0))
noncomputable abbrev v2 : Rho → Sto → Option VL.Fl := (sIf (bOr (bNot (bVal (eCall 3 G.F_is_integer [] (aCons (eVarV 2) (aCons (eCon (.int 1)) (aCons (eCon (.int 24)) aNil)))))) (bOr (bNot (bVal (eIsi1 (eVar 3) ["tuple"]))) (bB (eBin (cB gGt) (eCal gLen (aCons (eVar 3) aNil)) (eCon (.int 60))))))
  (sRet (eCon (.bool false)))
  sNil)
noncomputable abbrev v3 : Rho → Sto → Option VL.Fl := (sIf (bNot (bVal (eCal gAll (aCons (eLc (iSeq (eVar 3)) (gNm 4) bYes (eCall 2 G.F_is_wire [] (aCons (eVarV 4) (aCons (eVarV 2) aNil))) [4]) aNil))))
  (sRet (eCon (.bool false)))
  sNil)
noncomputable abbrev v4 : Rho → Sto → Option VL.Fl := (sRet (eCal gAll (aCons (eLc (iZip2 (aCons (eVar 3) (aCons (eSl (eVar 3) (pSome (eCon (.int 1))) pNone) aNil))) (gTp 2 (gsCons (gNm 5) (gsCons (gNm 6) gsNil))) bYes (eBin (cB gLeD) (eVar 5) (eVar 6)) [5, 6]) aNil)))
theorem iw_run (x : SV) (S : Sto) : G.F_is_web [x] S = (match sSeq v0 (sSeq v1 (sSeq v2 (sSeq v3 v4))) [some x, none, none, none, none, none, none] S with
      | some (.nx _ S') => some (.ok (.d .none) S')
      | some (.rt x S') => some (.ok x S')
      | some (.exc c fs _ S') => some (.exc c fs S')
      | _ => none) := rfl
abbrev rW (n : Int) (ws : List PyData) (s4 s5 s6 : Option SV) : Rho := [some (.d (.tuple [.str "web", .int n, .tuple ws])), some (.d (.str "web")), some (.d (.int n)), some (.d (.tuple ws)), s4, s5, s6]
theorem v3_eq (hw : ∀ u ∈ ws, nd k u = true) (hl : ws.length ≤ 60) (S : Sto) : v3 (rW n ws s4 s5 s6) S = (if ws.all (isWr n) then some (.nx (rW n ws s4 s5 s6) S) else some (.rt (.d (.bool false)) S)) := by
  have c := eLc_mapF (S := S) (ρ := rW n ws s4 s5 s6) (vs := [4]) (it := VL.iSeq (eVar 3)) (tf := gNm 4) (elt := (eCall 2 G.F_is_wire [] (aCons (eVarV 4) (aCons (eVarV 2) aNil)))) (l := ws) (fun u => SV.d u) (fun u => SV.d (.bool (isWr n u))) (by
      rw [a_iSeq]
      have : (eVar 3) (rW n ws s4 s5 s6) S = some (.ok (.d (.tuple ws)) S) := rfl
      rw [this, bindM_ok]
      simp [seq?, noOwn_ds]) (fun u hu => by
      refine ⟨rW n ws (some (.d u)) s5 s6, rfl, ?_⟩
      have := iswire_eq (hw u hu) n S
      simp [this]) (by rw [sizeLine_eq]; omega)
  have e : (ws.map fun u => SV.d (.bool (isWr n u))) = (ws.map (isWr n)).map fun b => SV.d (.bool b) := by rw [List.map_map]; rfl
  rw [e] at c
  have ga := gAll_b S (ws.map (isWr n))
  have ea : (ws.map (isWr n)).all id = ws.all (isWr n) := by rw [List.all_map]; rfl
  rw [ea] at ga
  generalize (ws.map (isWr n)) = bs at c ga
  unfold v3
  rw [a_sIf]
  simp only [a_bNot, a_bVal, a_eCal, a_aCons, a_aNil]
  rw [c]
  cases h : ws.all (isWr n) with
  | true => rw [h] at ga; simp [ga]
  | false => rw [h] at ga; simp [ga]
theorem v4_eq (hw : ∀ u ∈ ws, nd k u = true) (hk : k ≤ 64) (ha : ws.all (isWr n) = true) (hl : ws.length ≤ 60) (S : Sto) : v4 (rW n ws s4 s5 s6) S = some (.rt (.d (.bool (srt ws))) S) := by
  have ct : cutL ws (some 1) none = ws.tail := by
    rw [cut_from _ (by omega)]
    show ws.drop 1 = ws.tail
    exact List.drop_one
  have c := eLc_mapF (S := S) (ρ := rW n ws s4 s5 s6) (vs := [5, 6]) (it := VL.iZip2 (aCons (eVar 3) (aCons (eSl (eVar 3) (pSome (eCon (.int 1))) pNone) aNil))) (tf := (gTp 2 (gsCons (gNm 5) (gsCons (gNm 6) gsNil)))) (elt := (eBin (cB gLeD) (eVar 5) (eVar 6))) (l := ws.zip ws.tail) (fun p => SV.d (.tuple [p.1, p.2])) (fun p => SV.d (.bool (leW p.1 p.2))) (by
      have : (aCons (eVar 3) (aCons (eSl (eVar 3) (pSome (eCon (.int 1))) pNone) aNil)) (rW n ws s4 s5 s6) S = some (.ok [.d (.tuple ws), .d (.tuple ws.tail)] S) := by simp [eSl, pSome, pNone, ct]
      show VL.iZip2 _ _ _ = _
      unfold iZip2
      rw [this, bindM_ok]
      rfl) (fun p hp => by
      obtain ⟨x, y⟩ := p
      have m1 : x ∈ ws := (List.of_mem_zip hp).1
      have m2 : y ∈ ws := List.mem_of_mem_tail (List.of_mem_zip hp).2
      refine ⟨rW n ws s4 (some (.d x)) (some (.d y)), rfl, ?_⟩
      have le := leW_eq (hw _ m1) hk (List.all_eq_true.mp ha _ m1) (List.all_eq_true.mp ha _ m2) S
      simp [le, cB]) (by rw [sizeLine_eq, List.length_zip]; omega)
  have e : ((ws.zip ws.tail).map fun p => SV.d (.bool (leW p.1 p.2))) = ((ws.zip ws.tail).map fun p => leW p.1 p.2).map fun b => SV.d (.bool b) := by rw [List.map_map]; rfl
  rw [e] at c
  have ga := gAll_b S ((ws.zip ws.tail).map fun p => leW p.1 p.2)
  have ea : ((ws.zip ws.tail).map fun p => leW p.1 p.2).all id = srt ws := by rw [List.all_map]; rfl
  rw [ea] at ga
  generalize ((ws.zip ws.tail).map fun p => leW p.1 p.2) = bs at c ga
  unfold v4
  rw [a_sRet]
  simp only [a_eCal, a_aCons, a_aNil]
  rw [c]
  simp [ga]
theorem iswb_eq (h : nd k d = true) (hk : k ≤ 64) (S : Sto) : G.F_is_web [.d d] S = some (.ok (.d (.bool (isWb d))) S) := by
  rw [iw_run]
  cases d with
  | dict _ => cases k <;> cases h
  | tuple ds =>
    obtain ⟨j, rfl, hx⟩ := nd_tup' h
    match ds with
    | [] => simp [cB, isWb]
    | [x] => simp [cB, isWb]
    | [x, y] => simp [cB, isWb]
    | x :: y :: z :: w :: r =>
      have l3 := @len4 r
      simp [cB, l3, isWb]
    | [w, m, t] =>
      have h1 := hx w (by simp)
      have h2 := hx m (by simp)
      have h3 := hx t (by simp)
      have nw := ne_web h1 (by omega) S
      cases hw : isWeb w with
      | false =>
        rw [hw] at nw
        have : isWb (.tuple [w, m, t]) = false := isWb_no fun ⟨n, ws, e⟩ => by
          injection e with e
          injection e with e _
          subst e
          simp [isWeb] at hw
        have k0 : v0 [some (.d (.tuple [w, m, t])), none, none, none, none, none, none] S = some (.rt (.d (.bool false)) S) := by
          unfold v0
          simp [cB, atI, ixN, nw]
        rw [seq_rt k0, this]
      | true =>
        rw [hw] at nw
        obtain rfl : w = .str "web" := by
          unfold isWeb at hw
          split at hw
          · rw [of_decide_eq_true hw]
          · cases hw
        have k0 : v0 [some (.d (.tuple [.str "web", m, t])), none, none, none, none, none, none] S = some (.nx [some (.d (.tuple [.str "web", m, t])), none, none, none, none, none, none] S) := by
          unfold v0
          simp [cB, atI, ixN, nw]
        have k1 : v1 [some (.d (.tuple [.str "web", m, t])), none, none, none, none, none, none] S = some (.nx [some (.d (.tuple [.str "web", m, t])), some (.d (.str "web")), some (.d m), some (.d t), none, none, none] S) := by
          unfold v1
          simp
        rw [seq_nx k0 (seq_nx k1 rfl)]
        have i1 := isint_eq h2 1 24 S
        cases m with
        | int n =>
          simp only at i1
          by_cases c1 : 1 ≤ n
          · by_cases c2 : n ≤ 24
            · rw [decide_eq_true c1, decide_eq_true c2] at i1
              cases t with
              | dict _ => cases j <;> cases h3
              | tuple ws =>
                obtain ⟨j2, rfl, hws⟩ := nd_tup' h3
                by_cases c3 : ws.length ≤ 60
                · have c3' : ¬ (60 : Int) < (ws.length : Int) := by omega
                  have k2 : v2 (rW n ws none none none) S = some (.nx (rW n ws none none none) S) := by
                    unfold v2
                    simp [cB, i1, c3']
                  have k3 := v3_eq (n := n) (s4 := none) (s5 := none) (s6 := none) hws c3 S
                  cases ha : ws.all (isWr n) with
                  | true =>
                    rw [if_pos ha] at k3
                    rw [seq_nx k2 (seq_nx k3 (v4_eq hws (by omega) ha c3 S))]
                    simp [isWb, c1, c2, c3, ha]
                  | false =>
                    rw [if_neg (by rw [ha]; decide)] at k3
                    rw [seq_nx k2 (seq_rt k3)]
                    simp [isWb, ha]
                · have c3' : (60 : Int) < (ws.length : Int) := by omega
                  have k2 : v2 (rW n ws none none none) S = some (.rt (.d (.bool false)) S) := by
                    unfold v2
                    simp [cB, i1, c3']
                  rw [seq_rt k2]
                  simp [isWb, c3]
              | _ => simp [cB, i1, isWb]
            · rw [decide_eq_true c1, decide_eq_false c2] at i1
              cases t with
              | tuple ws => simp [cB, i1, isWb, c2]
              | _ => simp [cB, i1, isWb]
          · rw [decide_eq_false c1] at i1
            cases t with
            | tuple ws => simp [cB, i1, isWb, c1]
            | _ => simp [cB, i1, isWb]
        | dict _ => cases j <;> cases h2
        | _ =>
          simp only at i1
          simp [cB, i1, isWb]
  | _ => simp [cB, isWb]
end
--# end
end M

end
section
set_option Elab.async false
set_option linter.all false
set_option maxRecDepth 100000
/-! C3: webs as lists of wires (a, b, c). -/
namespace M
open PySem PySem.Spec PyProof.Rows L2 VL
abbrev Wi := Nat × Nat × Rat
def wiD (w : Wi) : PyData := .tuple [.int (w.1 : Int), .int (w.2.1 : Int), rD w.2.2]
def wbD (n : Nat) (ws : List Wi) : PyData := .tuple [.str "web", .int (n : Int), .tuple (ws.map wiD)]
def FrOk (x : Rat) : Prop := x.num.natAbs < 100000000000000000000 ∧ x.den < 100000000000000000000
structure WiOk (n : Nat) (w : Wi) : Prop where
  lt : w.1 < w.2.1
  le : w.2.1 < n
  pos : 0 < w.2.2
  fr : FrOk w.2.2
structure WbOk (n : Nat) (ws : List Wi) : Prop where
  n1 : 1 ≤ n
  n2 : n ≤ 24
  len : ws.length ≤ 60
  all : ∀ w ∈ ws, WiOk n w
  srt : srt (ws.map wiD) = true
theorem npos {x : Rat} (h : 0 < x) : 0 < x.num := by
  have := (Rat.lt_iff 0 x).mp h
  simpa using this
theorem gcd_rat (x : Rat) : Int.gcd x.num x.den = 1 := by
  have := x.reduced
  unfold Nat.Coprime at this
  simpa [Int.gcd] using this
theorem isFr_rD {x : Rat} (h : FrOk x) : isFr (rD x) = true := by
  have h1 := dpos x
  have h2 := gcd_rat x
  obtain ⟨h3, h4⟩ := h
  have h5 : ((x.num.natAbs : Nat) : Int) < 100000000000000000000 := by omega
  have h6 : (x.den : Int) < 100000000000000000000 := by omega
  have h7 : (1 : Int) ≤ x.den := by omega
  unfold isFr rD
  simp [h2, h5, h6, h7]
theorem top0_rD {x : Rat} (h : 0 < x) : top0 (rD x) = true := by
  have := npos h
  simp [top0, rD, this]
theorem isWr_wiD {n : Nat} {w : Wi} (h : WiOk n w) : isWr (n : Int) (wiD w) = true := by
  have h1 := h.lt
  have h2 := h.le
  have h3 := isFr_rD h.fr
  have h4 := top0_rD h.pos
  unfold isWr wiD
  simp only [h3, h4, Bool.and_true, Bool.and_eq_true, decide_eq_true_eq]
  omega
theorem isWr_no {n : Nat} {w : Wi} (h : ¬ (w.1 < w.2.1 ∧ w.2.1 < n ∧ 0 < w.2.2)) : isWr (n : Int) (wiD w) = false := by
  cases e : isWr (n : Int) (wiD w) with
  | false => rfl
  | true =>
    unfold isWr wiD at e
    simp only [Bool.and_eq_true, decide_eq_true_eq] at e
    refine absurd ⟨by omega, by omega, ?_⟩ h
    have := e.2
    simp only [top0, rD, decide_eq_true_eq] at this
    exact (Rat.lt_iff 0 w.2.2).mpr (by simpa using this)
@[simp] theorem nd_rD (k : Nat) (x : Rat) : nd (k + 1) (rD x) = true := by simp [nd, rD]
@[simp] theorem nd_wiD (k : Nat) (w : Wi) : nd (k + 2) (wiD w) = true := by simp [nd, wiD, atomB]
theorem nd_str {k : Nat} {s : Str} (h : PyData.strOk s = true) : nd k (.str s) = true := nd_atom h
theorem ok_web : PyData.strOk "web" = true := by decide +kernel
@[simp] theorem nd_wbD (k n : Nat) (ws : List Wi) : nd (k + 4) (wbD n ws) = true := by
  have h : atomB (.str "web") = true := ok_web
  simp [nd, wbD, h]
  rfl
theorem sh_rD (x : Rat) : SeqAt.shaped (rD x) = true := nd_shaped (k := 1) (nd_rD 0 x) (by omega)
theorem sh_wiD (w : Wi) : SeqAt.shaped (wiD w) = true := nd_shaped (k := 2) (nd_wiD 0 w) (by omega)
theorem sh_wbD (n : Nat) (ws : List Wi) : SeqAt.shaped (wbD n ws) = true := nd_shaped (k := 4) (nd_wbD 0 n ws) (by omega)
theorem isWb_wbD {n : Nat} {ws : List Wi} (h : WbOk n ws) : isWb (wbD n ws) = true := by
  have h1 := h.n1
  have h2 := h.n2
  have h3 := h.len
  have h4 : (ws.map wiD).all (isWr (n : Int)) = true := by
    rw [List.all_eq_true]
    intro d m
    obtain ⟨w, mw, rfl⟩ := List.mem_map.mp m
    exact isWr_wiD (h.all w mw)
  unfold isWb wbD
  simp only [h.srt, h4, List.length_map, Bool.and_true, Bool.and_eq_true, decide_eq_true_eq]
  exact ⟨⟨⟨trivial, by omega⟩, by omega⟩, h3⟩
/-! sorting of wires -/
theorem leW_le (x y : PyData) : PySem.W.dataLe false id x y = leW x y := rfl
theorem leW_total : PySem.W.TotalLe fun x y : PyData => leW x y := PySem.W.sortLe_total (PyProof.Rows.listOrd PyProof.Rows.itemOrd) false (fun b : PyData => PySem.W.keyToks (id b))
def sortW (ws : List Wi) : List Wi := ws.mergeSort fun x y => leW (wiD x) (wiD y)
theorem sortW_perm (ws : List Wi) : (sortW ws).Perm ws := List.mergeSort_perm ws _
theorem sortW_D (ws : List Wi) : sortD (ws.map wiD) = (sortW ws).map wiD := (PySem.W.sort_maps wiD (fun _ _ _ _ => rfl)).symm
theorem srt_pw : ∀ {ws : List PyData}, ws.Pairwise (fun a b => leW a b = true) → srt ws = true
  | [], _ => rfl
  | [_], _ => rfl
  | x :: y :: r, h => by
    rw [List.pairwise_cons] at h
    have ih := srt_pw (ws := y :: r) h.2
    unfold srt at ih ⊢
    simp only [List.tail_cons, List.zip_cons_cons, List.all_cons] at ih ⊢
    rw [h.1 y List.mem_cons_self]
    exact ih
theorem srt_sortW (ws : List Wi) : srt ((sortW ws).map wiD) = true := by
  rw [← sortW_D]
  exact srt_pw (PySem.W.sort_pairwise leW_total (ws.map wiD))
theorem allD_map' {α : Type} (f : α → PyData) : ∀ l : List α, allD (l.map fun x => SV.d (f x)) = some (l.map f)
  | [] => rfl
  | x :: l => by simp [allD, allD_map' f l]
theorem alike_wi (x y : Wi) : PySem.W.alike (wiD x) (wiD y) = true := by simp [wiD, rD, PySem.W.alike, PySem.W.alikeAll]
theorem sortOk_wi {ws : List Wi} (h : ws.length ≤ 1000) : sortOk (ws.map wiD) = true := by
  unfold sortOk
  have h1 : ((ws.map wiD).all fun d => (ws.map wiD).all fun e => PySem.W.alike d e) = true := by
    rw [List.all_eq_true]
    intro d m
    rw [List.all_eq_true]
    intro e m2
    obtain ⟨x, _, rfl⟩ := List.mem_map.mp m
    obtain ⟨y, _, rfl⟩ := List.mem_map.mp m2
    exact alike_wi x y
  have h2 : ((ws.map wiD).all fun d => SeqAt.shaped d) = true := by
    simp only [List.all_map, List.all_eq_true]
    exact fun x _ => sh_wiD x
  have h3 : (ws.map wiD).all isTup1 = true := by
    simp only [List.all_map, List.all_eq_true]
    exact fun x _ => rfl
  rw [h1, h2, h3, List.length_map, decide_eq_true (show ws.length ≤ sizeLine by rw [sizeLine_eq]; omega)]
  rfl
theorem gSorted_wi (S : Sto) {ws : List Wi} (h : ws.length ≤ 1000) : gSorted S [.own (ws.map fun w => SV.d (wiD w))] = some (.own ((sortW ws).map fun w => SV.d (wiD w))) := by
  have e : allD (ws.map fun w => SV.d (wiD w)) = some (ws.map wiD) := allD_map' wiD ws
  simp only [gSorted, lst?, Option.bind_some, e, sortOk_wi h, if_true, sortW_D, List.map_map]
  rfl
theorem gTuple_o (S : Sto) {α : Type} (f : α → PyData) (l : List α) : gTuple S [.own (l.map fun x => SV.d (f x))] = some (.d (.tuple (l.map f))) := by
  simp only [gTuple, lst?, Option.bind_some, allD_map', Option.map_some]
theorem wb_sorted {n : Nat} {ws : List Wi} (n1 : 1 ≤ n) (n2 : n ≤ 24) (l : ws.length ≤ 60) (h : ∀ w ∈ ws, WiOk n w) : WbOk n (sortW ws) :=
  ⟨n1, n2, by rw [(sortW_perm ws).length_eq]; exact l, fun w m => h w ((sortW_perm ws).mem_iff.mp m), srt_sortW ws⟩
--# is_wire
theorem iswire_wi {n : Nat} {w : Wi} (h : WiOk n w) (S : Sto) : G.F_is_wire [.d (wiD w), .d (.int (n : Int))] S = some (.ok (.d (.bool true)) S) := by
  rw [iswire_eq (k := 2) (nd_wiD 0 w), isWr_wiD h]
--# check_web
theorem check_web_eq {k : Nat} {d : PyData} (h : nd k d = true) (hk : k ≤ 64) (S : Sto) : G.F_check_web [.d d] S = if isWb d then some (.ok (.d .none) S) else some (.exc "BadWeb" [] S) := by
  have e := iswb_eq h hk S
  unfold G.F_check_web runF rho0 G.f_check_web
  cases q : isWb d with
  | true => rw [q] at e; simp [e]
  | false => rw [q] at e; simp [e]
theorem check_web_ok {n : Nat} {ws : List Wi} (h : WbOk n ws) (S : Sto) : G.F_check_web [.d (wbD n ws)] S = some (.ok (.d .none) S) := by
  rw [check_web_eq (nd_wbD 0 n ws) (by omega), if_pos (isWb_wbD h)]
--# end
end M

end
section
set_option Elab.async false
set_option linter.all false
set_option maxRecDepth 100000
/-! C4: bags and what is drawn from them. -/
namespace M
open PySem PySem.Spec PyProof.Rows L2 VL
abbrev bagL (a b c d : Int) : List SV := [.d (.int a), .d (.int b), .d (.int c), .d (.int d)]
theorem fmod_nn {p q : Int} (h : 0 < q) : 0 ≤ p.fmod q ∧ p.fmod q < q := by
  rw [fmod_pos h]
  exact ⟨Int.emod_nonneg p (by omega), Int.emod_lt_of_pos p h⟩
@[simp] theorem ixB_r (S : Sto) (m : Nat) (i : Int) : gIxB S (.ref m) (.d (.int i)) = (S[m]?).bind fun xs => atI xs i := rfl
theorem ix_r (S : Sto) (m : Nat) (i : Int) : gIx S (.ref m) (.d (.int i)) = (S[m]?).bind fun xs => (atI xs i).bind fun z => if noOwn z then some z else none := rfl
theorem ix40 : ixN 4 0 = some 0 := by decide
theorem ix41 : ixN 4 1 = some 1 := by decide
theorem ix42 : ixN 4 2 = some 2 := by decide
theorem ix43 : ixN 4 3 = some 3 := by decide
theorem gpow18 (S : Sto) : gPow S (.d (.int 10)) (.d (.int 18)) = some (.d (.int 1000000000000000000)) := by
  have : (10 : Int) ^ 18 = 1000000000000000000 := by decide
  unfold gPow
  simp
/-- a bag that is drawn from -/
def Bs (S : Sto) (m : Nat) (t : Nat) : Prop := ∃ a b c d, S[m]? = some (bagL a b c d) ∧ Bd 2000000 b ∧ 0 ≤ c ∧ c ≤ t ∧ Bd 2000000 d
theorem Bs.mono {S : Sto} {m t u : Nat} (h : Bs S m t) (l : t ≤ u) : Bs S m u := by
  obtain ⟨a, b, c, d, h1, h2, h3, h4, h5⟩ := h
  exact ⟨a, b, c, d, h1, h2, h3, by omega, h5⟩
def lcgS (b c d : Int) : Int := (b * 48271 + d * 69621 + (c + 1) * 16807 + 11).fmod 2147483647
def lcgA (b c d : Int) : Int := if c + 1 = 1 ∧ 1000000000000000000 ≤ d then d else lcgS b c d * 2147483629 + (lcgS b c d * lcgS b c d + d).fmod 2147483629
theorem bd_small {b : Nat} {x : Int} (h : x.natAbs ≤ 1000000000000000000000000000000) (hb : 100 ≤ b) : Bd b x := (bd100 h).mono hb
--# draw
theorem draw_run {a b c d many : Int} {t : Nat} (hb : Bd 2000000 b) (c0 : 0 ≤ c) (c1 : c ≤ t) (ht : t ≤ 1000000) (hd : Bd 2000000 d) (h1 : 0 < many) {S : Sto} {m : Nat} (hS : S[m]? = some (bagL a b c d)) :
    G.F__law_draw [.ref m, .d (.int many)] S = (if a = 0 then some (.ok (.d (.int ((lcgA b c d).fmod many))) (S.set m (bagL ((lcgA b c d).fdiv many) (lcgS b c d) (c + 1) d))) else some (.ok (.d (.int (a.fmod many))) (S.set m (bagL (a.fdiv many) b c d)))) := by
  have hm : m < S.length := (List.getElem?_eq_some_iff.mp hS).1
  have hS2 : S[m]'hm = bagL a b c d := (List.getElem?_eq_some_iff.mp hS).2
  have m0 : ¬ many = 0 := by omega
  have m1 : ¬ many < 1 := by omega
  unfold G.F__law_draw runF rho0 G.f__law_draw
  by_cases ha : a = 0
  · subst ha
    obtain ⟨s0, s1⟩ := fmod_nn (p := b * 48271 + d * 69621 + (c + 1) * 16807 + 11) (q := 2147483647) (by omega)
    have k1 : mulOk b 48271 = true := mulOk_bd hb (bd100 (x := 48271) (by omega)) (by omega)
    have k2 : mulOk d 69621 = true := mulOk_bd hd (bd100 (x := 69621) (by omega)) (by omega)
    have k3 : mulOk (c + 1) 16807 = true := mulOk_bd (bd100 (x := c + 1) (by omega)) (bd100 (x := 16807) (by omega)) (by omega)
    unfold lcgA lcgS
    generalize hs : (b * 48271 + d * 69621 + (c + 1) * 16807 + 11).fmod 2147483647 = s at *
    have k4 : mulOk s 2147483629 = true := mulOk_bd (bd100 (x := s) (by omega)) (bd100 (x := 2147483629) (by omega)) (by omega)
    have k5 : mulOk s s = true := mulOk_bd (bd100 (x := s) (by omega)) (bd100 (x := s) (by omega)) (by omega)
    by_cases e1 : c + 1 = 1
    · obtain rfl : c = 0 := by omega
      have k3' : mulOk 1 16807 = true := by decide +kernel
      have hs' : (b * 48271 + d * 69621 + 16807 + 11).fmod 2147483647 = s := by rw [← hs]; simp
      by_cases e2 : 1000000000000000000 ≤ d
      · simp [cB, k3', hs', hS2, hm, ix_r, k1, k2, k3, k4, k5, hs, sStore, lVar, Lo.get, Lo.put, ix40, ix41, ix42, ix43, m0, m1, e1, e2, gpow18, atI]
      · simp [cB, k3', hs', hS2, hm, ix_r, k1, k2, k3, k4, k5, hs, sStore, lVar, Lo.get, Lo.put, ix40, ix41, ix42, ix43, m0, m1, e1, e2, gpow18, atI]
    · simp [cB, hS2, hm, ix_r, k1, k2, k3, k4, k5, hs, sStore, lVar, Lo.get, Lo.put, ix40, ix41, ix42, ix43, m0, m1, e1, gpow18, atI]
  · simp [cB, hS2, hm, ix_r, ha, sStore, lVar, Lo.get, Lo.put, ix40, ix41, m0, m1, atI]
theorem draw_bs {S : Sto} {m t : Nat} {many : Int} (h : Bs S m t) (ht : t ≤ 1000000) (h1 : 0 < many) : ∃ (r : Nat) (S' : Sto), (r : Int) < many ∧ Bs S' m (t + 1) ∧ G.F__law_draw [.ref m, .d (.int many)] S = some (.ok (.d (.int (r : Int))) S') := by
  obtain ⟨a, b, c, d, hS, hb, c0, c1, hd⟩ := h
  have hm : m < S.length := (List.getElem?_eq_some_iff.mp hS).1
  have e := draw_run hb c0 c1 ht hd h1 hS
  by_cases ha : a = 0
  · rw [if_pos ha] at e
    obtain ⟨r0, r1⟩ := fmod_nn (p := lcgA b c d) h1
    obtain ⟨s0, s1⟩ := fmod_nn (p := b * 48271 + d * 69621 + (c + 1) * 16807 + 11) (q := 2147483647) (by omega)
    refine ⟨((lcgA b c d).fmod many).toNat, S.set m (bagL ((lcgA b c d).fdiv many) (lcgS b c d) (c + 1) d), by omega, ⟨_, _, _, _, List.getElem?_set_self hm, bd_small (x := lcgS b c d) (by unfold lcgS; omega) (by omega), by omega, by omega, hd⟩, ?_⟩
    rw [show ((((lcgA b c d).fmod many).toNat : Nat) : Int) = (lcgA b c d).fmod many by omega]
    exact e
  · rw [if_neg ha] at e
    obtain ⟨r0, r1⟩ := fmod_nn (p := a) h1
    refine ⟨(a.fmod many).toNat, S.set m (bagL (a.fdiv many) b c d), by omega, ⟨_, _, _, _, List.getElem?_set_self hm, hb, c0, by omega, hd⟩, ?_⟩
    rw [show (((a.fmod many).toNat : Nat) : Int) = a.fmod many by omega]
    exact e
theorem draw_n {S : Sto} {m t n : Nat} (h : Bs S m t) (ht : t ≤ 1000000) (h1 : 0 < n) : ∃ (r : Nat) (S' : Sto), r < n ∧ Bs S' m (t + 1) ∧ G.F__law_draw [.ref m, .d (.int (n : Int))] S = some (.ok (.d (.int (r : Int))) S') := by
  obtain ⟨r, S', k, B, e⟩ := draw_bs h ht (many := (n : Int)) (by omega)
  exact ⟨r, S', by omega, B, e⟩
/-- a draw of none -/
theorem draw_0 {S : Sto} {m t : Nat} {many : Int} (h : many < 1) : G.F__law_draw [.ref m, .d (.int many)] S = some (.ok (.d (.int 0)) S) := by
  unfold G.F__law_draw runF rho0 G.f__law_draw
  simp [cB, h]
/-- a draw of n or none -/
theorem draw_any {S : Sto} {m t n : Nat} (h : Bs S m t) (ht : t ≤ 1000000) : ∃ (r : Nat) (S' : Sto), (n = 0 ∧ r = 0 ∨ r < n) ∧ Bs S' m (t + 1) ∧ G.F__law_draw [.ref m, .d (.int (n : Int))] S = some (.ok (.d (.int (r : Int))) S') := by
  by_cases h0 : n = 0
  · exact ⟨0, S, .inl ⟨h0, rfl⟩, h.mono (by omega), draw_0 (t := t) (by omega)⟩
  · obtain ⟨r, S', k, B, e⟩ := draw_n h ht (show 0 < n by omega)
    exact ⟨r, S', .inr k, B, e⟩
--# bag
theorem bag_eq (ns : List Int) (k : Nat) (hk : k ≤ 100) (hb : ∀ z ∈ ns, Bd 2000000 z) (S : Sto) : ∃ b d, Bd 2000000 b ∧ Bd 2000000 d ∧ G.F__law_bag [.scr ns, .d (.int (k : Int))] S = some (.ok (.own (bagL 0 b 0 d)) S) := by
  have km : mulOk 48611 (k : Int) = true := mulOk_bd (bd100 (x := 48611) (by omega)) (bd100 (x := (k : Int)) (by omega)) (by omega)
  by_cases hlt : k < ns.length
  · have hat : atI (ns.map fun n => SV.d (.int n)) (k : Int) = some (.d (.int ns[k])) := by
      rw [atI_nat _ (by simpa using hlt)]
      simp
    refine ⟨_, ns[k], ?_, hb _ (List.getElem_mem hlt), by unfold G.F__law_bag runF rho0 G.f__law_bag; simp [cB, hlt, hat, km, sizeLine_eq]; rfl⟩
    exact bd_small (by omega) (by omega)
  · refine ⟨_, 0, ?_, bd_small (by omega) (by omega), by unfold G.F__law_bag runF rho0 G.f__law_bag; simp [cB, hlt, km, sizeLine_eq]; rfl⟩
    exact bd_small (by omega) (by omega)
--# one
theorem one_eq {S : Sto} {m t : Nat} {x y : Int} (h : Bs S m t) (ht : t ≤ 1000000) : ∃ z S', (z = x ∨ z = y) ∧ Bs S' m (t + 1) ∧ G.F__law_one [.ref m, .d (.list [.int x, .int y])] S = some (.ok (.d (.int z)) S') := by
  obtain ⟨r, S1, k1, B1, e1⟩ := draw_bs h ht (show (0 : Int) < 2 by omega)
  have r2 : r = 0 ∨ r = 1 := by omega
  unfold G.F__law_one runF rho0 G.f__law_one
  rcases r2 with rfl | rfl
  · exact ⟨x, S1, .inl rfl, B1, by simp [e1, atI, ixN]⟩
  · exact ⟨y, S1, .inr rfl, B1, by simp [e1, atI, ixN]⟩
--# lead
theorem lead_eq {S : Sto} {m t : Nat} (h : Bs S m t) (ht : t ≤ 900000) : ∃ (x : Rat) (S' : Sto), 0 < x ∧ x.num.natAbs ≤ 6 ∧ x.den ≤ 4 ∧ Bs S' m (t + 3) ∧ G.F__law_lead [.ref m] S = some (.ok (rS x) S') := by
  obtain ⟨r1, S1, k1, B1, e1⟩ := draw_bs h (by omega) (show (0 : Int) < 6 by omega)
  obtain ⟨z, S2, hz, B2, e2⟩ := one_eq (x := 1) (y := 4) B1 (by omega)
  have z0 : 0 < z := by omega
  obtain ⟨r3, S3, k3, B3, e3⟩ := draw_bs B2 (by omega) z0
  have f := lawf_eq (p := 1 + (r1 : Int)) (q := 1 + (r3 : Int)) (b := 100) (by omega) (bd100 (by omega)) (bd100 (by omega)) (by omega) S3
  obtain ⟨d1, d2⟩ := divInt_le (p := 1 + (r1 : Int)) (q := 1 + (r3 : Int)) (by omega)
  refine ⟨Rat.divInt (1 + r1) (1 + r3), S3, ?_, by omega, by omega, B3, ?_⟩
  · rw [Rat.divInt_eq_div]
    rw [Rat.div_def]
    exact Rat.mul_pos (by exact_mod_cast (show (0 : Int) < 1 + r1 by omega)) (Rat.inv_pos.mpr (by exact_mod_cast (show (0 : Int) < 1 + r3 by omega)))
  · unfold G.F__law_lead runF rho0 G.f__law_lead
    simp [e1, e2, e3, f, sizeLine_eq, frz, datO, datOs, cvt]
--# web
section
variable {m t : Nat} {S : Sto}
/-- a drawn wire -/
structure WiDr (n : Nat) (w : Wi) : Prop where
  lt : w.1 < w.2.1
  le : w.2.1 < n
  pos : 0 < w.2.2
  num : w.2.2.num.natAbs ≤ 6
  den : w.2.2.den ≤ 4
theorem WiDr.ok {n : Nat} {w : Wi} (h : WiDr n w) : WiOk n w := ⟨h.lt, h.le, h.pos, by have := h.num; omega, by have := h.den; omega⟩
abbrev wsS (ws : List Wi) : SV := .own (ws.map fun w => SV.d (wiD w))
noncomputable abbrev webA : Rho → Sto → Option VL.Fl := (sAppend (lVar 5) (aCons (eTup (aCons (eCall 2 G.F__law_draw [] (aCons (eVarV 0) (aCons (eVarV 6) aNil))) (aCons (eVarV 6) (aCons (eCall 1 G.F__law_lead [] (aCons (eVarV 0) aNil)) aNil)))) aNil))
noncomputable abbrev webB : Rho → Sto → Option VL.Fl := (sSeq
  (sSet 8 (eCall 2 G.F__law_draw [] (aCons (eVarV 0) (aCons (eBin gSub (eVar 4) (eCon (.int 1))) aNil))))
  (sAppend (lVar 5) (aCons (eTup (aCons (eVarV 8) (aCons (eBin gAdd (eBin gAdd (eVar 8) (eCon (.int 1))) (eCall 2 G.F__law_draw [] (aCons (eVarV 0) (aCons (eBin gSub (eBin gSub (eVar 4) (eCon (.int 1))) (eVar 8)) aNil)))) (aCons (eCall 1 G.F__law_lead [] (aCons (eVarV 0) aNil)) aNil)))) aNil)))
abbrev rWeb (m : Nat) (s1 s2 s3 : Option SV) (n : Nat) (ws : List Wi) (s6 s7 s8 : Option SV) : Rho := [some (.ref m), s1, s2, s3, some (.d (.int (n : Int))), some (wsS ws), s6, s7, s8]
theorem wsS_snoc (ws : List Wi) (w : Wi) : (ws.map fun w => SV.d (wiD w)) ++ [SV.d (wiD w)] = (ws ++ [w]).map fun w => SV.d (wiD w) := by simp
theorem webA_eq {n j : Nat} {ws : List Wi} {s1 s2 s3 s7 s8 : Option SV} (h : Bs S m t) (ht : t ≤ 800000) (j1 : 1 ≤ j) (j2 : j < n) (hl : ws.length ≤ 1000) : ∃ w S', WiDr n w ∧ w.2.1 = j ∧ Bs S' m (t + 4) ∧
    webA (rWeb m s1 s2 s3 n ws (some (.d (.int (j : Int)))) s7 s8) S = some (.nx (rWeb m s1 s2 s3 n (ws ++ [w]) (some (.d (.int (j : Int)))) s7 s8) S') := by
  obtain ⟨a, S1, k1, B1, e1⟩ := draw_n h (by omega) (show 0 < j by omega)
  obtain ⟨c, S2, c0, c1, c2, B2, e2⟩ := lead_eq B1 (by omega)
  refine ⟨(a, j, c), S2, ⟨k1, j2, c0, c1, c2⟩, rfl, B2, ?_⟩
  have e : (ws.map fun w => SV.d (wiD w)) ++ [SV.d (.tuple [.int (a : Int), .int (j : Int), rD c])] = (ws ++ [((a, j, c) : Wi)]).map fun w => SV.d (wiD w) := wsS_snoc ws (a, j, c)
  have hlen : ws.length < 16777216 := by omega
  simp [webA, rWeb, sAppend, lVar, Lo.get, Lo.put, e1, e2, sizeLine_eq, hlen, bindS, e]
theorem webB_eq {n : Nat} {ws : List Wi} {s1 s2 s3 s6 s7 s8 : Option SV} (h : Bs S m t) (ht : t ≤ 800000) (n2 : 2 ≤ n) (hl : ws.length ≤ 1000) : ∃ w S' y8, WiDr n w ∧ Bs S' m (t + 5) ∧
    webB (rWeb m s1 s2 s3 n ws s6 s7 s8) S = some (.nx (rWeb m s1 s2 s3 n (ws ++ [w]) s6 s7 y8) S') := by
  obtain ⟨a, S1, k1, B1, e1⟩ := draw_bs h (by omega) (show (0 : Int) < (n : Int) - 1 by omega)
  obtain ⟨b, S2, k2, B2, e2⟩ := draw_bs B1 (by omega) (show (0 : Int) < (n : Int) - 1 - a by omega)
  obtain ⟨c, S3, c0, c1, c2, B3, e3⟩ := lead_eq B2 (by omega)
  refine ⟨(a, a + 1 + b, c), S3, some (.d (.int (a : Int))), ⟨by show a < a + 1 + b; omega, by show a + 1 + b < n; omega, c0, c1, c2⟩, B3, ?_⟩
  have e : (ws.map fun w => SV.d (wiD w)) ++ [SV.d (.tuple [.int (a : Int), .int ((a : Int) + 1 + (b : Int)), rD c])] = (ws ++ [((a, a + 1 + b, c) : Wi)]).map fun w => SV.d (wiD w) := by
    rw [← wsS_snoc ws]
    have : (((a + 1 + b : Nat) : Nat) : Int) = (a : Int) + 1 + (b : Int) := by omega
    simp [wiD, this]
  have hlen : ws.length < 16777216 := by omega
  simp [webB, rWeb, sAppend, lVar, Lo.get, Lo.put, e1, e2, e3, sizeLine_eq, hlen, bindS, e]
theorem loopA {n : Nat} {s1 s2 s3 s7 s8 : Option SV} (d : Nat) : ∀ (j : Nat) (ws : List Wi) (t : Nat) (S : Sto) (s6 : Option SV), 1 ≤ j → j + d = n → n ≤ 100 → (∀ w ∈ ws, WiDr n w) → ws.length + d ≤ 1000 → Bs S m t → t + 4 * d ≤ 700000 →
    ∃ (us : List Wi) (S' : Sto) (y6 : Option SV), us.map (·.2.1) = List.range' j d ∧ (∀ w ∈ us, WiDr n w) ∧ Bs S' m (t + 4 * d) ∧ forL (gNm 6) webA ((List.range' j d).map fun i => SV.d (.int ((i : Nat) : Int))) (rWeb m s1 s2 s3 n ws s6 s7 s8) S = some (.nx (rWeb m s1 s2 s3 n (ws ++ us) y6 s7 s8) S') := by
  induction d with
  | zero => intro j ws t S s6 _ _ _ _ _ B _; exact ⟨[], S, s6, rfl, (fun _ m => by cases m), B, by simp [forL]⟩
  | succ d ih =>
    intro j ws t S s6 j1 jd hn hw hl B ht
    obtain ⟨w, S1, W, wj, B1, e1⟩ := webA_eq (n := n) (j := j) (ws := ws) (s1 := s1) (s2 := s2) (s3 := s3) (s7 := s7) (s8 := s8) B (by omega) j1 (by omega) (by omega)
    obtain ⟨us, S2, y6, u1, u2, B2, e2⟩ := ih (j + 1) (ws ++ [w]) (t + 4) S1 (some (.d (.int (j : Int)))) (by omega) (by omega) hn (fun v mv => by
      rcases List.mem_append.mp mv with mv | mv
      · exact hw v mv
      · rw [List.mem_singleton.mp mv]; exact W) (by simp; omega) B1 (by omega)
    refine ⟨w :: us, S2, y6, by simp [wj, u1, List.range'_succ], fun v mv => by
      rcases List.mem_cons.mp mv with rfl | mv
      · exact W
      · exact u2 v mv, B2.mono (by omega), ?_⟩
    rw [List.range'_succ, List.map_cons]
    unfold forL
    rw [show gNm 6 (SV.d (.int (j : Int))) (rWeb m s1 s2 s3 n ws s6 s7 s8) = some (rWeb m s1 s2 s3 n ws (some (.d (.int (j : Int)))) s7 s8) from rfl]
    simp only [e1]
    rw [e2]
    simp
theorem loopB {n : Nat} (n2 : 2 ≤ n) {s1 s2 s3 s6 : Option SV} : ∀ (l : List SV), (∀ x ∈ l, noOwn x = true) → ∀ (ws : List Wi) (t : Nat) (S : Sto) (s7 s8 : Option SV), ws.length + l.length ≤ 1000 → Bs S m t → t + 5 * l.length ≤ 700000 →
    ∃ (us : List Wi) (S' : Sto) (y7 y8 : Option SV), us.length = l.length ∧ (∀ w ∈ us, WiDr n w) ∧ Bs S' m (t + 5 * l.length) ∧ forL (gNm 7) webB l (rWeb m s1 s2 s3 n ws s6 s7 s8) S = some (.nx (rWeb m s1 s2 s3 n (ws ++ us) s6 y7 y8) S') := by
  intro l
  induction l with
  | nil => intro _ ws t S s7 s8 _ B _; exact ⟨[], S, s7, s8, rfl, (fun _ m => by cases m), B, by simp [forL]⟩
  | cons x l ih =>
    intro hx ws t S s7 s8 hl B ht
    rw [List.length_cons] at hl ht
    obtain ⟨w, S1, y8, W, B1, e1⟩ := webB_eq (n := n) (ws := ws) (s1 := s1) (s2 := s2) (s3 := s3) (s6 := s6) (s7 := some x) (s8 := s8) B (by omega) n2 (by omega)
    obtain ⟨us, S2, y7, y8', u1, u2, B2, e2⟩ := ih (fun z mz => hx z (List.mem_cons_of_mem _ mz)) (ws ++ [w]) (t + 5) S1 (some x) y8 (by simp; omega) B1 (by omega)
    refine ⟨w :: us, S2, y7, y8', by simp [u1], fun v mv => by
      rcases List.mem_cons.mp mv with rfl | mv
      · exact W
      · exact u2 v mv, B2.mono (by simp; omega), ?_⟩
    unfold forL
    rw [show gNm 7 x (rWeb m s1 s2 s3 n ws s6 s7 s8) = some (rWeb m s1 s2 s3 n ws s6 (some x) s8) from by simp [gNm, hx x List.mem_cons_self]]
    simp only [e1]
    rw [e2]
    simp
theorem rangeL_range' (j d : Nat) : rangeL (j : Int) d = (List.range' j d).map fun i => SV.d (.int ((i : Nat) : Int)) := by
  unfold rangeL
  rw [List.range'_eq_map_range, List.map_map]
  rfl
/-- the drawn web: n joints, wires in order; where it is whole, each joint but the first one has a wire to one ahead -/
theorem web_eq {mj mw : Nat} {whole : Bool} (h : Bs S m t) (ht : t ≤ 100000) (j1 : 1 ≤ mj) (j2 : mj ≤ 24) (w1 : 1 ≤ mw) (w2 : mw ≤ 36) : ∃ (n : Nat) (us : List Wi) (S' : Sto), 1 ≤ n ∧ n ≤ mj ∧ us.length + 2 ≤ mj + mw ∧ (∀ w ∈ us, WiDr n w) ∧
    (whole = true → ∀ j, 1 ≤ j → j < n → ∃ w ∈ us, w.2.1 = j) ∧ Bs S' m (t + 400) ∧ G.F__law_web [.ref m, .d (.int (mj : Int)), .d (.int (mw : Int)), .d (.bool whole)] S = some (.ok (.d (wbD n (sortW us))) S') := by
  obtain ⟨r, S1, r1, B1, e1⟩ := draw_n h (by omega) (show 0 < mj by omega)
  obtain ⟨n, hn⟩ : ∃ n, n = 1 + r := ⟨_, rfl⟩
  have nn : (1 : Int) + (r : Int) = (n : Int) := by omega
  obtain ⟨us, S2, y6, hus, hul, hwh, B2, e2⟩ : ∃ (us : List Wi) (S2 : Sto) (y6 : Option SV), (∀ w ∈ us, WiDr (n) w) ∧ us.length ≤ r ∧ (whole = true → ∀ j, 1 ≤ j → j < n → ∃ w ∈ us, w.2.1 = j) ∧ Bs S2 m (t + 1 + 4 * r) ∧
      (sIf (bVal (eVar 3)) (sFor (iRng2 (aCons (eCon (.int 1)) (aCons (eVar 4) aNil))) (gNm 6) webA) sNil) (rWeb m (some (.d (.int (mj : Int)))) (some (.d (.int (mw : Int)))) (some (.d (.bool whole))) (n) [] none none none) S1 = some (.nx (rWeb m (some (.d (.int (mj : Int)))) (some (.d (.int (mw : Int)))) (some (.d (.bool whole))) (n) us y6 none none) S2) := by
    cases whole with
    | false => exact ⟨[], S1, none, (fun _ m => by cases m), by simp, (fun h => by cases h), B1.mono (by omega), by simp [rWeb]⟩
    | true =>
      obtain ⟨us, S2, y6, u1, u2, B2, e2⟩ := loopA (n := n) (s1 := some (.d (.int (mj : Int)))) (s2 := some (.d (.int (mw : Int)))) (s3 := some (.d (.bool true))) (s7 := none) (s8 := none) r 1 [] (t + 1) S1 none (by omega) (by omega) (by omega) (fun _ m => by cases m) (by simp; omega) B1 (by omega)
      refine ⟨us, S2, y6, u2, ?_, ?_, B2, ?_⟩
      · have := congrArg List.length u1
        simp at this
        omega
      · intro _ j h1 h2
        have : j ∈ us.map (·.2.1) := by rw [u1, List.mem_range'_1]; omega
        obtain ⟨w, hw, e⟩ := List.mem_map.mp this
        exact ⟨w, hw, e⟩
      · rw [List.nil_append] at e2
        have i1 : inR (1 : Int) = true := inR_of (by omega)
        have i2 : inR (n : Int) = true := inR_of (by omega)
        have i3 : ((n : Int) - 1).toNat = r := by omega
        have i4 := rangeL_range' 1 r
        have i5 : rangeL 1 r = (List.range' 1 r).map fun i => SV.d (.int ((i : Nat) : Int)) := i4
        rw [← i5] at e2
        have e3 : (sFor (iRng2 (aCons (eCon (.int 1)) (aCons (eVar 4) aNil))) (gNm 6) webA) (rWeb m (some (.d (.int (mj : Int)))) (some (.d (.int (mw : Int)))) (some (.d (.bool true))) (n) [] none none none) S1 = some (.nx (rWeb m (some (.d (.int (mj : Int)))) (some (.d (.int (mw : Int)))) (some (.d (.bool true))) (n) us y6 none none) S2) := by
          rw [a_sFor, a_iRng2]
          simp only [a_aCons, a_eCon, a_eVar, a_aNil, VL.bindM_ok]
          simp only [rWeb, List.getElem?_cons_succ, List.getElem?_cons_zero, VL.bindM_ok, i1, i2, Bool.and_self, if_true, i3]
          exact e2
        rw [a_sIf, show (bVal (eVar 3)) (rWeb m (some (.d (.int (mj : Int)))) (some (.d (.int (mw : Int)))) (some (.d (.bool true))) (n) [] none none none) S1 = some (.ok true S1) from rfl]
        exact e3
  obtain ⟨N, S3, hN, B3, e3⟩ : ∃ (N : Nat) (S3 : Sto), (n = 1 ∧ N = 0 ∨ n > 1 ∧ N < mw) ∧ Bs S3 m (t + 1 + 4 * r + 1) ∧ (VL.iRng1 (aCons (eIf (bB (eBin (cB gGt) (eVar 4) (eCon (.int 1)))) (eCall 2 G.F__law_draw [] (aCons (eVarV 0) (aCons (eVarV 2) aNil))) (eCon (.int 0))) aNil)) (rWeb m (some (.d (.int (mj : Int)))) (some (.d (.int (mw : Int)))) (some (.d (.bool whole))) (n) us y6 none none) S2 = some (.ok (rangeL 0 N) S3) := by
    by_cases hr : r = 0
    · obtain rfl : n = 1 := by omega
      exact ⟨0, S2, .inl ⟨rfl, rfl⟩, B2.mono (by omega), by simp [rWeb, eIf, cB, inR_of]⟩
    · obtain ⟨N, S3, n1, B3, e3⟩ := draw_n B2 (by omega) (show 0 < mw by omega)
      have g1 : (1 : Int) < (n : Int) := by omega
      have g2 : inR (N : Int) = true := inR_of (by omega)
      exact ⟨N, S3, .inr ⟨by omega, n1⟩, B3, by simp [rWeb, eIf, cB, g1, g2, e3]⟩
  obtain ⟨vs, S4, y7, y8, hv1, hv2, B4, e4⟩ : ∃ (vs : List Wi) (S4 : Sto) (y7 y8 : Option SV), vs.length = N ∧ (∀ w ∈ vs, WiDr (n) w) ∧ Bs S4 m (t + 1 + 4 * r + 1 + 5 * N) ∧ forL (gNm 7) webB (rangeL 0 N) (rWeb m (some (.d (.int (mj : Int)))) (some (.d (.int (mw : Int)))) (some (.d (.bool whole))) (n) us y6 none none) S3 = some (.nx (rWeb m (some (.d (.int (mj : Int)))) (some (.d (.int (mw : Int)))) (some (.d (.bool whole))) (n) (us ++ vs) y6 y7 y8) S4) := by
    by_cases hr : r = 0
    · obtain rfl : N = 0 := by omega
      exact ⟨[], S3, none, none, rfl, (fun _ m => by cases m), B3.mono (by omega), by simp [forL, rangeL]⟩
    · obtain ⟨vs, S4, y7, y8, a, b, B4, c⟩ := loopB (n := n) (by omega) (s1 := some (.d (.int (mj : Int)))) (s2 := some (.d (.int (mw : Int)))) (s3 := some (.d (.bool whole))) (s6 := y6) (rangeL 0 N) (fun x hx => by
        obtain ⟨k, _, rfl⟩ := mem_rangeL hx
        rfl) us (t + 1 + 4 * r + 1) S3 none none (by rw [rangeL_length]; omega) B3 (by rw [rangeL_length]; omega)
      rw [rangeL_length] at a B4
      exact ⟨vs, S4, y7, y8, a, b, B4, c⟩
  refine ⟨n, us ++ vs, S4, by omega, by omega, by rw [List.length_append]; omega, fun w hw => ?_, fun hw j h1 h2 => ?_, B4.mono (by omega), ?_⟩
  · rcases List.mem_append.mp hw with hw | hw
    · exact hus w hw
    · exact hv2 w hw
  · obtain ⟨w, a, b⟩ := hwh hw j h1 h2
    exact ⟨w, List.mem_append_left _ a, b⟩
  · unfold G.F__law_web G.f__law_web
    refine run_rt ?_
    refine seq_nx (ρ2 := [some (.ref m), some (.d (.int (mj : Int))), some (.d (.int (mw : Int))), some (.d (.bool whole)), some (.d (.int (n : Int))), none, none, none, none]) (S2 := S1) (by simp [rho0, e1, nn]) ?_
    refine seq_nx (ρ2 := rWeb m (some (.d (.int (mj : Int)))) (some (.d (.int (mw : Int)))) (some (.d (.bool whole))) (n) [] none none none) (S2 := S1) (by simp [rWeb, wsS, sizeLine_eq]) ?_
    refine seq_nx e2 ?_
    refine seq_nx (ρ2 := rWeb m (some (.d (.int (mj : Int)))) (some (.d (.int (mw : Int)))) (some (.d (.bool whole))) (n) (us ++ vs) y6 y7 y8) (S2 := S4) (by rw [a_sFor, e3]; exact e4) ?_
    have g := gSorted_wi S4 (ws := us ++ vs) (by rw [List.length_append]; omega)
    have g2 := gTuple_o S4 wiD (sortW (us ++ vs))
    rw [a_sRet]
    have z : (eCal gTuple (aCons (eCal gSorted (aCons (eVar 5) aNil)) aNil)) (rWeb m (some (.d (.int (mj : Int)))) (some (.d (.int (mw : Int)))) (some (.d (.bool whole))) (n) (us ++ vs) y6 y7 y8) S4 = some (.ok (.d (.tuple ((sortW (us ++ vs)).map wiD))) S4) := by
      rw [a_eCal, a_aCons, a_eCal, a_aCons, show (eVar 5) (rWeb m (some (.d (.int (mj : Int)))) (some (.d (.int (mw : Int)))) (some (.d (.bool whole))) (n) (us ++ vs) y6 y7 y8) S4 = some (.ok (wsS (us ++ vs)) S4) from rfl]
      simp only [VL.bindM_ok, a_aNil, g, Option.map_some, g2]
    have z2 : (aCons (eCon (.str "web")) (aCons (eVarV 4) (aCons (eCal gTuple (aCons (eCal gSorted (aCons (eVar 5) aNil)) aNil)) aNil))) (rWeb m (some (.d (.int (mj : Int)))) (some (.d (.int (mw : Int)))) (some (.d (.bool whole))) n (us ++ vs) y6 y7 y8) S4 = some (.ok [.d (.str "web"), .d (.int (n : Int)), .d (.tuple ((sortW (us ++ vs)).map wiD))] S4) := by
      rw [a_aCons, a_eCon, VL.bindM_ok, a_aCons, show (eVarV 4) (rWeb m (some (.d (.int (mj : Int)))) (some (.d (.int (mw : Int)))) (some (.d (.bool whole))) n (us ++ vs) y6 y7 y8) S4 = some (.ok (.d (.int (n : Int))) S4) from rfl, VL.bindM_ok, a_aCons, z, VL.bindM_ok, a_aNil, VL.bindM_ok, VL.bindM_ok, VL.bindM_ok]
    rw [a_eTup, z2, VL.bindM_ok]
    simp [sizeLine_eq, wbD]
end
--# end
end M

end
section
set_option Elab.async false
set_option linter.all false
set_option maxRecDepth 100000
/-! C5: a for as a fold; names of pieces. -/
namespace M
open PySem PySem.Spec PyProof.Rows L2 VL
abbrev nI (x : Nat) : SV := .d (.int (x : Int))
abbrev nS (ns : List Nat) : SV := .own (ns.map nI)
theorem atI_map {α : Type} (f : α → SV) (l : List α) {j : Nat} (h : j < l.length) : atI (l.map f) (j : Int) = some (f l[j]) := by
  rw [atI_nat _ (by simpa using h)]
  simp
def gN (ns : List Nat) (i : Nat) : Nat := ns.getD i 0
theorem gN_eq {ns : List Nat} {i : Nat} (h : i < ns.length) : gN ns i = ns[i] := by simp [gN, List.getD, h]
theorem atI_mapN (f : Nat → SV) (l : List Nat) {j : Nat} (h : j < l.length) : atI (l.map f) (j : Int) = some (f (gN l j)) := by
  rw [atI_map f l h, gN_eq h]
/-! names -/
def stN (ns : List Nat) (a b : Nat) : List Nat := ns.map fun x => if x = max (gN ns a) (gN ns b) then min (gN ns a) (gN ns b) else x
@[simp] theorem stN_len (ns : List Nat) (a b : Nat) : (stN ns a b).length = ns.length := by simp [stN]
def nmF (ns : List Nat) (ps : List (Nat × Nat)) : List Nat := ps.foldl (fun ns p => stN ns p.1 p.2) ns
theorem nmF_len : ∀ (ps : List (Nat × Nat)) (ns : List Nat), (nmF ns ps).length = ns.length
  | [], _ => rfl
  | p :: ps, ns => by
    show (nmF (stN ns p.1 p.2) ps).length = _
    rw [nmF_len ps, stN_len]
def prs (ws : List Wi) : List (Nat × Nat) := ws.map fun w => (w.1, w.2.1)
def nms (n : Nat) (ws : List Wi) : List Nat := nmF (List.range n) (prs ws)
@[simp] theorem nms_len (n : Nat) (ws : List Wi) : (nms n ws).length = n := by simp [nms, nmF_len]
theorem nms_fold (n : Nat) (ws : List Wi) : nms n ws = ws.foldl (fun ns w => stN ns w.1 w.2.1) (List.range n) := by
  unfold nms nmF prs
  rw [List.foldl_map]
theorem stN_lt {ns : List Nat} {n a b : Nat} (h : ∀ x ∈ ns, x < n) : ∀ x ∈ stN ns a b, x < n := by
  intro x m
  obtain ⟨y, hy, rfl⟩ := List.mem_map.mp m
  have hg : ∀ (i : Nat) z, z < n → gN ns i < n ∨ gN ns i = 0 := by
    intro i z hz
    by_cases hi : i < ns.length
    · left
      rw [gN_eq hi]
      exact h _ (List.getElem_mem hi)
    · right
      simp [gN, List.getD, List.getElem?_eq_none (show ns.length ≤ i by omega)]
  have h1 := h y hy
  have h2 := hg a y h1
  have h3 := hg b y h1
  split
  · omega
  · exact h1
theorem nmF_lt : ∀ (ps : List (Nat × Nat)) (ns : List Nat) (n : Nat), (∀ x ∈ ns, x < n) → ∀ x ∈ nmF ns ps, x < n
  | [], _, _, h => h
  | p :: ps, ns, n, h => nmF_lt ps (stN ns p.1 p.2) n (stN_lt h)
theorem nms_lt (n : Nat) (ws : List Wi) : ∀ x ∈ nms n ws, x < n := nmF_lt _ _ _ fun x m => List.mem_range.mp m
theorem rgD_eq (n : Nat) : (rgD 0 n).map SV.d = (List.range n).map nI := by simp [rgD, nI]
@[simp] theorem nI_eq (x : Nat) : nI x = .d (.int (x : Int)) := rfl
theorem lrg_n {f : Rho → Mo SV} {ρ : Rho} {S : Sto} {n : Nat} (h : f ρ S = some (.ok (nI n) S)) (hn : n ≤ 100000) : eLrg1 f ρ S = some (.ok (nS (List.range n)) S) := by
  unfold eLrg1
  have h1 : ((n : Int)).natAbs ≤ 16777216 := by omega
  simp only [h, bindM_ok, h1, if_true, Int.toNat_natCast, rgD_eq]
theorem gMin_n (S : Sto) (a b : Nat) : gMin2 S [nI a, nI b] = some (nI (min a b)) := by
  simp only [gMin2_i]
  congr 3
  split <;> omega
theorem gMax_n (S : Sto) (a b : Nat) : gMax2 S [nI a, nI b] = some (nI (max a b)) := by
  simp only [gMax2_i]
  congr 3
  split <;> omega
theorem leW_int (a b : Int) : leW (.int a) (.int b) = decide (a ≤ b) := by
  have : PySem.W.dataLt (.int b) (.int a) = decide (b < a) := by
    simp [PySem.W.dataLt, PySem.W.keyToks, PyProof.Rows.lexLt, PyProof.Rows.itemOrd, PyProof.Rows.itemLt]
  unfold leW
  rw [this]
  by_cases h : a ≤ b
  · rw [decide_eq_true h, decide_eq_false (by omega)]; rfl
  · rw [decide_eq_false h, decide_eq_true (by omega)]; rfl
theorem sortD_ints {l m : List Int} (p : m.Perm l) (s : m.Pairwise (· ≤ ·)) : sortD (l.map PyData.int) = m.map PyData.int := by
  have e : sortD (l.map PyData.int) = (l.mergeSort fun a b => leW (.int a) (.int b)).map PyData.int := (PySem.W.sort_maps PyData.int (fun _ _ _ _ => rfl)).symm
  have e2 : (fun a b : Int => leW (.int a) (.int b)) = fun a b => decide (a ≤ b) := by funext a b; exact leW_int a b
  rw [e, e2, intSort_one p s]
  rfl
theorem sortOk_ints (l : List Int) (h : l.length ≤ 1000) : sortOk (l.map PyData.int) = true := by
  unfold sortOk
  have h1 : ((l.map PyData.int).all fun d => (l.map PyData.int).all fun e => PySem.W.alike d e) = true := by
    rw [List.all_eq_true]
    intro d m
    rw [List.all_eq_true]
    intro e m2
    obtain ⟨x, _, rfl⟩ := List.mem_map.mp m
    obtain ⟨y, _, rfl⟩ := List.mem_map.mp m2
    simp [PySem.W.alike]
  have h2 : ((l.map PyData.int).all fun d => SeqAt.shaped d) = true := by
    simp only [List.all_map, List.all_eq_true]
    exact fun x _ => sh_i x
  have h3 : (l.map PyData.int).all isPlain = true := by
    simp only [List.all_map, List.all_eq_true]
    exact fun x _ => rfl
  rw [h1, h2, h3, List.length_map, decide_eq_true (show l.length ≤ sizeLine by rw [sizeLine_eq]; omega)]
  simp
theorem sort2_n (S : Sto) (a b : Nat) : gSorted S [.own [nI a, nI b]] = some (.own [nI (min a b), nI (max a b)]) := by
  have e : sortD ([(a : Int), (b : Int)].map PyData.int) = [((min a b : Nat) : Int), ((max a b : Nat) : Int)].map PyData.int := by
    refine sortD_ints ?_ (by simp; omega)
    rcases Nat.le_total a b with h | h
    · rw [Nat.min_eq_left h, Nat.max_eq_right h]
    · rw [Nat.min_eq_right h, Nat.max_eq_left h]
      exact List.Perm.swap ..
  have so := sortOk_ints [(a : Int), (b : Int)] (by simp)
  simp only [List.map_cons, List.map_nil] at e so
  simp only [gSorted, lst?, Option.bind_some, allD, Option.map_some, so, if_true, e]
  rfl
theorem eIf_sel (S : Sto) {ρ : Rho} {x lo hi : Nat} {a b c : Nat} (h1 : ρ[a]? = some (some (nI x))) (h2 : ρ[b]? = some (some (nI hi))) (h3 : ρ[c]? = some (some (nI lo))) :
    (eIf (bB (eBin (cB gEq) (eVar a) (eVar b))) (eVarV c) (eVarV a)) ρ S = some (.ok (nI (if x = hi then lo else x)) S) := by
  by_cases h : x = hi
  · subst h
    simp [eIf, h1, h2, h3, cB]
  · have h' : ¬ (x : Int) = (hi : Int) := by omega
    simp [eIf, h1, h2, h3, cB, h, h']
theorem seq_nS (S : Sto) (ns : List Nat) : seq? S (nS ns) = some (ns.map nI) := rfl
theorem iSeq_nS {i : Nat} {ρ : Rho} {S : Sto} {ns : List Nat} (h : ρ[i]? = some (some (nS ns))) : (VL.iSeq (eVar i)) ρ S = some (.ok (ns.map nI) S) := by
  simp [h, isRef, List.all_eq_true, noOwn]
theorem iSeq_tup {f : Rho → Mo SV} {ρ : Rho} {S S1 : Sto} {ds : List PyData} (h : f ρ S = some (.ok (.d (.tuple ds)) S1)) : (VL.iSeq f) ρ S = some (.ok (ds.map SV.d) S1) := by
  simp [h]
theorem datOs_d : ∀ ds : List PyData, datOs (ds.map SV.d) = some ds
  | [] => by simp
  | d :: ds => by simp [datOs_d ds]
theorem frz_own (ds : List PyData) : frz (.own (ds.map SV.d)) = some (.d (.list ds)) := by
  simp [frz, noOwn, datO, datOs_d]
theorem iSeq_lst {f : Rho → Mo SV} {ρ : Rho} {S S1 : Sto} {ds : List PyData} (h : f ρ S = some (.ok (.d (.list ds)) S1)) : (VL.iSeq f) ρ S = some (.ok (ds.map SV.d) S1) := by
  simp [h]
theorem iSeq_wb2 {n : Nat} {ws : List Wi} {ρ : Rho} {S : Sto} (h : ρ[0]? = some (some (.d (wbD n ws)))) : (VL.iSeq (eBin gIx (eVar 0) (eCon (.int 2)))) ρ S = some (.ok (ws.map fun w => SV.d (wiD w)) S) := by
  rw [iSeq_tup (ds := ws.map wiD) (S1 := S) (by simp [h, wbD])]
  simp
theorem tg_wi {a b c : Nat} {w : Wi} {ρ : Rho} : gTp 3 (gsCons (gNm a) (gsCons (gNm b) (gsCons (gNm c) gsNil))) (SV.d (wiD w)) ρ = some (((ρ.set a (some (nI w.1))).set b (some (nI w.2.1))).set c (some (rS w.2.2))) := by
  simp [wiD]
--# law_names
theorem law_names_eq {n : Nat} {ws : List Wi} (h : ∀ w ∈ ws, w.1 < n ∧ w.2.1 < n) (hn : n ≤ 1000) (S : Sto) : G.F__law_names [.d (wbD n ws)] S = some (.ok (nS (nms n ws)) S) := by
  unfold G.F__law_names G.f__law_names
  refine run_wp ?_
  refine wp_set (x := nS (List.range n)) (S1 := S) (lrg_n (by simp [rho0, wbD]) (by omega)) ?_
  refine wp_fold (fun w : Wi => SV.d (wiD w)) ws (fun ns w => stN ns w.1 w.2.1) (fun ns ρ => ns.length = n ∧ ∃ s2 s3 s4 s5 s6 s7, ρ = [some (.d (wbD n ws)), some (nS ns), s2, s3, s4, s5, s6, s7]) (List.range n) (iSeq_wb2 (n := n) rfl) ⟨by simp, _, _, _, _, _, _, rfl⟩ ?_ ?_
  · rintro w hw ns ρ ⟨hl, s2, s3, s4, s5, s6, s7, rfl⟩
    obtain ⟨h1, h2⟩ := h w hw
    refine ⟨_, tg_wi, ?_⟩
    have a1 := atI_mapN nI ns (j := w.1) (by omega)
    have a2 := atI_mapN nI ns (j := w.2.1) (by omega)
    have g1 := gMin_n S (gN ns w.1) (gN ns w.2.1)
    have g2 := gMax_n S (gN ns w.1) (gN ns w.2.1)
    refine wp_set (x := nI (min (gN ns w.1) (gN ns w.2.1))) (S1 := S) (by simp only [nI_eq] at a1 a2 g1; simp [a1, a2]; split <;> omega) ?_
    refine wp_set (x := nI (max (gN ns w.1) (gN ns w.2.1))) (S1 := S) (by simp only [nI_eq] at a1 a2 g2; simp [a1, a2]; split <;> omega) ?_
    refine wp_set1 (x := nS (stN ns w.1 w.2.1)) (S1 := S) ?_ ⟨_, .inl rfl, by simp [hl], _, _, _, _, _, _, rfl⟩
    rw [lc_map ns nI (fun x => nI (if x = max (gN ns w.1) (gN ns w.2.1) then min (gN ns w.1) (gN ns w.2.1) else x)) (iSeq_nS rfl) (by rw [sizeLine_eq]; omega) (fun x _ => ⟨_, rfl, eIf_sel S rfl rfl rfl⟩)]
    simp [stN, nS]
  · rintro ρ2 ⟨hl, s2, s3, s4, s5, s6, s7, rfl⟩
    rw [nms_fold]
    exact wp_retV rfl rfl
--# names_of
theorem names_of_eq {n : Nat} {ps : List (Nat × Nat)} (h : ∀ p ∈ ps, p.1 < n ∧ p.2 < n) (hn : n ≤ 1000) (S : Sto) : G.F_names_of [nI n, .d (.list (ps.map fun p => .tuple [.int (p.1 : Int), .int (p.2 : Int)]))] S = some (.ok (nS (nmF (List.range n) ps)) S) := by
  unfold G.F_names_of G.f_names_of
  refine run_wp ?_
  refine wp_set (x := nS (List.range n)) (S1 := S) (lrg_n (by simp [rho0]) (by omega)) ?_
  refine wp_fold (fun p : Nat × Nat => SV.d (.tuple [.int (p.1 : Int), .int (p.2 : Int)])) ps (fun ns p => stN ns p.1 p.2) (fun ns ρ => ns.length = n ∧ ∃ s0 s1 s3 s4 s5 s6 s7, ρ = [s0, s1, some (nS ns), s3, s4, s5, s6, s7]) (List.range n) (S1 := S) (by rw [iSeq_lst (ds := ps.map fun p => .tuple [.int (p.1 : Int), .int (p.2 : Int)]) (S1 := S) (by simp [rho0])]; simp) ⟨by simp, _, _, _, _, _, _, _, rfl⟩ ?_ ?_
  · rintro p hp ns ρ ⟨hl, s0, s1, s3, s4, s5, s6, s7, rfl⟩
    obtain ⟨h1, h2⟩ := h p hp
    refine ⟨[s0, s1, some (nS ns), some (nI p.1), some (nI p.2), s5, s6, s7], by simp, ?_⟩
    have a1 := atI_mapN nI ns (j := p.1) (by omega)
    have a2 := atI_mapN nI ns (j := p.2) (by omega)
    have g1 := sort2_n S (gN ns p.1) (gN ns p.2)
    refine wp_nx (ρ2 := [s0, s1, some (nS ns), some (nI p.1), some (nI p.2), some (nI (min (gN ns p.1) (gN ns p.2))), some (nI (max (gN ns p.1) (gN ns p.2))), s7]) (S2 := S) (by
      simp only [nI_eq] at a1 a2 g1
      have g3 : gTl 2 (gsCons (gNm 5) (gsCons (gNm 6) gsNil)) (.d (.list [.int ((min (gN ns p.1) (gN ns p.2) : Nat) : Int), .int ((max (gN ns p.1) (gN ns p.2) : Nat) : Int)])) [s0, s1, some (nS ns), some (nI p.1), some (nI p.2), s5, s6, s7] = some [s0, s1, some (nS ns), some (nI p.1), some (nI p.2), some (nI (min (gN ns p.1) (gN ns p.2))), some (nI (max (gN ns p.1) (gN ns p.2))), s7] := rfl
      have h3 : (eCal gSorted (aCons (eLst (aCons (eBin gIx (eVar 2) (eVar 3)) (aCons (eBin gIx (eVar 2) (eVar 4)) aNil))) aNil)) [s0, s1, some (nS ns), some (nI p.1), some (nI p.2), s5, s6, s7] S = some (.ok (.own [.d (.int ((min (gN ns p.1) (gN ns p.2) : Nat) : Int)), .d (.int ((max (gN ns p.1) (gN ns p.2) : Nat) : Int))]) S) := by
        have ix1 : gIx S (nS ns) (.d (.int (p.1 : Int))) = some (.d (.int (gN ns p.1 : Int))) := by show (atI (ns.map nI) (p.1 : Int)).bind _ = _; rw [a1]; rfl
        have ix2 : gIx S (nS ns) (.d (.int (p.2 : Int))) = some (.d (.int (gN ns p.2 : Int))) := by show (atI (ns.map nI) (p.2 : Int)).bind _ = _; rw [a2]; rfl
        simp only [nS, nI] at ix1 ix2
        simp [ix1, ix2, g1, sizeLine_eq]
      rw [a_sAsg, h3]
      have f3 := frz_own [.int ((min (gN ns p.1) (gN ns p.2) : Nat) : Int), .int ((max (gN ns p.1) (gN ns p.2) : Nat) : Int)]
      simp only [List.map_cons, List.map_nil] at f3
      simp only [bindS, f3, Option.bind_some, g3, Option.map_some]) ?_
    refine wp_set1 (x := nS (stN ns p.1 p.2)) (S1 := S) ?_ ⟨_, .inl rfl, by simp [hl], _, _, _, _, _, _, _, rfl⟩
    rw [lc_map ns nI (fun x => nI (if x = max (gN ns p.1) (gN ns p.2) then min (gN ns p.1) (gN ns p.2) else x)) (iSeq_nS rfl) (by rw [sizeLine_eq]; omega) (fun x _ => ⟨_, rfl, eIf_sel S rfl rfl rfl⟩)]
    simp [stN, nS]
  · rintro ρ2 ⟨hl, s0, s1, s3, s4, s5, s6, s7, rfl⟩
    exact wp_retV rfl rfl
--# piece_names
theorem piece_names_eq {n : Nat} {ws : List Wi} (h : ∀ w ∈ ws, w.1 < n ∧ w.2.1 < n) (hn : n ≤ 1000) (hl : ws.length ≤ 1000) (S : Sto) : G.F_piece_names [.d (wbD n ws)] S = some (.ok (nS (nms n ws)) S) := by
  have e := names_of_eq (n := n) (ps := prs ws) (fun p hp => by
    obtain ⟨w, hw, rfl⟩ := List.mem_map.mp hp
    exact h w hw) hn S
  have c : (eLc (VL.iSeq (eBin gIxB (eVar 0) (eCon (.int 2)))) (gNm 1) bYes (eSl (eVar 1) pNone (pSome (eCon (.int 2)))) [1]) [some (.d (wbD n ws)), none] S = some (.ok (.own (ws.map fun w => SV.d (.tuple [.int (w.1 : Int), .int (w.2.1 : Int)]))) S) :=
    lc_map ws (fun w => SV.d (wiD w)) (fun w => SV.d (.tuple [.int (w.1 : Int), .int (w.2.1 : Int)])) (by rw [iSeq_tup (ds := ws.map wiD) (S1 := S) (by simp [wbD])]; simp) (by rw [sizeLine_eq]; omega) fun w _ => ⟨_, rfl, by
      have : cutL [PyData.int (w.1 : Int), .int (w.2.1 : Int), rD w.2.2] none (some 2) = [.int (w.1 : Int), .int (w.2.1 : Int)] := rfl
      simp [wipeR, eSl, pSome, pNone, wiD, gSl, this]⟩
  have f := frz_own (ws.map fun w => .tuple [.int (w.1 : Int), .int (w.2.1 : Int)])
  rw [List.map_map] at f
  unfold G.F_piece_names G.f_piece_names
  refine run_wp ?_
  refine wp_ret (x := nS (nms n ws)) (S1 := S) ?_ rfl
  rw [a_eCall, a_aCons, show (eBin gIx (eVar 0) (eCon (.int 1))) (rho0 2 [.d (wbD n ws)]) S = some (.ok (nI n) S) from by simp [rho0, wbD], VL.bindM_ok, a_aCons]
  rw [show rho0 2 [SV.d (wbD n ws)] = [some (.d (wbD n ws)), none] from rfl, c]
  have e2 : (prs ws).map (fun p => PyData.tuple [.int (p.1 : Int), .int (p.2 : Int)]) = ws.map fun w => .tuple [.int (w.1 : Int), .int (w.2.1 : Int)] := by
    unfold prs
    rw [List.map_map]
    rfl
  rw [e2] at e
  simp only [VL.bindM_ok, a_aNil, List.length_cons, List.length_nil, if_true, cvt_0, cvt_nil, Option.map_some, Option.bind_some, nI_eq, frz_d]
  have f' : frz (.own (ws.map fun w => SV.d (.tuple [.int (w.1 : Int), .int (w.2.1 : Int)]))) = some (.d (.list (ws.map fun w => .tuple [.int (w.1 : Int), .int (w.2.1 : Int)]))) := f
  rw [f']
  simp only [Option.bind_some, Option.map_some]
  exact e
--# end
end M

end
section
set_option Elab.async false
set_option linter.all false
set_option maxRecDepth 100000
/-! C6: the joints of each piece. -/
namespace M
open PySem PySem.Spec PyProof.Rows L2 VL
abbrev iN (k : Nat) : Int := (k : Int)
theorem posK_in : ∀ {kn : List Nat} {k : Nat}, k ∈ kn → ∃ p, ∃ h : p < kn.length, kn[p] = k ∧ posK (kn.map iN) (k : Int) = some p
  | [], k, h => by cases h
  | a :: kn, k, h => by
    by_cases e : a = k
    · subst e
      exact ⟨0, by simp, rfl, by simp [posK]⟩
    · obtain ⟨p, hp, e1, e2⟩ := posK_in (kn := kn) (k := k) (by
        rcases List.mem_cons.mp h with h | h
        · exact absurd h.symm e
        · exact h)
      have e' : ¬ (a : Int) = (k : Int) := by omega
      exact ⟨p + 1, by simp; omega, by simpa using e1, by simp [posK, e', e2, iN]⟩
theorem posK_out : ∀ {kn : List Nat} {k : Nat}, k ∉ kn → posK (kn.map iN) (k : Int) = none
  | [], k, h => rfl
  | a :: kn, k, h => by
    have e' : ¬ (a : Int) = (k : Int) := fun e => h (by have : a = k := by omega
                                                        rw [this]; exact List.mem_cons_self)
    have := posK_out (kn := kn) (k := k) fun z => h (List.mem_cons_of_mem _ z)
    simp [posK, e', this, iN]
/-- which joints (the second) have a name (the first) -/
def gOf (s : List (Nat × Nat)) (k : Nat) : List Nat := (s.filter fun p => p.1 == k).map (·.2)
structure DvP (s : List (Nat × Nat)) (ks : List Int) (xs : List SV) : Prop where
  ex : ∃ kn : List Nat, ks = kn.map iN ∧ kn.Nodup ∧ (∀ k, k ∈ kn ↔ k ∈ s.map (·.1)) ∧ xs = kn.map (fun k => nS (gOf s k)) ∧ kn.length ≤ s.length
theorem gOf_snoc (s : List (Nat × Nat)) (k j k' : Nat) : gOf (s ++ [(k, j)]) k' = if k = k' then gOf s k' ++ [j] else gOf s k' := by
  unfold gOf
  rw [List.filter_append]
  by_cases h : k = k'
  · simp [h]
  · simp [h]
theorem gOf_len (s : List (Nat × Nat)) (k : Nat) : (gOf s k).length ≤ s.length := by
  unfold gOf
  rw [List.length_map]
  exact List.length_filter_le ..
theorem grp_step {s : List (Nat × Nat)} {ks : List Int} {xs : List SV} (D : DvP s ks xs) (hs : s.length ≤ 1000) (k j : Nat) (S : Sto) (s0 : Option SV) :
    ∃ ks' xs', DvP (s ++ [(k, j)]) ks' xs' ∧ sGrp 1 3 2 [s0, some (.dic ks xs), some (nI j), some (nI k)] S = some (.nx [s0, some (.dic ks' xs'), some (nI j), some (nI k)] S) := by
  obtain ⟨kn, rfl, nd, mem, rfl, hl⟩ := D
  have hsz := sizeLine_eq
  have h1 : (kn.map iN).length < sizeLine := by rw [List.length_map]; omega
  by_cases hk : k ∈ kn
  · obtain ⟨p, hp, e1, e2⟩ := posK_in hk
    refine ⟨kn.map iN, (kn.map (fun k => nS (gOf s k))).set p (nS (gOf s k ++ [j])), ⟨kn, rfl, nd, fun q => ?_, ?_, by simp; omega⟩, ?_⟩
    · rw [mem q, List.map_append, List.mem_append]
      constructor
      · exact .inl
      · rintro (z | z)
        · exact z
        · obtain rfl : q = k := by simpa using z
          exact (mem q).mp hk
    · refine List.ext_getElem (by simp) fun i h2 h3 => ?_
      rw [List.getElem_set]
      simp only [List.getElem_map, gOf_snoc]
      have hi : i < kn.length := by simpa using h3
      by_cases hip : p = i
      · subst hip
        simp [e1]
      · have hne : ¬ k = kn[i] := fun e => by
          have nd' := List.pairwise_iff_getElem.mp nd
          rcases Nat.lt_or_ge p i with z | z
          · exact nd' p i hp hi z (by rw [e1, e])
          · exact nd' i p hi hp (by omega) (by rw [e1, e])
        simp [hip, hne]
    · have hx : (kn.map (fun k => nS (gOf s k)))[p]? = some (.own ((gOf s k).map nI)) := by
        simp [hp, e1]
      have h2 : ((gOf s k).map nI).length < sizeLine := by
        rw [List.length_map]
        have := gOf_len s k
        omega
      have hgo : (.own ((gOf s k).map nI ++ [.d (.int (j : Int))]) : SV) = nS (gOf s k ++ [j]) := by simp [nS]
      simp only [sGrp, List.getElem?_cons_succ, List.getElem?_cons_zero, nI_eq]
      rw [if_pos h1, e2]
      simp only [hx]
      rw [if_pos h2]
      rw [hgo]
      rfl
  · refine ⟨(kn ++ [k]).map iN, (kn.map (fun k => nS (gOf s k))) ++ [nS [j]], ⟨kn ++ [k], rfl, ?_, fun q => ?_, ?_, by simp; omega⟩, ?_⟩
    · rw [List.nodup_append]
      refine ⟨nd, by simp, fun a ha b hb => ?_⟩
      obtain rfl : b = k := by simpa using hb
      intro e
      rw [e] at ha
      exact hk ha
    · simp only [List.mem_append, List.map_append, mem q]
      simp
    · rw [List.map_append]
      congr 1
      · refine List.map_congr_left fun q hq => ?_
        rw [gOf_snoc, if_neg (fun e => hk (by rw [e]; exact hq))]
      · have : gOf s k = [] := by
          unfold gOf
          rw [List.map_eq_nil_iff, List.filter_eq_nil_iff]
          intro a ha e
          refine hk ((mem k).mpr ?_)
          rw [List.mem_map]
          exact ⟨a, ha, by simpa using e⟩
        simp [gOf_snoc, this]
    · have h3 := posK_out hk
      simp only [sGrp, List.getElem?_cons_succ, List.getElem?_cons_zero, nI_eq]
      rw [if_pos h1, h3]
      simp
/-- the names that stand, with their joints -/
def grp (ns : List Nat) (k : Nat) : List Nat := (List.range ns.length).filter fun j => gN ns j == k
def pcs (n : Nat) (ns : List Nat) : List (List Nat) := ((List.range n).filter fun k => ns.contains k).map (grp ns)
theorem gOf_zip (ns : List Nat) (k : Nat) : gOf ns.zipIdx k = grp ns k := by
  unfold gOf grp
  have e : ns.zipIdx = (List.range ns.length).map fun j => (gN ns j, j) := by
    refine List.ext_getElem (by simp) fun i h1 h2 => ?_
    have : i < ns.length := by simpa using h1
    simp [gN_eq this]
  rw [e, List.filter_map, List.map_map]
  have : ((fun x : Nat × Nat => x.2) ∘ fun j => (gN ns j, j)) = id := rfl
  rw [this, List.map_id]
  rfl
def tupN (l : List Nat) : PyData := .tuple (l.map fun j : Nat => .int (j : Int))
theorem enum_n (ns : List Nat) : enumL (ns.map fun x : Nat => .int (x : Int)) = ns.zipIdx.map fun p => SV.d (.tuple [.int (p.2 : Int), .int (p.1 : Int)]) := by
  unfold enumL
  rw [List.zipIdx_map, List.map_map]
  rfl
theorem keys_sorted {ns kn : List Nat} {n : Nat} (nd : kn.Nodup) (mem : ∀ k, k ∈ kn ↔ k ∈ ns) (h : ∀ x ∈ ns, x < n) : intSort (kn.map iN) = ((List.range n).filter fun k => ns.contains k).map iN := by
  refine (intSort_one ?_ ?_).symm
  · refine List.Perm.map iN ?_
    rw [List.perm_ext_iff_of_nodup (List.Pairwise.filter _ List.nodup_range) nd]
    intro a
    rw [List.mem_filter, List.mem_range, mem a]
    simp only [List.contains_iff_mem]
    exact ⟨fun z => z.2, fun z => ⟨h a z, z⟩⟩
  · rw [List.pairwise_map]
    refine List.Pairwise.filter _ ?_
    have := List.pairwise_lt_range (n := n)
    exact this.imp fun {a b} h => by show (a : Int) ≤ (b : Int); omega
theorem tup_map {α : Type} (S : Sto) (f : α → PyData) (l : List α) : gTuple S [.own (l.map fun x => SV.d (f x))] = some (.d (.tuple (l.map f))) := gTuple_o S f l
--# all_pieces
theorem all_pieces_eq {n : Nat} {ws : List Wi} (h : ∀ w ∈ ws, w.1 < n ∧ w.2.1 < n) (hn : n ≤ 60) (hl : ws.length ≤ 1000) (S : Sto) : G.F_all_pieces [.d (wbD n ws)] S = some (.ok (.d (.tuple ((pcs n (nms n ws)).map tupN))) S) := by
  have pn := piece_names_eq h (by omega) hl S
  have hlt := nms_lt n ws
  have hln := nms_len n ws
  generalize nms n ws = ns at pn hlt hln
  unfold G.F_all_pieces G.f_all_pieces
  refine run_wp ?_
  refine wp_set (x := .dic [] []) (S1 := S) rfl ?_
  refine wp_for (xs := ns.zipIdx.map fun p : Nat × Nat => SV.d (.tuple [.int (p.2 : Int), .int (p.1 : Int)])) (fun i ρ S' => S' = S ∧ ∃ ks xs s2 s3, DvP (ns.zipIdx.take i) ks xs ∧ ρ = [some (.d (wbD n ws)), some (.dic ks xs), s2, s3]) (S1 := S) ?_ ⟨rfl, [], [], none, none, ⟨[], rfl, List.nodup_nil, by simp, rfl, by simp⟩, rfl⟩ ?_ ?_
  · have : allD (ns.map nI) = some (ns.map fun x : Nat => .int (x : Int)) := allD_map' (fun x : Nat => PyData.int (x : Int)) ns
    show VL.iEnum1 _ _ _ = _
    unfold iEnum1
    rw [show (aCons (eCall 1 G.F_piece_names [] (aCons (eVarV 0) aNil)) aNil) ((rho0 4 [.d (wbD n ws)]).set 1 (some (.dic [] []))) S = some (.ok [nS ns] S) from by simp [rho0, pn], VL.bindM_ok]
    simp only [plainL, this, Option.map_some, enum_n]
  · rintro i x hx ρ S' ⟨rfl, ks, xs, s2, s3, D, rfl⟩
    rw [List.getElem?_map, Option.map_eq_some_iff] at hx
    obtain ⟨⟨k, j⟩, hp, rfl⟩ := hx
    obtain ⟨hi, hp'⟩ := List.getElem?_eq_some_iff.mp hp
    have hi2 : i < ns.length := by simpa using hi
    obtain ⟨ks', xs', D', e⟩ := grp_step D (by rw [List.length_take]; omega) k j S' (some (.d (wbD n ws)))
    refine ⟨[some (.d (wbD n ws)), some (.dic ks xs), some (nI j), some (nI k)], by simp, _, e, _, _, .inl rfl, rfl, ks', xs', some (nI j), some (nI k), ?_, rfl⟩
    rw [List.take_succ_eq_append_getElem hi, hp']
    exact D'
  · rintro ρ2 S2 ⟨rfl, ks, xs, s2, s3, D, rfl⟩
    rw [List.length_map, List.take_length] at D
    obtain ⟨kn, rfl, nd, mem, rfl, hl2⟩ := D
    have mem' : ∀ k, k ∈ kn ↔ k ∈ ns := fun k => by rw [mem k]; simp
    have ksrt := keys_sorted nd mem' hlt
    have kl : (kn.map iN).length < 64 := by
      rw [List.length_map]
      have : ns.zipIdx.length = ns.length := List.length_zipIdx
      omega
    refine wp_ret (x := .d (.tuple ((pcs n ns).map tupN))) (S1 := S2) ?_ rfl
    have lc : (eLc (VL.iSeq (eCal gSortDic (aCons (eVar 1) aNil))) (gNm 3) bYes (eCal gTuple (aCons (eBin gIxDic (eVar 1) (eVar 3)) aNil)) [3]) [some (.d (wbD n ws)), some (.dic (kn.map iN) (kn.map fun k => nS (gOf ns.zipIdx k))), s2, s3] S2 = some (.ok (.own (((List.range n).filter fun k => ns.contains k).map fun k => SV.d (tupN (grp ns k)))) S2) := by
      refine lc_map ((List.range n).filter fun k => ns.contains k) nI (fun k => SV.d (tupN (grp ns k))) ?_ ?_ ?_
      · have g : gSortDic S2 [.dic (kn.map iN) (kn.map fun k => nS (gOf ns.zipIdx k))] = some (nS ((List.range n).filter fun k => ns.contains k)) := by
          simp only [gSortDic]
          rw [if_pos kl, ksrt, List.map_map]
          rfl
        rw [a_iSeq, a_eCal, a_aCons, show (eVar 1) [some (SV.d (wbD n ws)), some (.dic (kn.map iN) (kn.map fun k => nS (gOf ns.zipIdx k))), s2, s3] S2 = some (.ok (.dic (kn.map iN) (kn.map fun k => nS (gOf ns.zipIdx k))) S2) from rfl]
        simp only [VL.bindM_ok, a_aNil, g, Option.map_some, isRef_o, seq_o, Option.bind_some, Bool.false_eq_true, if_false]
        rw [if_pos (by simp [noOwn])]
      · have := List.length_filter_le (fun k => ns.contains k) (List.range n)
        rw [List.length_range] at this
        rw [sizeLine_eq]
        omega
      · intro k hk
        have hk2 : k ∈ kn := (mem' k).mpr (List.contains_iff_mem.mp (List.mem_filter.mp hk).2)
        obtain ⟨p, hp, e1, e2⟩ := posK_in hk2
        refine ⟨[some (.d (wbD n ws)), some (.dic (kn.map iN) (kn.map fun k => nS (gOf ns.zipIdx k))), s2, some (nI k)], rfl, ?_⟩
        have hx : (kn.map (fun k => nS (gOf ns.zipIdx k)))[p]? = some (nS (grp ns k)) := by
          rw [List.getElem?_map, List.getElem?_eq_getElem hp, e1, Option.map_some, gOf_zip]
        have gt : gTuple S2 [nS (grp ns k)] = some (.d (tupN (grp ns k))) := gTuple_o S2 (fun j : Nat => PyData.int (j : Int)) (grp ns k)
        have gi : gIxDic S2 (.dic (kn.map iN) (kn.map fun k => nS (gOf ns.zipIdx k))) (nI k) = some (nS (grp ns k)) := by
          simp only [gIxDic, nI_eq, e2, Option.bind_some, hx]
        rw [a_eCal, a_aCons, a_eBin]
        simp only [a_eVar, List.getElem?_cons_succ, List.getElem?_cons_zero, VL.bindM_ok, gi, Option.map_some, a_aNil, gt]
    rw [a_eCal, a_aCons, lc, VL.bindM_ok, a_aNil, VL.bindM_ok, VL.bindM_ok]
    rw [gTuple_o S2 (fun k => tupN (grp ns k))]
    simp [pcs]
--# end
end M

end
section
set_option Elab.async false
set_option linter.all false
set_option maxRecDepth 100000
/-! C7: in, index, setdefault; law_same. -/
namespace M
open PySem PySem.Spec PyProof.Rows L2 VL
theorem sh_list_nd {k : Nat} {ds : List PyData} (h : ∀ d ∈ ds, nd k d = true) (hk : k ≤ 60) : SeqAt.shaped (.list ds) = true :=
  nd_shaped (k := k + 1) (by simp only [nd, List.all_eq_true]; exact h) (by omega)
theorem sh_ints (l : List Int) : SeqAt.shaped (.list (l.map PyData.int)) = true := sh_list_nd (k := 0) (fun d m => by
  obtain ⟨x, _, rfl⟩ := List.mem_map.mp m
  simp) (by omega)
theorem any_eqv_ints (l : List Int) (x : Int) : ((l.map PyData.int).any fun z => PyData.eqv z (.int x)) = l.contains x := by
  rw [List.any_map]
  induction l with
  | nil => rfl
  | cons a l ih => simp only [List.any_cons, List.contains_cons, ih, Function.comp, eqv_i]; congr 1; exact Bool.beq_comm
abbrev iS (x : Int) : SV := .d (.int x)
abbrev iL (l : List Int) : SV := .own (l.map iS)
theorem allD_iL (l : List Int) : allD (l.map iS) = some (l.map PyData.int) := allD_map' PyData.int l
theorem gIn_iL (S : Sto) (l : List Int) (x : Int) : gIn S (iS x) (iL l) = some (l.contains x) := by
  simp only [gIn, dat?, allD_iL, Option.map_some, Option.bind_some, sh_i, sh_ints, Bool.and_self, if_true, any_eqv_ints]
theorem gNotIn_iL (S : Sto) (l : List Int) (x : Int) : gNotIn S (iS x) (iL l) = some (!l.contains x) := by
  simp only [gNotIn, dat?, allD_iL, Option.map_some, Option.bind_some, sh_i, sh_ints, Bool.and_self, if_true, any_eqv_ints]
theorem nS_iL (ns : List Nat) : nS ns = iL (ns.map iN) := by simp [nS, iL]
theorem contains_iN (ns : List Nat) (k : Nat) : (ns.map iN).contains (k : Int) = ns.contains k := by
  induction ns with
  | nil => rfl
  | cons a ns ih =>
    rw [List.map_cons, List.contains_cons, List.contains_cons, ih]
    congr 1
    by_cases h : k = a
    · subst h; rw [beq_self_eq_true, beq_self_eq_true]
    · have : ¬ (k : Int) = iN a := by show ¬ (k : Int) = (a : Int); omega
      rw [beq_eq_false_iff_ne.mpr h, beq_eq_false_iff_ne.mpr this]
theorem gIn_nS (S : Sto) (ns : List Nat) (k : Nat) : gIn S (nI k) (nS ns) = some (ns.contains k) := by
  rw [nS_iL, nI_eq, gIn_iL, contains_iN]
theorem gNotIn_nS (S : Sto) (ns : List Nat) (k : Nat) : gNotIn S (nI k) (nS ns) = some (!ns.contains k) := by
  rw [nS_iL, nI_eq, gNotIn_iL, contains_iN]
theorem idxD_ints : ∀ (l : List Int) (x : Int), idxD (l.map PyData.int) (.int x) = posK l x
  | [], _ => rfl
  | a :: l, x => by simp [idxD, posK, idxD_ints l x, eqv_i]
/-! setdefault(x, len) -/
def oStep (o : List Int) (x : Int) : List Int := if o.contains x then o else o ++ [x]
def ordF (o l : List Int) : List Int := l.foldl oStep o
theorem posK_none {o : List Int} {x : Int} : x ∉ o → posK o x = none := by
  induction o with
  | nil => intro _; rfl
  | cons a o ih =>
    intro h
    rw [List.mem_cons, not_or] at h
    have : ¬ a = x := fun e => h.1 e.symm
    simp [posK, this, ih h.2]
theorem posK_mem' {o : List Int} {x : Int} : x ∈ o → ∃ p, p < o.length ∧ posK o x = some p := by
  induction o with
  | nil => intro h; cases h
  | cons a o ih =>
    intro h
    by_cases e : a = x
    · exact ⟨0, by simp, by simp [posK, e]⟩
    · obtain ⟨p, hp, q⟩ := ih (by
        rcases List.mem_cons.mp h with h | h
        · exact absurd h.symm e
        · exact h)
      exact ⟨p + 1, by simp; omega, by simp [posK, e, q]⟩
theorem posK_app {o t : List Int} {x : Int} {p : Nat} : posK o x = some p → posK (o ++ t) x = some p := by
  induction o generalizing p with
  | nil => intro h; cases h
  | cons a o ih =>
    intro h
    by_cases e : a = x
    · simpa [posK, e] using h
    · simp only [posK, e, if_false, Option.map_eq_some_iff] at h
      obtain ⟨q, h1, rfl⟩ := h
      simp [posK, e, ih h1]
theorem posK_new {o : List Int} {x : Int} : x ∉ o → posK (o ++ [x]) x = some o.length := by
  induction o with
  | nil => intro _; simp [posK]
  | cons a o ih =>
    intro h
    rw [List.mem_cons, not_or] at h
    have : ¬ a = x := fun e => h.1 e.symm
    simp [posK, this, ih h.2]
theorem ordF_ext : ∀ (l o : List Int), ∃ t, ordF o l = o ++ t
  | [], o => ⟨[], by simp [ordF]⟩
  | x :: l, o => by
    show ∃ t, ordF (oStep o x) l = o ++ t
    obtain ⟨t, e⟩ := ordF_ext l (oStep o x)
    unfold oStep at e ⊢
    split at e
    · rename_i h
      rw [if_pos h]
      exact ⟨t, e⟩
    · rename_i h
      rw [if_neg h]
      exact ⟨[x] ++ t, by rw [e]; simp⟩
def idO (o : List Int) (x : Int) : Nat := (posK o x).getD 0
theorem sdL_eq : ∀ (l ks acc : List Int), ks.length + l.length ≤ 100000 → acc.length + l.length ≤ 100000 → sdL (l.map iS) ks acc = some (ordF ks l, acc ++ l.map fun x => (idO (ordF ks l) x : Int))
  | [], ks, acc, _, _ => by simp [sdL, ordF]
  | x :: l, ks, acc, h1, h2 => by
    rw [List.length_cons] at h1 h2
    have hz := sizeLine_eq
    have c : acc.length < sizeLine ∧ ks.length < sizeLine := by omega
    have e0 : ordF ks (x :: l) = ordF (oStep ks x) l := rfl
    rw [List.map_cons]
    unfold sdL
    rw [if_pos c]
    by_cases hx : x ∈ ks
    · obtain ⟨p, hp, q⟩ := posK_mem' hx
      have o1 : oStep ks x = ks := by simp [oStep, hx]
      obtain ⟨t, et⟩ := ordF_ext l ks
      have ih := sdL_eq l ks (acc ++ [(p : Int)]) (by omega) (by simp; omega)
      simp only [q, ih, e0, o1]
      have : idO (ordF ks l) x = p := by rw [et]; simp [idO, posK_app q]
      simp [this]
    · have o1 : oStep ks x = ks ++ [x] := by simp [oStep, hx]
      obtain ⟨t, et⟩ := ordF_ext l (ks ++ [x])
      have ih := sdL_eq l (ks ++ [x]) (acc ++ [(ks.length : Int)]) (by simp; omega) (by simp; omega)
      simp only [posK_none hx, ih, e0, o1]
      have : idO (ordF (ks ++ [x]) l) x = ks.length := by rw [et]; unfold idO; rw [posK_app (posK_new hx)]; rfl
      simp [this]
theorem ordF_mem : ∀ (l o : List Int) (x : Int), x ∈ ordF o l ↔ x ∈ o ∨ x ∈ l
  | [], o, x => by simp [ordF]
  | y :: l, o, x => by
    show x ∈ ordF (oStep o y) l ↔ _
    rw [ordF_mem l]
    unfold oStep
    split
    · rename_i h
      rw [List.contains_iff_mem] at h
      constructor
      · rintro (z | z)
        · exact .inl z
        · exact .inr (List.mem_cons_of_mem _ z)
      · rintro (z | z)
        · exact .inl z
        · rcases List.mem_cons.mp z with rfl | z
          · exact .inl h
          · exact .inr z
    · simp only [List.mem_append, List.mem_cons, List.not_mem_nil, or_false]
      constructor
      · rintro ((z | z) | z)
        · exact .inl z
        · exact .inr (.inl z)
        · exact .inr (.inr z)
      · rintro (z | z | z)
        · exact .inl (.inl z)
        · exact .inl (.inr z)
        · exact .inr z
theorem idO_get {o : List Int} {x : Int} (h : x ∈ o) (hk : SeqAt.shaped (.int x) = true) (S : Sto) : gIdx S (iL o) (iS x) = some (nI (idO o x)) := by
  obtain ⟨p, hp, q⟩ := posK_mem' h
  simp only [gIdx, lst?, Option.bind_some, allD_iL, sh_ints, hk, Bool.and_self, if_true, idxD_ints, q, Option.map_some, idO, Option.getD_some]
/-! data that are the same -/
def sdB : Nat → PyData → Bool
  | _, .int _ => true
  | _, .none => true
  | _, .str s => PyData.strOk s
  | k + 1, .tuple ds => decide (ds.length ≤ 1000) && ds.all (sdB k)
  | _, _ => false
theorem sdB_nd : ∀ (k : Nat) (d : PyData), sdB k d = true → nd k d = true
  | 0, d, h => by
    cases d with
    | int i => simp
    | none => simp
    | str s => exact nd_str (by simpa [sdB] using h)
    | _ => simp [sdB] at h
  | k + 1, d, h => by
    cases d with
    | int i => simp
    | none => simp
    | str s => exact nd_str (by simpa [sdB] using h)
    | tuple ds =>
      simp only [sdB, Bool.and_eq_true, List.all_eq_true] at h
      exact nd_mk fun x m => sdB_nd k x (h.2 x m)
    | _ => simp [sdB] at h
theorem eqv_str (s : Str) : PyData.eqv (.str s) (.str s) = true := by simp [PyData.eqv]
theorem iRng_n {f : Rho → Mo SV} {ρ : Rho} {S : Sto} {n : Nat} (h : f ρ S = some (.ok (nI n) S)) (hn : n ≤ 100000) : (VL.iRng1 (aCons f aNil)) ρ S = some (.ok ((List.range n).map nI) S) := by
  have i2 : inR (n : Int) = true := inR_of (by omega)
  simp [h, i2, rangeL, nI]
--# law_same
theorem same_refl : ∀ (k : Nat) (d : PyData), sdB k d = true → k ≤ 50 → ∀ S : Sto, G.R__law_same (k + 1) [.d d, .d d] S = some (.ok (.d (.bool true)) S)
  | k, .int i, _, _, S => by
    show runF 3 (G.f__law_same _) _ S = _
    unfold runF rho0 G.f__law_same
    simp [eAnd, cB, gIsN]
  | k, .none, _, _, S => by
    show runF 3 (G.f__law_same _) _ S = _
    unfold runF rho0 G.f__law_same
    simp [eAnd, cB, gIsN]
  | k, .str s, h, _, S => by
    have hs : SeqAt.shaped (.str s) = true := nd_shaped (k := 0) (sdB_nd 0 (.str s) (by cases k <;> exact h)) (by omega)
    have hi : isNone (.d (.str s)) = false := rfl
    show runF 3 (G.f__law_same _) _ S = _
    unfold runF rho0 G.f__law_same
    simp [eAnd, cB, gIsN, gEq, hs, eqv_str, hi]
  | 0, .tuple ds, h, _, S => by simp [sdB] at h
  | k, .bool _, h, _, S => by cases k <;> simp [sdB] at h
  | k, .list _, h, _, S => by cases k <;> simp [sdB] at h
  | k, .dict _, h, _, S => by cases k <;> simp [sdB] at h
  | k + 1, .tuple ds, h, hk, S => by
    simp only [sdB, Bool.and_eq_true, List.all_eq_true, decide_eq_true_eq] at h
    have ih := fun x m => same_refl k x (h.2 x m) (by omega) S
    show runF 3 (G.f__law_same (G.R__law_same (k + 1))) _ S = _
    have lc : (eLc (VL.iRng1 (aCons (eCal gLen (aCons (eVar 0) aNil)) aNil)) (gNm 2) bYes (eCall 2 (G.R__law_same (k + 1)) [] (aCons (eBin gIx (eVar 0) (eVar 2)) (aCons (eBin gIx (eVar 1) (eVar 2)) aNil))) [2]) [some (.d (.tuple ds)), some (.d (.tuple ds)), none] S = some (.ok (.own ((List.range ds.length).map fun _ => SV.d (.bool true))) S) := by
      refine lc_map (List.range ds.length) nI (fun _ => SV.d (.bool true)) (iRng_n (by simp) (by omega)) (by rw [sizeLine_eq, List.length_range]; omega) fun j hj => ⟨[some (.d (.tuple ds)), some (.d (.tuple ds)), some (nI j)], rfl, ?_⟩
      have hj := List.mem_range.mp hj
      have a := atI_map SV.d ds hj
      simp [a, ih ds[j] (List.getElem_mem hj)]
    have nt := notin_b S ((List.range ds.length).map fun _ => true)
    rw [List.map_map] at nt
    have nt' : gNotIn S (.d (.bool false)) (.own ((List.range ds.length).map fun _ => SV.d (.bool true))) = some true := by
      refine nt.trans ?_
      congr 1
      rw [List.all_map, List.all_eq_true]
      exact fun _ _ => rfl
    unfold runF rho0 G.f__law_same
    simp [eAnd, cB, lc, nt']
theorem same_eq {k : Nat} {d : PyData} (h : sdB k d = true) (hk : k ≤ 7) (S : Sto) : G.F__law_same [.d d, .d d] S = some (.ok (.d (.bool true)) S) := by
  have up : sdB 7 d = true := by
    have mono : ∀ (k k' : Nat), k ≤ k' → ∀ d, sdB k d = true → sdB k' d = true := by
      intro k
      induction k with
      | zero =>
        intro k' _ d h
        cases d with
        | tuple _ => simp [sdB] at h
        | list _ => simp [sdB] at h
        | dict _ => simp [sdB] at h
        | bool _ => simp [sdB] at h
        | _ => cases k' <;> exact h
      | succ k ih =>
        intro k' hk d h
        obtain ⟨k', rfl⟩ : ∃ j, k' = j + 1 := ⟨k' - 1, by omega⟩
        cases d with
        | tuple ds =>
          simp only [sdB, Bool.and_eq_true, List.all_eq_true] at h ⊢
          exact ⟨h.1, fun x m => ih k' (by omega) x (h.2 x m)⟩
        | _ => exact h
    exact mono k 7 hk d h
  exact same_refl 7 d up (by omega) S
--# end
end M

end
section
set_option Elab.async false
set_option linter.all false
set_option maxRecDepth 100000
namespace M
open PySem PySem.Spec PyProof.Rows L2 VL
def jst (num : Nat → Nat) (s : List Wi) (w : Wi) : List Wi := if num w.1 = num w.2.1 then s else s ++ [(min (num w.1) (num w.2.1), max (num w.1) (num w.2.1), w.2.2)]
def jnW (num : Nat → Nat) (ws : List Wi) : List Wi := ws.foldl (jst num) []
theorem jst_len (num : Nat → Nat) (s : List Wi) (w : Wi) : (jst num s w).length ≤ s.length + 1 := by
  unfold jst
  split <;> simp
theorem jfold_len (num : Nat → Nat) : ∀ (ws s : List Wi), (ws.foldl (jst num) s).length ≤ s.length + ws.length
  | [], s => by simp
  | w :: ws, s => by
    have := jfold_len num ws (jst num s w)
    have := jst_len num s w
    simp only [List.foldl_cons, List.length_cons]
    omega
theorem jnW_congr {f g : Nat → Nat} {ws : List Wi} (h : ∀ w ∈ ws, f w.1 = g w.1 ∧ f w.2.1 = g w.2.1) : jnW f ws = jnW g ws := by
  have : ∀ (ws s : List Wi), (∀ w ∈ ws, f w.1 = g w.1 ∧ f w.2.1 = g w.2.1) → ws.foldl (jst f) s = ws.foldl (jst g) s := by
    intro ws
    induction ws with
    | nil => intro _ _; rfl
    | cons w ws ih =>
      intro s h
      obtain ⟨h1, h2⟩ := h w List.mem_cons_self
      simp only [List.foldl_cons]
      rw [show jst f s w = jst g s w by simp [jst, h1, h2]]
      exact ih _ fun v m => h v (List.mem_cons_of_mem _ m)
  exact this ws [] h
theorem gEq_nn (S : Sto) (a b : Nat) : gEq S (nI a) (nI b) = some (decide (a = b)) := by
  simp only [nI_eq, gEq_i]
  congr 1
  by_cases h : a = b
  · subst h; simp
  · rw [decide_eq_false h]; exact beq_eq_false_iff_ne.mpr (by omega)
theorem gNe_nn (S : Sto) (a b : Nat) : gNe S (nI a) (nI b) = some (!decide (a = b)) := by
  have := gEq_nn S a b
  simp only [nI_eq, gEq_i, gNe_i] at this ⊢
  simpa using this
abbrev iN' (l : List Nat) : PyData := .list (l.map fun x : Nat => .int (x : Int))
theorem ixL (S : Sto) {l : List Nat} {a : Nat} (h : a < l.length) : gIx S (.d (iN' l)) (nI a) = some (nI (gN l a)) := by
  have := atI_mapN nI l h
  show (atI ((l.map fun x : Nat => PyData.int (x : Int)).map SV.d) (a : Int)).bind _ = _
  rw [List.map_map]
  show (atI (l.map nI) (a : Int)).bind _ = _
  rw [this]
  rfl
theorem sorted_own {i : Nat} {ρ : Rho} (S : Sto) {ws : List Wi} (h : ws.length ≤ 1000) (hi : ρ[i]? = some (some (wsS ws))) : (eCal gTuple (aCons (eCal gSorted (aCons (eVar i) aNil)) aNil)) ρ S = some (.ok (.d (.tuple ((sortW ws).map wiD))) S) := by
  have g := gSorted_wi S h
  have g2 := gTuple_o S wiD (sortW ws)
  rw [a_eCal, a_aCons, a_eCal, a_aCons, a_eVar, hi]
  simp only [VL.bindM_ok, a_aNil, g, Option.map_some, g2]
theorem put_eq {n m : Nat} {ws : List Wi} {nums : List Nat} (hw : ∀ w ∈ ws, w.1 < nums.length ∧ w.2.1 < nums.length) (hl : ws.length ≤ 1000) (S : Sto) : G.F_put_together [.d (wbD n ws), .d (iN' nums), nI m] S = some (.ok (.d (wbD m (sortW (jnW (gN nums) ws)))) S) := by
  have hz := sizeLine_eq
  unfold G.F_put_together G.f_put_together
  refine run_wp ?_
  refine wp_set (x := wsS []) (S1 := S) (by simp [wsS, hz]) ?_
  refine wp_for (xs := ws.map fun w => SV.d (wiD w)) (S1 := S) (fun i ρ S' => S' = S ∧ ∃ s4 s5 s6 s7 s8, ρ = [some (.d (wbD n ws)), some (.d (iN' nums)), some (nI m), some (wsS ((ws.take i).foldl (jst (gN nums)) [])), s4, s5, s6, s7, s8]) (iSeq_wb2 (n := n) rfl) ⟨rfl, _, _, _, _, _, rfl⟩ ?_ ?_
  · rintro i x hx ρ S' ⟨rfl, s4, s5, s6, s7, s8, rfl⟩
    rw [List.getElem?_map, Option.map_eq_some_iff] at hx
    obtain ⟨w, hp, rfl⟩ := hx
    obtain ⟨hi, hp'⟩ := List.getElem?_eq_some_iff.mp hp
    obtain ⟨h1, h2⟩ := hw w (List.mem_of_getElem? hp)
    have a1 := ixL S' h1
    have a2 := ixL S' h2
    have jl := jfold_len (gN nums) (ws.take i) []
    have tl : (ws.take i).length = i := by rw [List.length_take]; omega
    simp only [List.length_nil] at jl
    have tk : (ws.take (i + 1)).foldl (jst (gN nums)) [] = jst (gN nums) ((ws.take i).foldl (jst (gN nums)) []) w := by
      rw [List.take_succ_eq_append_getElem hi, hp', List.foldl_append]
      rfl
    rw [tk]
    generalize (ws.take i).foldl (jst (gN nums)) [] = s at *
    refine ⟨_, tg_wi, ?_⟩
    have g1 := sort2_n S' (gN nums w.1) (gN nums w.2.1)
    refine wp_nx (ρ2 := [some (.d (wbD n ws)), some (.d (iN' nums)), some (nI m), some (wsS s), some (nI w.1), some (nI w.2.1), some (rS w.2.2), some (nI (min (gN nums w.1) (gN nums w.2.1))), some (nI (max (gN nums w.1) (gN nums w.2.1)))]) (S2 := S') (by
      have h3 : (eCal gSorted (aCons (eLst (aCons (eBin gIx (eVar 1) (eVar 4)) (aCons (eBin gIx (eVar 1) (eVar 5)) aNil))) aNil)) [some (.d (wbD n ws)), some (.d (iN' nums)), some (nI m), some (wsS s), some (nI w.1), some (nI w.2.1), some (rS w.2.2), s7, s8] S' = some (.ok (.own [nI (min (gN nums w.1) (gN nums w.2.1)), nI (max (gN nums w.1) (gN nums w.2.1))]) S') := by
        exact e_cal (e_one (e_lst (e_cons (e_bin rfl rfl a1) (e_one (e_bin rfl rfl a2))) (by simp))) g1
      rw [a_sAsg]
      show bindS _ ((eCal gSorted _) [some (.d (wbD n ws)), some (.d (iN' nums)), some (nI m), some (wsS s), some (nI w.1), some (nI w.2.1), some (rS w.2.2), s7, s8] S') _ = _
      rw [h3]
      have f3 := frz_own [.int ((min (gN nums w.1) (gN nums w.2.1) : Nat) : Int), .int ((max (gN nums w.1) (gN nums w.2.1) : Nat) : Int)]
      simp only [List.map_cons, List.map_nil] at f3
      simp only [bindS, nI_eq, f3, Option.bind_some]
      rfl) ?_
    by_cases he : gN nums w.1 = gN nums w.2.1
    · refine wp_ifF (S1 := S') ?_ (wp_nil ⟨_, _, .inl rfl, rfl, _, _, _, _, _, by rw [jst, if_pos he]⟩)
      have := gNe_nn S' (min (gN nums w.1) (gN nums w.2.1)) (max (gN nums w.1) (gN nums w.2.1))
      rw [decide_eq_true (by omega)] at this
      simp only [nI_eq] at this
      simp [cB, this, he]
    · refine wp_ifT (S1 := S') ?_ ⟨_, app_own (y := .d (wiD (min (gN nums w.1) (gN nums w.2.1), max (gN nums w.1) (gN nums w.2.1), w.2.2))) (S1 := S') rfl ?_ (by rw [List.length_map]; omega), _, _, .inl rfl, rfl, some (nI w.1), some (nI w.2.1), some (rS w.2.2), some (nI (min (gN nums w.1) (gN nums w.2.1))), some (nI (max (gN nums w.1) (gN nums w.2.1))), ?_⟩
      · have := gNe_nn S' (min (gN nums w.1) (gN nums w.2.1)) (max (gN nums w.1) (gN nums w.2.1))
        rw [decide_eq_false (by omega)] at this
        simp only [nI_eq] at this
        have h' : ¬ ((min (gN nums w.1) (gN nums w.2.1) : Nat) : Int) = ((max (gN nums w.1) (gN nums w.2.1) : Nat) : Int) := by omega
        generalize min (gN nums w.1) (gN nums w.2.1) = lo at *
        generalize max (gN nums w.1) (gN nums w.2.1) = hi at *
        simp [cB, h']
      · generalize min (gN nums w.1) (gN nums w.2.1) = lo
        generalize max (gN nums w.1) (gN nums w.2.1) = hi
        simp [hz, wiD]
      · rw [jst, if_neg he]
        simp [wsS]
  · rintro ρ2 S2 ⟨rfl, s4, s5, s6, s7, s8, rfl⟩
    rw [List.length_map, List.take_length]
    have jl := jfold_len (gN nums) ws []
    have so := sorted_own (i := 3) (ρ := [some (.d (wbD n ws)), some (.d (iN' nums)), some (nI m), some (wsS (ws.foldl (jst (gN nums)) [])), s4, s5, s6, s7, s8]) S2 (ws := ws.foldl (jst (gN nums)) []) (by simp at jl; omega) rfl
    refine wp_ret (x := .d (wbD m (sortW (jnW (gN nums) ws)))) (S1 := S2) ?_ rfl
    exact e_tup (e_cons rfl (e_cons rfl (e_one so))) rfl (by simp)
end M

end
section
set_option Elab.async false
set_option linter.all false
set_option maxRecDepth 100000
namespace M
open PySem PySem.Spec PyProof.Rows L2 VL
abbrev iT (l : List Int) : PyData := .tuple (l.map .int)
theorem atI_iT {l : List Int} {a : Nat} (h : a < l.length) : atI ((l.map PyData.int).map SV.d) (a : Int) = some (iS l[a]) := by
  rw [List.map_map]
  exact atI_map iS l h
theorem ixB_iT (S : Sto) {l : List Int} {a : Nat} (h : a < l.length) : gIxB S (.d (iT l)) (nI a) = some (iS l[a]) := by
  rw [nI_eq, gIxB_i]
  exact atI_iT h
theorem law_joined_eq {n : Nat} {ws : List Wi} {ps : List Int} (hp : ps.length = n) (hw : ∀ w ∈ ws, w.1 < n ∧ w.2.1 < n) (hn : n ≤ 1000) (hl : ws.length ≤ 1000) (S : Sto) :
    G.F__law_joined [.d (wbD n ws), .d (iT ps)] S = some (.ok (.d (wbD (ordF [] ps).length (sortW (jnW (fun a => idO (ordF [] ps) (ps.getD a 0)) ws)))) S) := by
  have hz := sizeLine_eq
  unfold G.F__law_joined G.f__law_joined
  refine run_wp ?_
  refine wp_set (x := iL []) (S1 := S) (e_lst e_nil (by simp)) ?_
  refine wp_for (xs := ps.map iS) (S1 := S) (fun i ρ S' => S' = S ∧ (ordF [] (ps.take i)).length ≤ i ∧ ∃ s3 s4 s5 s6 s7 s8, ρ = [some (.d (wbD n ws)), some (.d (iT ps)), some (iL (ordF [] (ps.take i))), s3, s4, s5, s6, s7, s8]) ?_ ⟨rfl, Nat.le_refl _, _, _, _, _, _, _, rfl⟩ ?_ ?_
  · exact (iSeq_tup (ds := ps.map .int) (S1 := S) rfl).trans (by rw [List.map_map]; rfl)
  · rintro i x hx ρ S' ⟨rfl, ol, s3, s4, s5, s6, s7, s8, rfl⟩
    rw [List.getElem?_map, Option.map_eq_some_iff] at hx
    obtain ⟨y, hp1, rfl⟩ := hx
    obtain ⟨hi, hp'⟩ := List.getElem?_eq_some_iff.mp hp1
    have tk : ordF [] (ps.take (i + 1)) = oStep (ordF [] (ps.take i)) y := by
      rw [List.take_succ_eq_append_getElem hi, hp']
      unfold ordF
      rw [List.foldl_append]
      rfl
    rw [tk]
    generalize ordF [] (ps.take i) = o at *
    have ni := gNotIn_iL S' o y
    refine ⟨[some (.d (wbD n ws)), some (.d (iT ps)), some (iL o), some (iS y), s4, s5, s6, s7, s8], rfl, ?_⟩
    by_cases h : o.contains y
    · rw [h] at ni
      exact wp_ifF (S1 := S') (b_cmp rfl rfl ni) (wp_nil ⟨_, _, .inl rfl, rfl, by rw [oStep, if_pos h]; omega, _, _, _, _, _, _, by rw [oStep, if_pos h]⟩)
    · have h' : o.contains y = false := by simpa using h
      rw [h'] at ni
      refine wp_ifT (S1 := S') (b_cmp rfl rfl ni) ⟨_, app_own (ys := o.map iS) (y := iS y) (S1 := S') rfl rfl (by rw [List.length_map]; omega), _, _, .inl rfl, rfl, ?_, some (iS y), s4, s5, s6, s7, s8, ?_⟩
      · rw [oStep, if_neg h, List.length_append]; simp; omega
      · rw [oStep, if_neg h]; simp [iL]
  · rintro ρ2 S2 ⟨rfl, ol, s3, s4, s5, s6, s7, s8, rfl⟩
    rw [List.length_map, List.take_length] at *
    have om := ordF_mem ps []
    generalize ordF [] ps = o at *
    refine wp_set (x := wsS []) (S1 := S2) (e_lst e_nil (by simp)) ?_
    have num := fun a => idO o (ps.getD a 0)
    refine wp_for (xs := ws.map fun w => SV.d (wiD w)) (S1 := S2) (fun i ρ S' => S' = S2 ∧ ∃ s3 s5 s6 s7 s8, ρ = [some (.d (wbD n ws)), some (.d (iT ps)), some (iL o), s3, some (wsS ((ws.take i).foldl (jst (fun a => idO o (ps.getD a 0))) [])), s5, s6, s7, s8]) (iSeq_wb2 (n := n) rfl) ⟨rfl, _, _, _, _, _, rfl⟩ ?_ ?_
    · rintro i x hx ρ S' ⟨rfl, s3, s5, s6, s7, s8, rfl⟩
      rw [List.getElem?_map, Option.map_eq_some_iff] at hx
      obtain ⟨w, hp1, rfl⟩ := hx
      obtain ⟨hi, hp'⟩ := List.getElem?_eq_some_iff.mp hp1
      obtain ⟨h1, h2⟩ := hw w (List.mem_of_getElem? hp1)
      have jl := jfold_len (fun a => idO o (ps.getD a 0)) (ws.take i) []
      have tl : (ws.take i).length = i := by rw [List.length_take]; omega
      simp only [List.length_nil] at jl
      have tk : (ws.take (i + 1)).foldl (jst (fun a => idO o (ps.getD a 0))) [] = jst (fun a => idO o (ps.getD a 0)) ((ws.take i).foldl (jst (fun a => idO o (ps.getD a 0))) []) w := by
        rw [List.take_succ_eq_append_getElem hi, hp', List.foldl_append]
        rfl
      rw [tk]
      generalize (ws.take i).foldl (jst (fun a => idO o (ps.getD a 0))) [] = s at *
      have pa : ∀ a, a < n → ∃ y, ps.getD a 0 = y ∧ gIxB S' (.d (iT ps)) (nI a) = some (iS y) ∧ gIdx S' (iL o) (iS y) = some (nI (idO o y)) := by
        intro a ha
        have ha' : a < ps.length := by omega
        refine ⟨ps[a], by simp [List.getD, ha'], ixB_iT S' ha', idO_get ((om _).mpr (.inr (List.getElem_mem ha'))) (sh_i _) S'⟩
      obtain ⟨y1, q1, ix1, id1⟩ := pa w.1 h1
      obtain ⟨y2, q2, ix2, id2⟩ := pa w.2.1 h2
      have jq : jst (fun a => idO o (ps.getD a 0)) s w = if idO o y1 = idO o y2 then s else s ++ [(min (idO o y1) (idO o y2), max (idO o y1) (idO o y2), w.2.2)] := by
        unfold jst
        simp only []
        rw [q1, q2]
      rw [jq]
      generalize idO o y1 = a1 at *
      generalize idO o y2 = a2 at *
      refine ⟨_, tg_wi, ?_⟩
      have ei : ∀ {k : Nat} {y : Int} {a : Nat} {c : Nat} {ρ : Rho}, ρ[2]? = some (some (iL o)) → (eBin gIxB (eVar 1) (eVar c)) ρ S' = some (.ok (iS y) S') → gIdx S' (iL o) (iS y) = some (nI a) → eIdx (eVar 2) (eBin gIxB (eVar 1) (eVar c)) ρ S' = some (.ok (nI a) S') := by
        intro _ y a c ρ h1 h2 h3
        unfold eIdx
        rw [e_var h1, VL.bindM_ok]
        simp only [lst?, Option.isSome_some, if_true, h2, VL.bindM_ok, h3, Option.map_some]
      refine wp_set (x := nI a1) (S1 := S') (ei (k := 0) rfl (e_bin rfl rfl ix1) id1) ?_
      refine wp_set (x := nI a2) (S1 := S') (ei (k := 0) rfl (e_bin rfl rfl ix2) id2) ?_
      have ne := gNe_nn S' a1 a2
      by_cases he : a1 = a2
      · rw [decide_eq_true he] at ne
        exact wp_ifF (S1 := S') (b_cmp rfl rfl ne) (wp_nil ⟨_, _, .inl rfl, rfl, _, _, _, _, _, by rw [if_pos he]; rfl⟩)
      · rw [decide_eq_false he] at ne
        refine wp_ifT (S1 := S') (b_cmp rfl rfl ne) ⟨_, app_own (ys := s.map fun w => SV.d (wiD w)) (y := .d (wiD (min a1 a2, max a1 a2, w.2.2))) (S1 := S') rfl ?_ (by rw [List.length_map]; omega), _, _, .inl rfl, rfl, some (nI a1), some (nI w.1), some (nI w.2.1), some (rS w.2.2), some (nI a2), ?_⟩
        · exact e_one (e_tup (e_cons (e_cal (e_cons rfl (e_one rfl)) (gMin_n S' a1 a2)) (e_cons (e_cal (e_cons rfl (e_one rfl)) (gMax_n S' a1 a2)) (e_one rfl))) rfl (by simp))
        · rw [if_neg he]
          simp [wsS]
    · rintro ρ2 S3 ⟨rfl, s3, s5, s6, s7, s8, rfl⟩
      rw [List.length_map, List.take_length]
      have jl := jfold_len (fun a => idO o (ps.getD a 0)) ws []
      have so := sorted_own (i := 4) (ρ := [some (.d (wbD n ws)), some (.d (iT ps)), some (iL o), s3, some (wsS (ws.foldl (jst (fun a => idO o (ps.getD a 0))) [])), s5, s6, s7, s8]) S3 (ws := ws.foldl (jst (fun a => idO o (ps.getD a 0))) []) (by rw [List.length_nil] at jl; omega) rfl
      have ln : gLen S3 [iL o] = some (nI o.length) := by simp [iL]
      refine wp_ret (x := .d (wbD o.length (sortW (jnW (fun a => idO o (ps.getD a 0)) ws)))) (S1 := S3) ?_ rfl
      exact e_tup (e_cons rfl (e_cons (e_cal (e_one rfl) ln) (e_one so))) rfl (by simp)
/-- the program's web of joints put together -/
theorem joined_web_eq {n : Nat} {ws : List Wi} {ps : List Int} (h : WbOk n ws) (hp : ps.length = n) (S : Sto) :
    G.F_joined_web [.d (wbD n ws), .d (iT ps)] S = some (.ok (.d (wbD (ordF [] ps).length (sortW (jnW (fun a => idO (ordF [] ps) (ps.getD a 0)) ws)))) S) := by
  have hz := sizeLine_eq
  have n2 := h.n2
  have hl := h.len
  have cw := check_web_ok h S
  unfold G.F_joined_web G.f_joined_web
  refine run_wp ?_
  refine wp_drop (x := .d .none) (S1 := S) (e_call (e_one rfl) rfl rfl cw) ?_
  refine wp_pass (S1 := S) ?_ ?_
  · refine b_orF (b_not (b_valB (b := true) (S1 := S) (by simp [rho0]))) ?_
    have ne := gNe_nn S ps.length n
    rw [decide_eq_true hp] at ne
    exact b_cmp (x := nI ps.length) (y := nI n) (S1 := S) (by simp [rho0]) (by simp [rho0, wbD]) ne
  refine wp_pass (S1 := S) ?_ ?_
  · have c := lc_map (ρ := rho0 5 [.d (wbD n ws), .d (iT ps)]) (S := S) (S1 := S) (it := VL.iSeq (eVar 1)) (tf := gNm 4) (vs := [4]) (elt := (eAnd (eIsi1 (eVar 4) ["int"]) (eNot (eIsi1 (eVar 4) ["bool"])))) ps iS (fun _ => .d (.bool true)) ((iSeq_tup (ds := ps.map .int) (S1 := S) rfl).trans (by rw [List.map_map]; rfl)) (by omega) fun y _ => ⟨[some (.d (wbD n ws)), some (.d (iT ps)), none, none, some (iS y)], rfl, by simp [eAnd]⟩
    have ga := gAll_b S (ps.map fun _ => true)
    rw [List.map_map] at ga
    have ga' : gAll S [.own (ps.map fun _ => SV.d (.bool true))] = some (.d (.bool true)) := by
      refine ga.trans ?_
      congr 2
      rw [List.all_map]
      exact congrArg PyData.bool (List.all_eq_true.mpr fun _ _ => rfl)
    exact b_not (b_valB (e_cal (e_one c) ga'))
  refine wp_set (x := .dic [] []) (S1 := S) rfl ?_
  have sd := sdL_eq ps [] [] (by simp; omega) (by simp; omega)
  rw [List.nil_append] at sd
  have om := ordF_mem ps []
  generalize ordF [] ps = o at sd om
  refine wp_nx (ρ2 := [some (.d (wbD n ws)), some (.d (iT ps)), some (.dic o ((List.range o.length).map fun (j : Nat) => SV.d (.int (j : Int)))), some (nS (ps.map (idO o))), none]) (S2 := S) ?_ ?_
  · unfold sSetd
    rw [show (VL.iSeq (eVarV 1)) ((rho0 5 [SV.d (wbD n ws), SV.d (iT ps)]).set 2 (some (.dic [] []))) S = some (.ok (ps.map iS) S) from (iSeq_tup (ds := ps.map .int) (S1 := S) rfl).trans (by rw [List.map_map]; rfl)]
    simp [rho0, bindS, sd, nS]
  have fz := frz_own ((ps.map (idO o)).map fun x : Nat => .int (x : Int))
  rw [List.map_map] at fz
  have pe := put_eq (n := n) (m := o.length) (ws := ws) (nums := ps.map (idO o)) (fun w m => by
    have a := (h.all w m).lt
    have b := (h.all w m).le
    rw [List.length_map]
    omega) (by omega) S
  have jc : jnW (gN (ps.map (idO o))) ws = jnW (fun a => idO o (ps.getD a 0)) ws := jnW_congr fun w m => by
    have a := (h.all w m).lt
    have b := (h.all w m).le
    have c1 : w.1 < ps.length := by omega
    have c2 : w.2.1 < ps.length := by omega
    constructor
    · rw [gN_eq (by simpa using c1)]; simp [List.getD, c1]
    · rw [gN_eq (by simpa using c2)]; simp [List.getD, c2]
  rw [jc] at pe
  refine ⟨_, ?_, rfl⟩
  unfold ghF ghF
  simp only [List.getElem?_cons_succ, List.getElem?_cons_zero]
  have fz' : frz (nS (ps.map (idO o))) = some (.d (iN' (ps.map (idO o)))) := fz
  rw [fz']
  show sRet _ [some (.d (wbD n ws)), some (.d (iT ps)), some (.dic o ((List.range o.length).map fun (j : Nat) => SV.d (.int (j : Int)))), some (.d (iN' (ps.map (idO o)))), none] S = _
  rw [a_sRet, e_call (n := 3) (S1 := S) (e_cons rfl (e_cons rfl (e_one (e_cal (z := nI o.length) (e_one rfl) rfl)))) rfl rfl pe]
  rfl
end M

end
section
set_option Elab.async false
set_option linter.all false
set_option maxRecDepth 100000
namespace M
open PySem PySem.Spec PyProof.Rows L2 VL
noncomputable abbrev Dc : List (Str × (List SV → Mo SV)) := [("with_wire", G.F_with_wire), ("joined_web", G.F_joined_web), ("without", G.F_without)]
theorem told_ok {nm : Str} {Fn : List SV → Mo SV} {x y z : SV} {S S' : Sto} (hL : Dc.lookup nm = some Fn) (hx : noOwn x = true) (hy : noOwn y = true) (h : Fn [x, y] S = some (.ok z S')) : G.F__law_told [.fn nm, x, y] S = some (.ok z S') := by
  have fx : frz x = some x := by simp [frz, hx]
  have fy : frz y = some y := by simp [frz, hy]
  unfold G.F__law_told runF rho0 G.f__law_told sTryM
  simp [eCallL, hL, hx, hy, fx, fy, h]
theorem mt1 : G.mt "BadWeb" "BadWeb" = some true := by decide +kernel
theorem mt2 : G.mt "BadEnds" "BadWeb" = some false := by decide +kernel
theorem mt3 : G.mt "BadEnds" "BadEnds" = some true := by decide +kernel
theorem mt4 : G.mt "TooFar" "BadWeb" = some false := by decide +kernel
theorem mt5 : G.mt "TooFar" "BadEnds" = some false := by decide +kernel
theorem mt6 : G.mt "TooFar" "TooFar" = some true := by decide +kernel
theorem told_web {nm : Str} {Fn : List SV → Mo SV} {x y : SV} {S S' : Sto} (hL : Dc.lookup nm = some Fn) (hx : noOwn x = true) (hy : noOwn y = true) (h : Fn [x, y] S = some (.exc "BadWeb" [] S')) : G.F__law_told [.fn nm, x, y] S = some (.ok (.d (.str "web")) S') := by
  have fx : frz x = some x := by simp [frz, hx]
  have fy : frz y = some y := by simp [frz, hy]
  unfold G.F__law_told runF rho0 G.f__law_told sTryM
  simp [eCallL, hL, hx, hy, fx, fy, h, exM, mt1, noX]
theorem told_ends {nm : Str} {Fn : List SV → Mo SV} {x y : SV} {S S' : Sto} (hL : Dc.lookup nm = some Fn) (hx : noOwn x = true) (hy : noOwn y = true) (h : Fn [x, y] S = some (.exc "BadEnds" [] S')) : G.F__law_told [.fn nm, x, y] S = some (.ok (.d (.str "ends")) S') := by
  have fx : frz x = some x := by simp [frz, hx]
  have fy : frz y = some y := by simp [frz, hy]
  unfold G.F__law_told runF rho0 G.f__law_told sTryM
  simp [eCallL, hL, hx, hy, fx, fy, h, exM, mt2, mt3, noX]
theorem told_far {nm : Str} {Fn : List SV → Mo SV} {x y : SV} {S S' : Sto} (hL : Dc.lookup nm = some Fn) (hx : noOwn x = true) (hy : noOwn y = true) (h : Fn [x, y] S = some (.exc "TooFar" [] S')) : G.F__law_told [.fn nm, x, y] S = some (.ok (.d (.str "far")) S') := by
  have fx : frz x = some x := by simp [frz, hx]
  have fy : frz y = some y := by simp [frz, hy]
  unfold G.F__law_told runF rho0 G.f__law_told sTryM
  simp [eCallL, hL, hx, hy, fx, fy, h, exM, mt4, mt5, mt6, noX]
theorem look_j : List.lookup (α := Str) "joined_web" Dc = some G.F_joined_web := rfl
theorem look_o : List.lookup (α := Str) "without" Dc = some G.F_without := rfl
theorem look_w : List.lookup (α := Str) "with_wire" Dc = some G.F_with_wire := rfl
/-! pieces -/
theorem wb_lt {n : Nat} {ws : List Wi} (h : WbOk n ws) : ∀ w ∈ ws, w.1 < n ∧ w.2.1 < n := fun w m => ⟨Nat.lt_trans (h.all w m).lt (h.all w m).le, (h.all w m).le⟩
theorem pieces_eq {n : Nat} {ws : List Wi} (h : WbOk n ws) (S : Sto) : G.F_pieces [.d (wbD n ws)] S = some (.ok (.d (.tuple ((pcs n (nms n ws)).map tupN))) S) := by
  have n2 := h.n2
  have l := h.len
  unfold G.F_pieces G.f_pieces
  exact run_wp (wp_drop (e_call (e_one rfl) rfl rfl (check_web_ok h S)) (wp_ret (e_call (e_one rfl) rfl rfl (all_pieces_eq (wb_lt h) (by omega) (by omega) S)) rfl))
/-! without -/
theorem cw_ok {n : Nat} {ws : List Wi} {i : Nat} (h : i < ws.length) (S : Sto) : G.F_check_wire [.d (wbD n ws), nI i] S = some (.ok (.d .none) S) := by
  have e := isint_eq (k := 0) (d := .int (i : Int)) (nd_int 0 _) 0 ((ws.length : Int) - 1) S
  have h1 : (0 : Int) ≤ (i : Int) := by omega
  have h2 : (i : Int) ≤ (ws.length : Int) - 1 := by omega
  simp only [] at e
  rw [decide_eq_true h1, decide_eq_true h2] at e
  unfold G.F_check_wire runF rho0 G.f_check_wire
  simp [wbD, e]
theorem cw_no {n : Nat} {ws : List Wi} {d : PyData} (h : (match d with | .int i => ¬ (0 ≤ i ∧ i < ws.length) | .bool _ => True | _ => False)) (S : Sto) : G.F_check_wire [.d (wbD n ws), .d d] S = some (.exc "BadEnds" [] S) := by
  have e : G.F_is_integer [.d d, .d (.int 0), .d (.int ((ws.length : Int) - 1))] S = some (.ok (.d (.bool false)) S) := by
    cases d with
    | int i =>
      rw [isint_eq (k := 0) (nd_int 0 _) 0 ((ws.length : Int) - 1) S]
      simp only at h ⊢
      by_cases h1 : 0 ≤ i
      · rw [decide_eq_true h1, decide_eq_false (by omega)]; rfl
      · rw [decide_eq_false h1]; rfl
    | bool b => rw [isint_eq (k := 0) (nd_bool 0 _) 0 ((ws.length : Int) - 1) S]
    | _ => exact h.elim
  unfold G.F_check_wire runF rho0 G.f_check_wire
  simp [wbD, e]
theorem gAdd_tt (S : Sto) {xs ys : List PyData} (h : xs.length + ys.length ≤ 100000) : gAdd S (.d (.tuple xs)) (.d (.tuple ys)) = some (.d (.tuple (xs ++ ys))) := by
  simp only [gAdd]
  rw [if_pos (by rw [sizeLine_eq]; omega)]
theorem cut_ws {n : Nat} {ws : List Wi} {i : Nat} (hl : ws.length ≤ 60) {ρ : Rho} (S : Sto) {w v : Nat} (h1 : ρ[w]? = some (some (.d (wbD n ws)))) (h2 : ρ[v]? = some (some (nI i))) :
    (eTup (aCons (eCon (.str "web")) (aCons (eBin gIx (eVar w) (eCon (.int 1))) (aCons (eBin gAdd (eSl (eBin gIxB (eVar w) (eCon (.int 2))) pNone (pSome (eVar v))) (eSl (eBin gIxB (eVar w) (eCon (.int 2))) (pSome (eBin gAdd (eVar v) (eCon (.int 1)))) pNone)) aNil)))) ρ S = some (.ok (.d (wbD n (ws.take i ++ ws.drop (i + 1)))) S) := by
  have c1 : cutL (ws.map wiD) none (some (i : Int)) = (ws.take i).map wiD := by rw [cut_to _ (by omega)]; simp
  have c2 : cutL (ws.map wiD) (some ((i : Int) + 1)) none = (ws.drop (i + 1)).map wiD := by rw [cut_from _ (by omega)]; simp
  have g0 : ∀ S : Sto, gIxB S (.d (wbD n ws)) (.d (.int 2)) = some (.d (.tuple (ws.map wiD))) := fun S => rfl
  have g1 : ∀ S : Sto, gIx S (.d (wbD n ws)) (.d (.int 1)) = some (nI n) := fun S => rfl
  refine e_tup (e_cons rfl (e_cons (e_bin (e_var h1) rfl (g1 S)) (e_one (e_bin (e_sl (e_bin (e_var h1) rfl (g0 S)) rfl (o_some' (e_var h2)) rfl) (e_sl (e_bin (e_var h1) rfl (g0 S)) (o_some' (e_bin (e_var h2) rfl rfl)) rfl rfl) (gAdd_tt S ?_))))) ?_ (by simp)
  · rw [c1, c2]
    simp only [List.length_map, List.length_take, List.length_drop]
    omega
  · rw [c1, c2, ← List.map_append]
    rfl
theorem without_ok {n : Nat} {ws : List Wi} {i : Nat} (h : WbOk n ws) (hi : i < ws.length) (S : Sto) : G.F_without [.d (wbD n ws), nI i] S = some (.ok (.d (wbD n (ws.take i ++ ws.drop (i + 1)))) S) := by
  have lw : G.F_less_wire [.d (wbD n ws), nI i] S = some (.ok (.d (wbD n (ws.take i ++ ws.drop (i + 1)))) S) := by
    unfold G.F_less_wire G.f_less_wire
    exact run_wp (wp_ret (cut_ws h.len S rfl rfl) rfl)
  unfold G.F_without G.f_without
  exact run_wp (wp_drop (e_call (e_one rfl) rfl rfl (check_web_ok h S)) (wp_drop (e_call (e_cons rfl (e_one rfl)) rfl rfl (cw_ok hi S)) (wp_ret (e_call (e_cons rfl (e_one rfl)) rfl rfl lw) rfl)))
theorem wp_dropE {e : Rho → Mo SV} {t : Stm} {ρ : Rho} {S S1 : Sto} {Q : VL.Fl → Prop} {c : Str} {fs : List (Str × SV)} (h : e ρ S = some (.exc c fs S1)) (q : Q (.exc c fs ρ S1)) : Wp (sSeq (sDrop e) t ρ S) Q := by
  refine wp_seq ⟨.exc c fs ρ S1, ?_, .inr ⟨fun _ _ => by simp, q⟩⟩
  show bindS ρ (e ρ S) _ = _
  rw [h]
  rfl
theorem wp_raiseT {c : Rho → Mo Bool} {t b2 : Stm} {ρ : Rho} {S S1 : Sto} {Q : VL.Fl → Prop} {k : Str} (h : c ρ S = some (.ok true S1)) (q : Q (.exc k [] ρ S1)) : Wp (sSeq (sIf c (sRaise k) b2) t ρ S) Q := by
  refine wp_seq ⟨.exc k [] ρ S1, ?_, .inr ⟨fun _ _ => by simp, q⟩⟩
  show bindS ρ (c ρ S) _ = _
  rw [h]
  rfl
theorem without_no {n : Nat} {ws : List Wi} {d : PyData} (h : WbOk n ws) (hd : (match d with | .int i => ¬ (0 ≤ i ∧ i < ws.length) | .bool _ => True | _ => False)) (S : Sto) : G.F_without [.d (wbD n ws), .d d] S = some (.exc "BadEnds" [] S) := by
  unfold G.F_without G.f_without
  exact run_wpE (wp_drop (e_call (e_one rfl) rfl rfl (check_web_ok h S)) (wp_dropE (e_call (e_cons rfl (e_one rfl)) rfl rfl (cw_no hd S)) ⟨_, rfl⟩))
/-! with_wire -/
theorem sortedT {ws : List Wi} {w : Wi} {ρ : Rho} {f g : Rho → Mo SV} (hl : ws.length ≤ 60) (S : Sto) (h1 : f ρ S = some (.ok (.d (.tuple (ws.map wiD))) S)) (h2 : g ρ S = some (.ok (.d (wiD w)) S)) : (eCal gTuple (aCons (eCal gSortedT (aCons (eBin gAdd f (eTup (aCons g aNil))) aNil)) aNil)) ρ S = some (.ok (.d (.tuple ((sortW (ws ++ [w])).map wiD))) S) := by
  have a := gAdd_tt S (xs := ws.map wiD) (ys := [wiD w]) (by simp; omega)
  have so := sortOk_wi (ws := ws ++ [w]) (by simp; omega)
  have g2 := gTuple_o S wiD (sortW (ws ++ [w]))
  have gs : gSortedT S [.d (.tuple (ws.map wiD ++ [wiD w]))] = some (.own ((sortW (ws ++ [w])).map fun w => SV.d (wiD w))) := by
    have e : ws.map wiD ++ [wiD w] = (ws ++ [w]).map wiD := by simp
    simp only [gSortedT, e, so, if_true, sortW_D, List.map_map]
    rfl
  exact e_cal (e_one (e_cal (e_one (e_bin h1 (e_tup (e_one h2) rfl (by simp)) a)) gs)) g2
theorem with_ok {n : Nat} {ws : List Wi} {w : Wi} (h : WbOk n ws) (hw : WiOk n w) (hl : ws.length < 60) (S : Sto) : G.F_with_wire [.d (wbD n ws), .d (wiD w)] S = some (.ok (.d (wbD n (sortW (ws ++ [w])))) S) := by
  unfold G.F_with_wire G.f_with_wire
  refine run_wp (wp_drop (e_call (e_one rfl) rfl rfl (check_web_ok h S)) (wp_pass (S1 := S) (b_not (b_valB (e_call (e_cons rfl (e_one (e_bin (z := nI n) rfl rfl rfl))) rfl rfl (iswire_wi hw S)))) (wp_pass (S1 := S) (b_cmp (x := nI ws.length) (y := nI 60) (e_cal (e_one (e_bin (z := .d (.tuple (ws.map wiD))) rfl rfl rfl)) (by simp)) rfl ?_) (wp_ret (e_tup (e_cons rfl (e_cons (e_bin (z := nI n) rfl rfl rfl) (e_one (sortedT (by omega) S (e_bin rfl rfl rfl) rfl)))) rfl (by simp)) rfl))))
  have := gEq_nn S ws.length 60
  rw [decide_eq_false (by omega)] at this
  exact this
theorem with_no {n : Nat} {ws : List Wi} {d : PyData} (h : WbOk n ws) (hd : nd 10 d = true) (hw : isWr (n : Int) d = false) (S : Sto) : G.F_with_wire [.d (wbD n ws), .d d] S = some (.exc "BadEnds" [] S) := by
  have iw := iswire_eq hd (n : Int) S
  rw [hw] at iw
  unfold G.F_with_wire G.f_with_wire
  exact run_wpE (wp_drop (e_call (e_one rfl) rfl rfl (check_web_ok h S)) (wp_raiseT (S1 := S) (b_not (b_valB (e_call (e_cons rfl (e_one (e_bin (z := nI n) rfl rfl rfl))) rfl rfl iw))) ⟨_, rfl⟩))
theorem with_far {n : Nat} {ws : List Wi} {w : Wi} (h : WbOk n ws) (hw : WiOk n w) (hl : ws.length = 60) (S : Sto) : G.F_with_wire [.d (wbD n ws), .d (wiD w)] S = some (.exc "TooFar" [] S) := by
  unfold G.F_with_wire G.f_with_wire
  refine run_wpE (wp_drop (e_call (e_one rfl) rfl rfl (check_web_ok h S)) (wp_pass (S1 := S) (b_not (b_valB (e_call (e_cons rfl (e_one (e_bin (z := nI n) rfl rfl rfl))) rfl rfl (iswire_wi hw S)))) (wp_raiseT (S1 := S) (b_cmp (x := nI ws.length) (y := nI 60) (e_cal (e_one (e_bin (z := .d (.tuple (ws.map wiD))) rfl rfl rfl)) (by simp)) rfl ?_) ⟨_, rfl⟩)))
  have := gEq_nn S ws.length 60
  rw [decide_eq_true hl] at this
  exact this
end M

end
section
set_option Elab.async false
set_option linter.all false
set_option maxRecDepth 100000
namespace M
open PySem PySem.Spec PyProof.Rows L2 VL
section
variable {n : Nat} {ws : List Wi} {S : Sto}
theorem nelen {S : Sto} {a n : Nat} : gNe S (nI a) (nI n) = some (!decide (a = n)) := gNe_nn S a n
theorem jw_noA {d : PyData} (h : WbOk n ws) (hd : (match d with | .none => True | .list _ => True | _ => False)) : G.F_joined_web [.d (wbD n ws), .d d] S = some (.exc "BadEnds" [] S) := by
  unfold G.F_joined_web G.f_joined_web
  refine run_wpE (wp_drop (e_call (e_one rfl) rfl rfl (check_web_ok h S)) (wp_raiseT (S1 := S) (b_orT (b_not (b_valB (b := false) ?_))) ⟨_, rfl⟩))
  cases d with
  | none => simp [rho0]
  | list _ => simp [rho0]
  | _ => exact hd.elim
theorem jw_noL {ds : List PyData} (h : WbOk n ws) (hd : ds.length ≠ n) : G.F_joined_web [.d (wbD n ws), .d (.tuple ds)] S = some (.exc "BadEnds" [] S) := by
  have ne := gNe_nn S ds.length n
  rw [decide_eq_false hd] at ne
  unfold G.F_joined_web G.f_joined_web
  refine run_wpE (wp_drop (e_call (e_one rfl) rfl rfl (check_web_ok h S)) (wp_raiseT (S1 := S) (b_orF (b_not (b_valB (b := true) (S1 := S) (by simp [rho0]))) ?_) ⟨_, rfl⟩))
  exact b_cmp (x := nI ds.length) (y := nI n) (S1 := S) (by simp [rho0]) (by simp [rho0, wbD]) ne
theorem jw_noB {d : PyData} (h : WbOk n ws) (hd : (match d with | .bool _ => True | .str _ => True | _ => False)) : G.F_joined_web [.d (wbD n ws), .d (.tuple (List.replicate n d))] S = some (.exc "BadEnds" [] S) := by
  have n1 := h.n1
  have n2 := h.n2
  have ne := gNe_nn S (List.replicate n d).length n
  rw [decide_eq_true (by simp)] at ne
  unfold G.F_joined_web G.f_joined_web
  refine run_wpE (wp_drop (e_call (e_one rfl) rfl rfl (check_web_ok h S)) (wp_pass (S1 := S) (b_orF (b_not (b_valB (b := true) (S1 := S) (by simp [rho0]))) (b_cmp (x := nI (List.replicate n d).length) (y := nI n) (S1 := S) (by simp [rho0]) (by simp [rho0, wbD]) ne)) (wp_raiseT (S1 := S) ?_ ⟨_, rfl⟩)))
  have c := lc_map (ρ := rho0 5 [.d (wbD n ws), .d (.tuple (List.replicate n d))]) (S := S) (S1 := S) (it := VL.iSeq (eVar 1)) (tf := gNm 4) (vs := [4]) (elt := (eAnd (eIsi1 (eVar 4) ["int"]) (eNot (eIsi1 (eVar 4) ["bool"])))) (List.replicate n d) SV.d (fun _ => .d (.bool false)) (iSeq_tup (ds := List.replicate n d) (S1 := S) rfl) (by rw [sizeLine_eq, List.length_replicate]; omega) fun y hy => ⟨[some (.d (wbD n ws)), some (.d (.tuple (List.replicate n d))), none, none, some (.d y)], rfl, by
    rw [List.eq_of_mem_replicate hy]
    cases d with
    | bool _ => simp [eAnd]
    | str _ => simp [eAnd]
    | _ => exact hd.elim⟩
  have ga := gAll_b S ((List.replicate n d).map fun _ => false)
  rw [List.map_map] at ga
  have ga' : gAll S [.own ((List.replicate n d).map fun _ => SV.d (.bool false))] = some (.d (.bool false)) := by
    refine ga.trans ?_
    obtain ⟨m, rfl⟩ : ∃ m, n = m + 1 := ⟨n - 1, by omega⟩
    simp [List.replicate_succ]
  exact b_not (b_valB (e_cal (e_one c) ga'))
theorem jw_web {d : SV} (hd : noOwn d = true) : G.F_joined_web [.d .none, d] S = some (.exc "BadWeb" [] S) := by
  have e := check_web_eq (k := 0) (d := .none) (nd_none 0) (by omega) S
  unfold G.F_joined_web G.f_joined_web
  exact run_wpE (wp_dropE (e_call (e_one rfl) rfl rfl e) ⟨_, rfl⟩)
end
theorem wp_ghA {i : Nat} {s : Stm} {ρ : Rho} {S : Sto} {Q : VL.Fl → Prop} {zs ys : List SV} (h : ρ[i]? = some (some (.own zs))) (hf : frzs zs = some ys) (q : Wp (s (ρ.set i (some (.ref S.length))) (S ++ [ys])) Q) : Wp (ghA i s ρ S) Q := by
  obtain ⟨r, e, z⟩ := q
  exact ⟨r, by unfold ghA; simp only [h, hf, Option.bind_some]; exact e, z⟩
/-! the law's own pieces -/
theorem due_eq {n : Nat} {ws : List Wi} {ρ : Rho} {S : Sto} (hn : n ≤ 24) {w v a b : Nat} (hw : ρ[w]? = some (some (.d (wbD n ws)))) (hv : ρ[v]? = some (some (nS (nms n ws)))) (ha : a < ρ.length) (hb : b < ρ.length) (dw : w ≠ a ∧ w ≠ b) (dv : v ≠ a ∧ v ≠ b) (dab : a ≠ b) :
    (eLc (VL.iRng1 (aCons (eBin gIxB (eVar w) (eCon (.int 1))) aNil)) (gNm a) (bB (eBin (cB gIn) (eVar a) (eVar v))) (eCal gTuple (aCons (eLc (VL.iRng1 (aCons (eBin gIxB (eVar w) (eCon (.int 1))) aNil)) (gNm b) (bB (eBin (cB gEq) (eBin gIxB (eVar v) (eVar b)) (eVar a))) (eVarV b) [b]) aNil)) [a]) ρ S = some (.ok (.own ((pcs n (nms n ws)).map fun l => SV.d (tupN l))) S) := by
  have hln := nms_len n ws
  generalize nms n ws = ns at *
  have gb : ∀ S : Sto, gIxB S (.d (wbD n ws)) (.d (.int 1)) = some (nI n) := fun S => rfl
  have r := lc_filter (ρ := ρ) (S := S) (S1 := S) (it := VL.iRng1 (aCons (eBin gIxB (eVar w) (eCon (.int 1))) aNil)) (tf := gNm a) (vs := [a]) (tst := (bB (eBin (cB gIn) (eVar a) (eVar v)))) (elt := (eCal gTuple (aCons (eLc (VL.iRng1 (aCons (eBin gIxB (eVar w) (eCon (.int 1))) aNil)) (gNm b) (bB (eBin (cB gEq) (eBin gIxB (eVar v) (eVar b)) (eVar a))) (eVarV b) [b]) aNil))) (List.range n) nI (fun k => SV.d (tupN (grp ns k))) (fun k => ns.contains k) (iRng_n (e_bin (e_var hw) rfl (gb S)) (by omega)) (by rw [sizeLine_eq, List.length_range]; omega) (fun k hk => by
    refine ⟨(wipeR ρ [a]).set a (some (nI k)), rfl, ?_, fun _ => ?_⟩
    · refine b_cmp (x := nI k) (y := nS ns) (e_var ?_) (e_var ?_) (gIn_nS S ns k)
      · simp [wipeR, ha]
      · simp [wipeR, Ne.symm dv.1, hv]
    · have q := lc_filter (ρ := (wipeR ρ [a]).set a (some (nI k))) (S := S) (S1 := S) (it := VL.iRng1 (aCons (eBin gIxB (eVar w) (eCon (.int 1))) aNil)) (tf := gNm b) (vs := [b]) (tst := (bB (eBin (cB gEq) (eBin gIxB (eVar v) (eVar b)) (eVar a)))) (elt := eVarV b) (List.range n) nI nI (fun j => gN ns j == k) (iRng_n (e_bin (e_var (by simp [wipeR, Ne.symm dw.1, hw])) rfl (gb S)) (by omega)) (by rw [sizeLine_eq, List.length_range]; omega) (fun j hj => by
        have hj := List.mem_range.mp hj
        refine ⟨(wipeR ((wipeR ρ [a]).set a (some (nI k))) [b]).set b (some (nI j)), rfl, ?_, fun _ => e_varV (by simp [wipeR, hb]) rfl⟩
        have at1 : gIxB S (nS ns) (nI j) = some (nI (gN ns j)) := atI_mapN nI ns (by omega)
        refine b_cmp (x := nI (gN ns j)) (y := nI k) (e_bin (e_var ?_) (e_var (by simp [wipeR, hb])) at1) (e_var ?_) ?_
        · simp [wipeR, Ne.symm dv.1, Ne.symm dv.2, hv]
        · simp [wipeR, dab, Ne.symm dab, ha]
        · rw [gEq_nn]
          rfl)
      have gt := gTuple_o S (fun j : Nat => PyData.int (j : Int)) ((List.range n).filter fun j => gN ns j == k)
      have : grp ns k = (List.range n).filter fun j => gN ns j == k := by unfold grp; rw [hln]
      rw [this]
      exact e_cal (e_one q) gt)
  rw [r]
  simp [pcs]
end M

end
section
set_option Elab.async false
set_option linter.all false
set_option maxRecDepth 100000
namespace M
open PySem PySem.Spec PyProof.Rows L2 VL
theorem sdB_rD (k : Nat) (x : Rat) : sdB (k + 1) (rD x) = true := by simp [sdB, rD]
theorem sdB_wiD (k : Nat) (w : Wi) : sdB (k + 2) (wiD w) = true := by simp [sdB, wiD, sdB_rD]
theorem sdB_wbD {n : Nat} {ws : List Wi} (h : ws.length ≤ 1000) : sdB 4 (wbD n ws) = true := by
  have : PyData.strOk "web" = true := ok_web
  simp [sdB, wbD, this, h, sdB_wiD]
theorem sdB_pcs {l : List (List Nat)} (h : l.length ≤ 1000) (h2 : ∀ x ∈ l, x.length ≤ 1000) : sdB 2 (.tuple (l.map tupN)) = true := by
  simp only [sdB, List.length_map, Bool.and_eq_true, decide_eq_true_eq, List.all_eq_true]
  refine ⟨h, fun d m => ?_⟩
  obtain ⟨x, hx, rfl⟩ := List.mem_map.mp m
  simp only [tupN, sdB, List.length_map, Bool.and_eq_true, decide_eq_true_eq, List.all_eq_true]
  refine ⟨h2 x hx, fun e me => ?_⟩
  obtain ⟨y, _, rfl⟩ := List.mem_map.mp me
  rfl
theorem sdB_up {k : Nat} {d : PyData} (h : sdB k d = true) : sdB k d = true := h
theorem wbD_ne_ends (S : Sto) (n : Nat) (ws : List Wi) : gNe S (.d (wbD n ws)) (.d (wbD n ws)) = some false := by
  have s := sh_wbD n ws
  have e : PyData.eqv (wbD n ws) (wbD n ws) = true := by
    have hi : ∀ w : Wi, PyData.eqv (wiD w) (wiD w) = true := fun w => by simp [wiD, rD, PyData.eqv, PyData.eqvAll]
    have hl : ∀ ws : List Wi, PyData.eqvAll (ws.map wiD) (ws.map wiD) = true := by
      intro ws
      induction ws with
      | nil => simp [PyData.eqvAll]
      | cons w ws ih => simp [PyData.eqvAll, hi, ih]
    simp [wbD, PyData.eqv, PyData.eqvAll, hl]
  simp [gNe, s, e]
theorem ne_str_same (S : Sto) (s : Str) (h : PyData.strOk s = true) : gNe S (.d (.str s)) (.d (.str s)) = some false := by
  have sh : SeqAt.shaped (.str s) = true := nd_shaped (k := 0) (nd_str h) (by omega)
  simp [gNe, sh, eqv_str]
theorem ok_ends : PyData.strOk "ends" = true := by decide +kernel
theorem ok_far : PyData.strOk "far" = true := by decide +kernel
theorem WbOk.mono_wi {n : Nat} {ws : List Wi} (h : WbOk n ws) : ∀ w ∈ ws, w.1 < n ∧ w.2.1 < n := wb_lt h
section
variable {n m : Nat} {ws : List Wi} {S : Sto}
/-- a drawn row of integers -/
theorem part_eq {t : Nat} (B : Bs S m t) (ht : t ≤ 900000) (hn : n ≤ 24) {ρ : Rho} (h2 : ρ[2]? = some (some (.ref m))) (h3 : ρ[3]? = some (some (.d (wbD n ws)))) (hl : ρ.length = 14) :
    ∃ (ps : List Int) (S2 : Sto), ps.length = n ∧ Bs S2 m (t + n) ∧ (eCal gTuple (aCons (eLc (VL.iRng1 (aCons (eBin gIxB (eVar 3) (eCon (.int 1))) aNil)) (gNm 13) bYes (eBin gSub (eCall 2 G.F__law_draw [] (aCons (eVarV 2) (aCons (eCon (.int 5)) aNil))) (eCon (.int 2))) [13]) aNil)) ρ S = some (.ok (.d (iT ps)) S2) := by
  obtain ⟨ys, S2, e, k⟩ := lc_draw (ρ := ρ) (S := S) (S1 := S) (it := VL.iRng1 (aCons (eBin gIxB (eVar 3) (eCon (.int 1))) aNil)) (tf := gNm 13) (vs := [13]) (elt := (eBin gSub (eCall 2 G.F__law_draw [] (aCons (eVarV 2) (aCons (eCon (.int 5)) aNil))) (eCon (.int 2)))) (xs := (List.range n).map nI) (fun j acc S => ∃ ps : List Int, ps.length = j ∧ acc = ps.map iS ∧ Bs S m (t + j) ∧ j ≤ n) (iRng_n (e_bin (z := nI n) (e_var h3) rfl rfl) (by omega)) (by rw [sizeLine_eq, List.length_map, List.length_range]; omega) ⟨[], rfl, rfl, B, Nat.zero_le _⟩ (by
    rintro j x hx acc S ⟨ps, hps, rfl, B, hjn⟩
    rw [List.getElem?_map, Option.map_eq_some_iff] at hx
    obtain ⟨k, hk, rfl⟩ := hx
    obtain ⟨hj, rfl⟩ := List.getElem?_eq_some_iff.mp hk
    rw [List.length_range] at hj
    obtain ⟨r, S2, r1, B2, e2⟩ := draw_bs B (by omega) (show (0 : Int) < 5 by omega)
    refine ⟨_, iS (r - 2), S2, rfl, e_bin (e_call (e_cons (e_varV (x := .ref m) (by simp [wipeR, h2]) rfl) (e_one rfl)) rfl rfl e2) rfl rfl, ps ++ [(r : Int) - 2], by simp [hps], by simp, B2.mono (by omega), by omega⟩)
  rw [List.length_map, List.length_range] at k
  obtain ⟨ps, hps, rfl, B2, _⟩ := k
  exact ⟨ps, S2, hps, B2, e_cal (e_one e) (gTuple_o S2 PyData.int ps)⟩
end
end M

end
section
set_option Elab.async false
set_option linter.all false
set_option maxRecDepth 100000
namespace M
open PySem PySem.Spec PyProof.Rows L2 VL
theorem cut_m1 {n : Nat} {ps : List Int} (h : ps.length = n) (n1 : 1 ≤ n) : (cutL (ps.map PyData.int) none (some (-1))).length ≠ n := by
  unfold cutL
  rw [List.length_take, List.length_drop, List.length_map]
  have : HT.sIx ps.length ps.length (some (-1)) = ps.length - 1 := by
    show (if (-1 : Int) < 0 then ((-1 : Int) + (ps.length : Int)).toNat else min (-1 : Int).toNat ps.length) = _
    rw [if_pos (by omega)]
    omega
  rw [this]
  omega
theorem truthT (S : Sto) : truth S (.d (.bool true)) = some true := rfl
theorem replicate_tup {S : Sto} {ρ : Rho} {d : PyData} {w n : Nat} {ws : List Wi} (hw : ρ[w]? = some (some (.d (wbD n ws)))) (hn : n ≤ 1000) : (eBin gMulT (eTup (aCons (eCon d) aNil)) (eBin gIxB (eVar w) (eCon (.int 1)))) ρ S = some (.ok (.d (.tuple (List.replicate n d))) S) :=
  e_bin (e_tup (e_one rfl) rfl (by simp)) (e_bin (z := nI n) (e_var hw) rfl rfl) (gMulT_t S d n hn)
section
variable {n m t : Nat} {ws : List Wi} {S : Sto}
theorem odd_wires (h : WbOk n ws) : isWr (n : Int) (.tuple [.int 0, .int (n : Int), .tuple [.int 1, .int 1]]) = false ∧ isWr (n : Int) (.tuple [.int 0, .int 0, .tuple [.int 1, .int 1]]) = false ∧ isWr (n : Int) (.tuple [.int 0, .int 1, .tuple [.int 0, .int 1]]) = false ∧ isWr (n : Int) (.tuple [.int 1, .int 0, .tuple [.int 1, .int 1]]) = false ∧ isWr (n : Int) .none = false := by
  refine ⟨?_, ?_, ?_, ?_, rfl⟩ <;> simp [isWr, top0]
def fullW : List Wi := List.replicate 60 (0, 1, 1)
theorem srt_rep : ∀ (k : Nat) (d : PyData), srt (List.replicate k d) = true := fun k d => srt_pw (by
  rw [List.pairwise_replicate]
  exact .inr (leW_total.refl d))
theorem full_ok : WbOk 2 fullW := ⟨by omega, by omega, by simp [fullW], fun w m => by
  obtain rfl := List.eq_of_mem_replicate m
  exact ⟨by decide, by decide, by decide, by unfold FrOk; decide⟩, by
  rw [fullW, List.map_replicate]
  exact srt_rep _ _⟩
theorem one_ok : WiOk 2 (0, 1, 1) := ⟨by decide, by decide, by decide, by unfold FrOk; decide⟩
theorem wi_one : wiD (0, 1, 1) = .tuple [.int 0, .int 1, .tuple [.int 1, .int 1]] := rfl
end
theorem law_true (ns : List Int) (hl : ns.length ≤ 63) (hb : ∀ z ∈ ns, Bd 2000000 z) : ∃ S, G.F_law [.scr ns] [] = some (.ok (.d (.bool true)) S) := by
  have hz := sizeLine_eq
  suffices h : Wp (G.f_law (rho0 14 [.scr ns]) []) fun r => ∃ x S', r = .rt x S' ∧ x = .d (.bool true) by
    obtain ⟨x, S', e, rfl⟩ := run_wp2 (P := fun x S' => x = .d (.bool true)) h
    exact ⟨S', e⟩
  unfold G.f_law
  have hN : ∃ N : Nat, N ≤ 8 ∧ (VL.iRng1 (aCons (eCal gMax2 (aCons (eCon (.int 1)) (aCons (eCal gMin2 (aCons (eCon (.int 8)) (aCons (eCal gLen (aCons (eVar 0) aNil)) aNil))) aNil))) aNil)) (rho0 14 [.scr ns]) [] = some (.ok ((List.range N).map nI) []) := by
    have g1 := gMin_n [] 8 ns.length
    have g2 := gMax_n [] 1 (min 8 ns.length)
    refine ⟨max 1 (min 8 ns.length), by omega, iRng_n (e_cal (e_cons rfl (e_one (e_cal (e_cons rfl (e_one (e_cal (z := nI ns.length) (e_one rfl) (by simp)))) g1))) g2) (by omega)⟩
  obtain ⟨N, hN, e0⟩ := hN
  refine wp_for (fun _ ρ _ => ∃ s1 s2 s3 s4 s5 s6 s7 s8 s9 s10 s11 s12 s13, ρ = [some (.scr ns), s1, s2, s3, s4, s5, s6, s7, s8, s9, s10, s11, s12, s13]) e0 ⟨_, _, _, _, _, _, _, _, _, _, _, _, _, rfl⟩ ?_ fun ρ2 S2 _ => wp_ret rfl ⟨_, _, rfl, rfl⟩
  rintro k x hx ρ S ⟨s1, s2, s3, s4, s5, s6, s7, s8, s9, s10, s11, s12, s13, rfl⟩
  rw [List.getElem?_map, Option.map_eq_some_iff] at hx
  obtain ⟨k', hk, rfl⟩ := hx
  obtain ⟨hj, rfl⟩ := List.getElem?_eq_some_iff.mp hk
  rw [List.length_range] at hj
  rw [List.getElem_range]
  refine ⟨[some (.scr ns), some (nI k), s2, s3, s4, s5, s6, s7, s8, s9, s10, s11, s12, s13], rfl, ?_⟩
  obtain ⟨b, d, hb1, hd1, e1⟩ := bag_eq ns k (by omega) hb S
  refine wp_set (x := .own (bagL 0 b 0 d)) (S1 := S) (e_call (e_cons rfl (e_one rfl)) rfl rfl e1) ?_
  refine wp_ghA (zs := bagL 0 b 0 d) rfl rfl ?_
  have B0 : Bs (S ++ [bagL 0 b 0 d]) S.length 0 := ⟨0, b, 0, d, by simp, hb1, by omega, by omega, hd1⟩
  generalize hm : S.length = m at *
  generalize S ++ [bagL 0 b 0 d] = S1 at B0
  -- the web
  obtain ⟨r, S2, r1, B2, e2⟩ := draw_bs B0 (by omega) (show (0 : Int) < 2 by omega)
  obtain ⟨n, us, S3, n1, n2, ul, uw, _, B3, e3⟩ := web_eq (mj := 12) (mw := 12) (whole := (r : Int) == 0) B2 (by omega) (by omega) (by omega) (by omega) (by omega)
  have W : WbOk n (sortW us) := wb_sorted n1 (by omega) (by omega) fun w hw => (uw w hw).ok
  have wl : (sortW us).length ≤ 22 := by rw [(sortW_perm us).length_eq]; omega
  generalize sortW us = ws at W e3 wl
  refine wp_set (x := .d (wbD n ws)) (S1 := S3) (e_call (e_cons rfl (e_cons rfl (e_cons rfl (e_one (e_cmp (e_call (e_cons rfl (e_one rfl)) rfl rfl e2) rfl (gEq_i _ _ _)))))) rfl rfl e3) ?_
  -- names, pieces
  refine wp_set (x := nS (nms n ws)) (S1 := S3) (e_call (e_one rfl) rfl rfl (law_names_eq (wb_lt W) (by omega) S3)) ?_
  refine wp_set (x := .own ((pcs n (nms n ws)).map fun l => SV.d (tupN l))) (S1 := S3) (due_eq (by omega) rfl rfl (by simp) (by simp) (by decide) (by decide) (by decide)) ?_
  have sp : sdB 2 (.tuple ((pcs n (nms n ws)).map tupN)) = true := by
    refine sdB_pcs ?_ fun x hx => ?_
    · unfold pcs
      rw [List.length_map]
      have := List.length_filter_le (fun k => (nms n ws).contains k) (List.range n)
      rw [List.length_range] at this
      omega
    · unfold pcs at hx
      obtain ⟨k, _, rfl⟩ := List.mem_map.mp hx
      unfold grp
      have := List.length_filter_le (fun j => gN (nms n ws) j == k) (List.range (nms n ws).length)
      rw [List.length_range, nms_len] at this
      rw [nms_len]
      omega
  refine wp_pass (S1 := S3) (b_not (b_valB (e_call (e_cons (e_cal (e_one rfl) (gTuple_o S3 tupN _)) (e_one (e_call (e_one rfl) rfl rfl (pieces_eq W S3)))) rfl rfl (same_eq sp (by omega) S3)))) ?_
  -- joints put together
  obtain ⟨ps, S4, hps, B4, e4⟩ := part_eq (n := n) (ws := ws) B3 (by omega) (by omega) (ρ := [some (.scr ns), some (nI k), some (.ref m), some (.d (wbD n ws)), some (nS (nms n ws)), some (.own ((pcs n (nms n ws)).map fun l => SV.d (tupN l))), s6, s7, s8, s9, s10, s11, s12, s13]) rfl rfl rfl
  refine wp_set (x := .d (iT ps)) (S1 := S4) e4 ?_
  have jl : (sortW (jnW (fun a => idO (ordF [] ps) (ps.getD a 0)) ws)).length ≤ 1000 := by
    rw [(sortW_perm _).length_eq]
    have := jfold_len (fun a => idO (ordF [] ps) (ps.getD a 0)) ws []
    rw [List.length_nil] at this
    unfold jnW
    omega
  refine wp_pass (S1 := S4) (b_not (b_valB (e_call (e_cons (e_call (e_cons rfl (e_one rfl)) rfl rfl (law_joined_eq hps (wb_lt W) (by omega) (by omega) S4)) (e_one (e_call (e_cons rfl (e_cons rfl (e_one rfl))) rfl rfl (told_ok look_j rfl rfl (joined_web_eq W hps S4))))) rfl rfl (same_eq (k := 4) (sdB_wbD jl) (by omega) S4)))) ?_
  have endsOk := ne_str_same
  refine wp_all SV.d [.tuple (ps.map PyData.int ++ [.int 0]), .tuple (cutL (ps.map PyData.int) none (some (-1))), .list (ps.map PyData.int), .none, .tuple (List.replicate n (.bool true)), .tuple (List.replicate n (.str "x"))] (S1 := S4) (fun ρ S => S = S4 ∧ ∃ s7 s8 s9 s10 s11 s12 s13, ρ = [some (.scr ns), some (nI k), some (.ref m), some (.d (wbD n ws)), some (nS (nms n ws)), some (.own ((pcs n (nms n ws)).map fun l => SV.d (tupN l))), some (.d (iT ps)), s7, s8, s9, s10, s11, s12, s13]) ?_ ⟨rfl, _, _, _, _, _, _, _, rfl⟩ ?_ ?_
  · have fz := frz_own (ps.map PyData.int)
    have gl : gList S4 [.d (iT ps)] = some (.own ((ps.map PyData.int).map SV.d)) := by
      simp [gList]
    have q := e_lst (S := S4) (S1 := S4) (e_cons (e_bin (e_var (ρ := [some (.scr ns), some (nI k), some (.ref m), some (.d (wbD n ws)), some (nS (nms n ws)), some (.own ((pcs n (nms n ws)).map fun l => SV.d (tupN l))), some (.d (iT ps)), s7, s8, s9, s10, s11, s12, s13]) (i := 6) rfl) (e_tup (e_one (f := eCon (.int 0)) rfl) rfl (by simp)) (gAdd_tt S4 (by simp; omega))) (e_cons (e_sl (f := eVar 6) (lo := pNone) (hi := pSome (eUn gNeg (eCon (.int 1)))) rfl rfl (o_some' (e_un rfl rfl)) rfl) (e_cons (e_frz (e_cal (e_one (f := eVar 6) rfl) gl) fz) (e_cons (f := eCon .none) rfl (e_cons (replicate_tup (w := 3) (d := .bool true) (n := n) (ws := ws) rfl (by omega)) (e_one (replicate_tup (w := 3) (d := .str "x") (n := n) (ws := ws) rfl (by omega)))))))) (by simp)
    have q2 := a_iSeq (eLst (aCons (eBin gAdd (eVar 6) (eTup (aCons (eCon (.int 0)) aNil))) (aCons (eSl (eVar 6) pNone (pSome (eUn gNeg (eCon (.int 1))))) (aCons (eFrz (eCal gList (aCons (eVar 6) aNil))) (aCons (eCon (.none)) (aCons (eBin gMulT (eTup (aCons (eCon (.bool true)) aNil)) (eBin gIxB (eVar 3) (eCon (.int 1)))) (aCons (eBin gMulT (eTup (aCons (eCon (.str "x")) aNil)) (eBin gIxB (eVar 3) (eCon (.int 1)))) aNil)))))))  [some (.scr ns), some (nI k), some (.ref m), some (.d (wbD n ws)), some (nS (nms n ws)), some (.own ((pcs n (nms n ws)).map fun l => SV.d (tupN l))), some (.d (iT ps)), s7, s8, s9, s10, s11, s12, s13] S4
    rw [q] at q2
    exact q2
  · rintro a ha ρ S ⟨rfl, s7, s8, s9, s10, s11, s12, s13, rfl⟩
    refine ⟨_, rfl, ?_⟩
    have hn : G.F_joined_web [.d (wbD n ws), .d a] S = some (.exc "BadEnds" [] S) := by
      simp only [List.mem_cons, List.not_mem_nil, or_false] at ha
      rcases ha with rfl | rfl | rfl | rfl | rfl | rfl
      · exact jw_noL W (by simp; omega)
      · exact jw_noL W (cut_m1 hps n1)
      · exact jw_noA W trivial
      · exact jw_noA W trivial
      · exact jw_noB W trivial
      · exact jw_noB W trivial
    refine wp_ifF (S1 := S) (b_cmp (e_call (e_cons rfl (e_cons rfl (e_one rfl))) rfl rfl (told_ends look_j rfl rfl hn)) rfl (ne_str_same S _ ok_ends)) (wp_nil ⟨_, _, .inl rfl, rfl, _, _, _, _, _, _, _, rfl⟩)
  rintro ρ2 S5 ⟨rfl, s7, s8, s9, s10, s11, s12, s13, rfl⟩
  -- without
  obtain ⟨i, S6, i1, B6, e6⟩ := draw_n B4 (by omega) (show 0 < ws.length + 1 by omega)
  have lw : (eBin gAdd (eCal gLen (aCons (eBin gIxB (eVar 3) (eCon (.int 2))) aNil)) (eCon (.int 1))) [some (.scr ns), some (nI k), some (.ref m), some (.d (wbD n ws)), some (nS (nms n ws)), some (.own ((pcs n (nms n ws)).map fun l => SV.d (tupN l))), some (.d (iT ps)), s7, s8, s9, s10, s11, s12, s13] S5 = some (.ok (nI (ws.length + 1)) S5) := e_bin (x := nI ws.length) (e_cal (e_one (e_bin (z := .d (.tuple (ws.map wiD))) rfl rfl rfl)) (by simp)) rfl rfl
  refine wp_set (x := nI i) (S1 := S6) (e_call (e_cons rfl (e_one lw)) rfl rfl e6) ?_
  refine wp_pass (S1 := S6) ?_ ?_
  · by_cases hi : i < ws.length
    · exact b_cmp (e_call (e_cons rfl (e_cons rfl (e_one rfl))) rfl rfl (told_ok look_o rfl rfl (without_ok W hi S6))) (e_ifT (S1 := S6) (b_cmp (x := nI i) (y := nI ws.length) rfl (e_cal (e_one (e_bin (z := .d (.tuple (ws.map wiD))) rfl rfl rfl)) (by simp)) (by simp [hi])) (cut_ws (w := 3) (v := 8) (by omega) S6 rfl rfl)) (wbD_ne_ends S6 _ _)
    · exact b_cmp (e_call (e_cons rfl (e_cons rfl (e_one rfl))) rfl rfl (told_ends look_o rfl rfl (without_no (d := .int (i : Int)) W (by show ¬ ((0 : Int) ≤ (i : Int) ∧ (i : Int) < (ws.length : Int)); omega) S6))) (e_ifF (S1 := S6) (b_cmp (x := nI i) (y := nI ws.length) rfl (e_cal (e_one (e_bin (z := .d (.tuple (ws.map wiD))) rfl rfl rfl)) (by simp)) (by simp [hi])) rfl) (ne_str_same S6 _ ok_ends)
  -- with another wire
  refine wp_seq ?_
  refine Wp.mono (Q := fun r => ∃ S7 s9 s10 s11, r = .nx [some (.scr ns), some (nI k), some (.ref m), some (.d (wbD n ws)), some (nS (nms n ws)), some (.own ((pcs n (nms n ws)).map fun l => SV.d (tupN l))), some (.d (iT ps)), s7, some (nI i), s9, s10, s11, s12, s13] S7) ?_ ?_
  · have c1 : (bB (eBin (cB gGt) (eBin gIxB (eVar 3) (eCon (.int 1))) (eCon (.int 1)))) [some (.scr ns), some (nI k), some (.ref m), some (.d (wbD n ws)), some (nS (nms n ws)), some (.own ((pcs n (nms n ws)).map fun l => SV.d (tupN l))), some (.d (iT ps)), s7, some (nI i), s9, s10, s11, s12, s13] S6 = some (.ok (decide ((1 : Int) < n)) S6) := b_cmp (x := nI n) (y := nI 1) rfl rfl rfl
    by_cases hn : (1 : Int) < n
    · rw [decide_eq_true hn] at c1
      refine wp_ifT c1 ?_
      obtain ⟨a, S7, a1, B7, e7⟩ := draw_bs B6 (by omega) (show (0 : Int) < (n : Int) - 1 by omega)
      obtain ⟨c, S8, c1, B8, e8⟩ := draw_bs B7 (by omega) (show (0 : Int) < (n : Int) - 1 - a by omega)
      obtain ⟨x, S9, x0, x1, x2, B9, e9⟩ := lead_eq B8 (by omega)
      have WW : WiOk n (a, a + 1 + c, x) := ⟨by show a < a + 1 + c; omega, by show a + 1 + c < n; omega, x0, by show x.num.natAbs < _; omega, by show x.den < _; omega⟩
      refine wp_set (x := nI a) (S1 := S7) (e_call (e_cons rfl (e_one (e_bin (x := nI n) (e_bin rfl rfl rfl) rfl rfl))) rfl rfl e7) ?_
      refine wp_set (x := .d (wiD (a, a + 1 + c, x))) (S1 := S9) (e_tup (e_cons rfl (e_cons (e_bin (x := iS ((a : Int) + 1)) (y := nI c) (z := nI (a + 1 + c)) (e_bin rfl rfl rfl) (e_call (e_cons rfl (e_one (e_bin (x := iS ((n : Int) - 1)) (e_bin (x := nI n) (e_bin rfl rfl rfl) rfl rfl) rfl rfl))) rfl rfl e8) rfl) (e_one (e_call (e_one rfl) rfl rfl e9)))) rfl (by simp)) ?_
      refine wp_pass (S1 := S9) (b_not (b_valB (e_call (e_cons (e_tup (e_cons rfl (e_cons (e_bin (z := nI n) rfl rfl rfl) (e_one (sortedT (ws := ws) (w := (a, a + 1 + c, x)) (by omega) S9 (e_bin rfl rfl rfl) rfl)))) rfl (by simp)) (e_one (e_call (e_cons rfl (e_cons rfl (e_one rfl))) rfl rfl (told_ok look_w rfl rfl (with_ok W WW (by omega) S9))))) rfl rfl (same_eq (k := 4) (sdB_wbD (n := n) (ws := sortW (ws ++ [(a, a + 1 + c, x)])) (by rw [(sortW_perm _).length_eq]; simp; omega)) (by omega) S9)))) ?_
      have rep := gMulT_t S9 (wiD (0, 1, 1)) 60 (by omega)
      refine wp_set (x := .d (wbD 2 fullW)) (S1 := S9) (e_tup (e_cons rfl (e_cons rfl (e_one (e_bin (x := .d (.tuple [wiD (0, 1, 1)])) (y := nI 60) (e_tup (e_one rfl) rfl (by simp)) rfl rep)))) (by simp [fullW]) (by simp)) ?_
      refine wp_ifF (S1 := S9) (b_cmp (e_call (e_cons rfl (e_cons rfl (e_one (x := .d (wiD (0, 1, 1))) rfl))) rfl rfl (told_far look_w rfl rfl (with_far full_ok one_ok (by simp [fullW]) S9))) rfl (ne_str_same S9 _ ok_far)) (wp_nil ⟨S9, _, _, _, rfl⟩)
    · rw [decide_eq_false hn] at c1
      exact wp_ifF c1 (wp_nil ⟨S6, _, _, _, rfl⟩)
  rintro r ⟨S7, s9, s10, s11, rfl⟩
  refine .inl ⟨_, _, rfl, ?_⟩
  obtain ⟨o1, o2, o3, o4, o5⟩ := odd_wires W
  refine wp_all SV.d [.tuple [.int 0, .int (n : Int), .tuple [.int 1, .int 1]], .tuple [.int 0, .int 0, .tuple [.int 1, .int 1]], .tuple [.int 0, .int 1, .tuple [.int 0, .int 1]], .tuple [.int 1, .int 0, .tuple [.int 1, .int 1]], .none] (S1 := S7) (fun ρ S => S = S7 ∧ ∃ s7 s8 s9 s10 s11 s12 s13, ρ = [some (.scr ns), some (nI k), some (.ref m), some (.d (wbD n ws)), some (nS (nms n ws)), some (.own ((pcs n (nms n ws)).map fun l => SV.d (tupN l))), some (.d (iT ps)), s7, s8, s9, s10, s11, s12, s13]) ?_ ⟨rfl, _, _, _, _, _, _, _, rfl⟩ ?_ ?_
  · simp [wbD, hz]
  · rintro a ha ρ S ⟨rfl, s7, s8, s9, s10, s11, s12, s13, rfl⟩
    refine ⟨_, rfl, ?_⟩
    have hn : nd 10 a = true ∧ isWr (n : Int) a = false := by
      simp only [List.mem_cons, List.not_mem_nil, or_false] at ha
      rcases ha with rfl | rfl | rfl | rfl | rfl
      · exact ⟨by simp [nd, atomB], o1⟩
      · exact ⟨by simp [nd, atomB], o2⟩
      · exact ⟨by simp [nd, atomB], o3⟩
      · exact ⟨by simp [nd, atomB], o4⟩
      · exact ⟨by simp, o5⟩
    refine wp_ifF (S1 := S) (b_cmp (e_call (e_cons rfl (e_cons rfl (e_one rfl))) rfl rfl (told_ends look_w rfl rfl (with_no W hn.1 hn.2 S))) rfl (ne_str_same S _ ok_ends)) (wp_nil ⟨_, _, .inl rfl, rfl, _, _, _, _, _, _, _, rfl⟩)
  rintro ρ3 S8 ⟨rfl, s7, s8, s9, s10, s11, s12, s13, rfl⟩
  refine wp_ifF (S1 := S8) ?_ (wp_nil ⟨_, _, .inl rfl, _, _, _, _, _, _, _, _, _, _, _, _, _, rfl⟩)
  refine b_orF (b_cmp (e_call (e_cons rfl (e_cons rfl (e_one (x := iS (-1)) (e_un rfl rfl)))) rfl rfl (told_ends look_o rfl rfl (without_no (d := .int (-1)) W (by show ¬ ((0 : Int) ≤ -1 ∧ _); omega) S8))) rfl (ne_str_same S8 _ ok_ends)) ?_
  refine b_orF (b_cmp (e_call (e_cons rfl (e_cons rfl (e_one (x := .d (.tuple [])) (e_tup e_nil rfl (by simp))))) rfl rfl (told_web look_j rfl rfl (jw_web rfl))) rfl (ne_str_same S8 _ ok_web)) ?_
  exact b_cmp (e_call (e_cons rfl (e_cons rfl (e_one rfl))) rfl rfl (told_ends look_o rfl rfl (without_no (d := .bool true) W trivial S8))) rfl (ne_str_same S8 _ ok_ends)
end M

end
section
set_option Elab.async false
set_option linter.all false
open PySem
theorem M.bits {z : Int} (h : PySem.Builtin.Int.intBits z ≤ 1048576) : M.Bd 2000000 z := by
  apply M.Bd.of_log
  unfold PySem.Builtin.Int.intBits at h
  split at h <;> first | omega | simp_all
theorem PySem.Challenge.cw_currentwebs_k04_pieces_and_changed_webs_holds : PySem.Challenge.rw_currentwebs_k04_pieces_and_changed_webs.Holds :=
  G.holds fun ns hl hb => M.law_true ns hl fun z m => M.bits (hb z m)

end
