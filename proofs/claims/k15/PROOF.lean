import PyProof.Rows.All
import Wide.All
import OpenK.AllK
import Wide.FinOn
import KE.OsRunLaw
import HandS.ForMost
import HandS.ForExc
import HandS.Wide
import HandS.WideBits
import HandS.IsInst
import HandS.TupAny
import HandS.Walk
import HandS.Zip
import HandS.Deep
import HandS.Lambda
import HandS.ExcOwn
import PyProof.StrBlock2
import PyProof.ReprRoads
import HandS.Style
import HandS.EndBits
import KE.IntBitsLaws
import HandS.Codes
import HandS.Defaults
import HandS.ClsMeth
import HandS.MakeKw
import HandS.MakeKwOnly
import PyProof.WalkInts
import PyProof.EnumMake
import KE.GoesMore
import OpenK.KOps
import KE.KCallOwn
import HandS.RaiseMore
import HandS.Rev
import HandS.FStr
import HandS.OwnEq
import HandS.Flow
import PyProof.InstEq
import KE.KUnpackStar
import HandS.WideMore
import PyProof.EqKinds
import PyProof.NeKinds
import PyProof.FactsAll.dict
import HandS.Dict
import KE.KIntText
import PySem.Challenge.RW_pourround_k15_equal_and_shown
set_option Elab.async false
set_option linter.all false
set_option maxRecDepth 100000
set_option maxHeartbeats 4000000
section
open PySem PySem.W PyProof.Rows
set_option maxHeartbeats 0
def Hd15.pair2 {A : Prop} {B : Type} (_ : A) (b : B) : B := b
local macro_rules | `(tactic| o_headL (kHook $k $a $e)) => `(tactic| (exact False.elim (by assumption); exact ($k, $a)))
noncomputable def Hd15.KA (h : False) : (Params → PySem.W.Frag) × List Addr := by
  refine Hd15.pair2 (A := (PySem.Challenge.rw_pourround_k15_equal_and_shown).row.Holds) ?H ?K
  k_headL
abbrev Hd15.p : Program := PySem.Challenge.pw_pourround_k15_equal_and_shown
def Hd15.q : Program := { Hd15.p with main := { Hd15.p.main with body := [1, 2, 3, 4, 6, 7, 8, 9, 10, 11, 12, 13, 14, 16, 17, 18, 19, 20, 21, 23, 24, 25, 26, 27, 28, 29, 30, 31, 32, 33, 34, 35, 36, 37].filterMap fun i => Hd15.p.main.body[i]? } }
def Hd15.loose : List Str := ["Round", "Row"]
def Hd15.as : List Addr := [2, 3, 15, 22, 23, 24, 25, 28, 35, 37, 38, 40, 41, 42, 43, 44, 47, 54, 55, 56, 59, 66, 68, 69, 71, 72, 73, 74, 75, 76, 79, 81, 82, 84, 85, 86, 89, 90, 91, 93, 94, 96, 97, 98, 100, 101, 103, 104, 105, 107, 108, 110, 111, 112, 114, 115, 117, 118, 119, 122, 123, 131, 133, 134, 136, 137, 138, 140, 141, 143, 144, 145, 148, 149, 150, 152, 153, 155, 156, 157, 159, 160, 162, 163, 164, 166, 167, 169, 170, 171, 174, 175, 176, 178, 179, 181, 182, 183, 184, 185, 186, 187, 190, 197, 199, 200, 202, 203, 204, 205, 207, 208, 210, 211, 212, 214, 215, 217, 218, 219, 221, 222, 224, 225, 226, 228, 229, 231, 232, 233, 235, 236, 238, 239, 240, 242, 243, 245, 246, 247, 248, 249, 252, 259, 260, 262, 263, 265, 266, 267, 269, 270, 272, 273, 274, 276, 277, 279, 280, 281, 283, 284, 286, 287, 288, 290, 291, 293, 294, 295, 297, 298, 300, 301, 302, 304, 305, 307, 308, 309, 310, 311, 314, 316, 317, 319, 320, 321, 323, 324, 326, 327, 328, 330, 331, 333, 334, 335, 338, 339, 340, 342, 343, 345, 346, 347, 349, 350, 352, 353, 354, 356, 357, 359, 360, 361, 364, 365, 366, 369, 370, 371, 373, 374, 376, 377, 378, 381, 382, 383, 385, 386, 388, 389, 390, 392, 393, 395, 396, 397, 399, 400, 402, 403, 404, 407, 408]
theorem Hd15.ek (P : Params) : Hd15.as = (Hd15.KA.heap_1 P).map (·.1) := by kernel_rfl
def Hd15.Xt (s : Shared) : Bool := xlAt Hd15.q [] s && recOk (RowW.records (OpenRow.toRowW (PySem.Challenge.rw_pourround_k15_equal_and_shown).row)) s
noncomputable abbrev Hd15.run (w : World) (os : OsState) := HeadRun.endF (HeadRun.stepQ (HeadRun.denQ HeadRun.tabQ) Hd15.p w) 5982 Hd15.p w os
theorem Hd15.fin {σ γ A0 A1 A2 A3 A4 A5 A6 A7 A8 : Type} {x : Option σ} {f : σ → Bool} {g : σ → A0 × A1 × A2 × A3 × A4 × A5 × A6 × A7 × A8} {h : σ → γ} {c : γ} {a0 : A0} {a1 : A1} {a2 : A2} {a3 : A3} {a4 : A4} {a5 : A5} {a6 : A6} {a7 : A7} {a8 : A8}
    (e1 : x.map (fun s => (f s, h s, (g s).2.1, (g s).2.2.2.2.1, (g s).2.2.2.2.2.2.1, (g s).2.2.2.2.2.2.2.2)) = some (true, c, a1, a4, a6, a8))
    (e2 : x.map (fun s => ((g s).1, (g s).2.2.2.2.2.2.2.1)) = some (a0, a7)) (e3 : x.map (fun s => ((g s).2.2.1, (g s).2.2.2.1)) = some (a2, a3)) (e4 : x.map (fun s => (g s).2.2.2.2.2.1) = some a5) :
    x.map (fun s => (f s, g s, h s)) = some (true, (a0, a1, a2, a3, a4, a5, a6, a7, a8), c) := by
  cases x with
  | none => cases e1
  | some s =>
    simp only [Option.map_some, Option.some.injEq, Prod.mk.injEq] at e1 e2 e3 e4 ⊢
    obtain ⟨q1, q2, q3, q4, q5, q6⟩ := e1
    exact ⟨q1, by rw [← e2.1, ← e2.2, ← e3.1, ← e3.2, ← e4, ← q3, ← q4, ← q5, ← q6], q2⟩
noncomputable abbrev Hd15.sn (s : SharedT) := HeadRun.seenQ Hd15.q Hd15.loose (importedModules Hd15.p.main.body) Hd15.Xt s.abs
theorem Hd15.h1 (w : World) (os : OsState) : (Hd15.run w os).map (fun s => (HeadRun.looksF Hd15.p (boot_heap w.params) s.abs, Hd15.as.map (HeadRun.getT s), (Hd15.sn s).2.1, (Hd15.sn s).2.2.2.2.1, (Hd15.sn s).2.2.2.2.2.2.1, (Hd15.sn s).2.2.2.2.2.2.2.2)) =
    some (true, (Hd15.KA.heap_1 w.params).map (fun x => some x.2), bltViewBooted, pinGoodD (drecsOf Hd15.q), plainGoodD Hd15.q Hd15.loose, clsGoodW Hd15.q Hd15.loose) := by kernel_rfl
theorem Hd15.h2 (w : World) (os : OsState) : (Hd15.run w os).map (fun s => ((Hd15.sn s).1, (Hd15.sn s).2.2.2.2.2.2.2.1)) = some (expectedOf Hd15.q, wideGood Hd15.q) := by kernel_rfl
theorem Hd15.h3 (w : World) (os : OsState) : (Hd15.run w os).map (fun s => ((Hd15.sn s).2.2.1, (Hd15.sn s).2.2.2.1)) = some (true, true) := by kernel_rfl
theorem Hd15.h4 (w : World) (os : OsState) : (Hd15.run w os).map (fun s => (Hd15.sn s).2.2.2.2.2.1) = some (plainGoodE Hd15.q (looseW Hd15.q Hd15.loose)) := by kernel_rfl
theorem Hd15.left : LeftO Hd15.p Hd15.q Hd15.loose Hd15.Xt (Hook.obs (kHook Hd15.KA.heap_1 Hd15.as Hd15.ek)) (Hook.val (kHook Hd15.KA.heap_1 Hd15.as Hd15.ek)) 6682 true :=
  HeadRun.left_oneK (M := 5982) (by kernel_rfl) (by rfl) (fun s => by kernel_rfl) (by rfl) fun w os => Hd15.fin (h := fun s => Hd15.as.map (HeadRun.getT s)) (Hd15.h1 w os) (Hd15.h2 w os) (Hd15.h3 w os) (Hd15.h4 w os)
end
namespace Den
open PySem PySem.Spec PyProof.Rows L2

/-! ### data -/
inductive D where
  | non
  | bl (b : Bool)
  | int (i : Int)
  | str (x : Str)
  | lst (ds : List D)
  | tup (ds : List D)
  | dct (kvs : List (Key × D))
  | ins (c : Nat) (fs : List (Str × D))
  | ro (ds : List D)
  | cell (n : Nat)
  | cls (c : Nat)
  | ty (n : String)
  | err (c : Nat) (fs : List (Str × D))

inductive Cell where
  | lst (ds : List D)
  | ins (c : Nat) (fs : List (Str × D))
  | dct (kvs : List (Key × D))
  | fz (d : D)

abbrev Env := List (Option D)
abbrev Store := List Cell
structure Xc where
  c : Nat
  fs : List (Str × D)
inductive Res (α : Type) where
  | ok (a : α) (st : Store)
  | exc (x : Xc) (st : Store)
  | bad
def Res.bind {α β : Type} (r : Res α) (k : α → Store → Res β) : Res β :=
  match r with
  | .ok a st => k a st
  | .exc x st => .exc x st
  | .bad => .bad
inductive SRes where
  | next (env : Env) (st : Store)
  | ret (d : D) (st : Store)
  | brk (env : Env) (st : Store)
  | cont (env : Env) (st : Store)
  | exc (x : Xc) (env : Env) (st : Store)
  | bad

/-! ### data and values -/
/-- a caught error at a: its class and its dict -/
def errO (a C : Addr) (d : Option Addr) : HO := .ext fun h => ∃ oe, h.get? a = some oe ∧ Zc (.ref C) d oe ∧ ∃ vs, oe.data = .fields vs
mutual
def R (K : PySem.W.Frag) (G : Nat → Addr) (F : Hp) (ph : List Addr) : D → V → Prop
  | .non, v => v = .non
  | .bl b, v => v = .bl b
  | .int i, v => v = .int i
  | .str x, v => v = .str x
  | .lst ds, v => ∃ a vs, v = .ref a ∧ F a = some (.lst vs) ∧ Rs K G F ph ds vs
  | .tup ds, v => ∃ a vs, v = .ref a ∧ F a = some (.tup vs) ∧ Rs K G F ph ds vs
  | .ro ds, v => ∃ a vs, v = .ref a ∧ SqL K F a vs ∧ Rs K G F ph ds vs
  | .dct kvs, v => ∃ a ws, v = .ref a ∧ F a = some (.dK ws) ∧ Rk K G F ph kvs ws
  | .ins c fs, v => ∃ a dx ws, v = .ref a ∧ F a = some (.ins (G c) dx ws) ∧ Rf K G F ph fs ws
  | .cell n, v => ∃ a, v = .ref a ∧ ph[n]? = some a
  | .cls c, v => v = .ref (G c)
  | .ty n, v => v = .ty n
  | .err c fs, v => ∃ a d, v = .ref a ∧ F a = some (errO a (G c) d) ∧ ((fs = [] ∧ d = none) ∨ ∃ dd ws, d = some dd ∧ F dd = some (.xd ws) ∧ Rf K G F ph fs ws)
def Rs (K : PySem.W.Frag) (G : Nat → Addr) (F : Hp) (ph : List Addr) : List D → List V → Prop
  | [], vs => vs = []
  | d :: ds, vs => ∃ v ws, vs = v :: ws ∧ R K G F ph d v ∧ Rs K G F ph ds ws
def Rk (K : PySem.W.Frag) (G : Nat → Addr) (F : Hp) (ph : List Addr) : List (Key × D) → List (Key × V) → Prop
  | [], vs => vs = []
  | (k, d) :: ds, vs => ∃ v ws, vs = (k, v) :: ws ∧ R K G F ph d v ∧ Rk K G F ph ds ws
def Rf (K : PySem.W.Frag) (G : Nat → Addr) (F : Hp) (ph : List Addr) : List (Str × D) → List (Str × V) → Prop
  | [], vs => vs = []
  | (k, d) :: ds, vs => ∃ v ws, vs = (k, v) :: ws ∧ R K G F ph d v ∧ Rf K G F ph ds ws
end

/-- the frozen part grows, the cells' places grow at the end -/
structure Ext (F : Hp) (ph : List Addr) (F' : Hp) (ph' : List Addr) : Prop where
  fz : ∀ a o, F a = some o → F' a = some o
  ph : ∀ (n : Nat) a, ph[n]? = some a → ph'[n]? = some a
theorem Ext.refl (F : Hp) (ph : List Addr) : Ext F ph F ph := ⟨fun _ _ h => h, fun _ _ h => h⟩
theorem Ext.trans {F F1 F2 : Hp} {p p1 p2 : List Addr} (a : Ext F p F1 p1) (b : Ext F1 p1 F2 p2) : Ext F p F2 p2 :=
  ⟨fun x o h => b.fz x o (a.fz x o h), fun n x h => b.ph n x (a.ph n x h)⟩
/-- .. and of the abstract heap all stays that is no cell; a new cell was nothing ahead -/
structure Ex (F : Hp) (ph : List Addr) (H : Hp) (F' : Hp) (ph' : List Addr) (H' : Hp) : Prop where
  x : Ext F ph F' ph'
  keep : ∀ a o, H a = some o → a ∉ ph → H' a = some o ∨ ∃ ps more, o = .tbl ps ∧ H' a = some (.tbl more)
  new : ∀ a, a ∈ ph' → a ∈ ph ∨ H a = none
  fnew : ∀ a o, F' a = some o → (∃ u, F a = some u) ∨ H a = none ∨ a ∈ ph
theorem Ex.refl (F : Hp) (ph : List Addr) (H : Hp) : Ex F ph H F ph H := ⟨Ext.refl _ _, fun _ _ h _ => .inl h, fun _ h => .inl h, fun _ o h => .inl ⟨o, h⟩⟩
theorem Ex.trans {F F1 F2 : Hp} {p p1 p2 : List Addr} {H H1 H2 : Hp} (a : Ex F p H F1 p1 H1) (b : Ex F1 p1 H1 F2 p2 H2) : Ex F p H F2 p2 H2 := by
  have nn : ∀ c o, H c = some o → c ∉ p → c ∉ p1 := fun c o h n z => by
    rcases a.new c z with q | q
    · exact n q
    · rw [h] at q; cases q
  have back : ∀ c, H1 c = none → c ∈ p ∨ H c = none := fun c q => by
    cases e : H c with
    | none => exact .inr rfl
    | some o =>
      by_cases n : c ∈ p
      · exact .inl n
      · rcases a.keep c o e n with z | ⟨_, _, _, z⟩ <;> rw [z] at q <;> cases q
  refine ⟨a.x.trans b.x, fun c o h n => ?_, fun c hc => ?_, fun c o hc => ?_⟩
  · rcases a.keep c o h n with z | ⟨ps, more, rfl, z⟩
    · exact b.keep c o z (nn c o h n)
    · rcases b.keep c _ z (nn c _ h n) with z2 | ⟨_, more2, _, z2⟩
      · exact .inr ⟨ps, more, rfl, z2⟩
      · exact .inr ⟨ps, more2, rfl, z2⟩
  · rcases b.new c hc with q | q
    · exact a.new c q
    · exact back c q
  · rcases b.fnew c o hc with ⟨u, q⟩ | q | q
    · exact a.fnew c u q
    · exact .inr (back c q).symm
    · exact .inr (a.new c q).symm
theorem Ex.kept {F F' : Hp} {p p' : List Addr} {H H' : Hp} (e : Ex F p H F' p' H') {a : Addr} {o : HO} (h : H a = some o) (n : a ∉ p) (nt : ∀ ps, o ≠ .tbl ps := by intro _ h; cases h) : H' a = some o := by
  rcases e.keep a o h n with z | ⟨ps, _, z, _⟩
  · exact z
  · exact absurd z (nt ps)
section
variable {K : PySem.W.Frag} {G : Nat → Addr} {F F' : Hp} {ph ph' : List Addr}
mutual
theorem R.mono (e : Ext F ph F' ph') : ∀ (d : D) (v : V), R K G F ph d v → R K G F' ph' d v
  | .non, _, h => by simpa only [R] using h
  | .bl _, _, h => by simpa only [R] using h
  | .int _, _, h => by simpa only [R] using h
  | .str _, _, h => by simpa only [R] using h
  | .lst ds, v, h => by
    simp only [R] at h ⊢
    obtain ⟨a, vs, h1, h2, h3⟩ := h
    exact ⟨a, vs, h1, e.fz _ _ h2, Rs.mono e ds vs h3⟩
  | .tup ds, v, h => by
    simp only [R] at h ⊢
    obtain ⟨a, vs, h1, h2, h3⟩ := h
    exact ⟨a, vs, h1, e.fz _ _ h2, Rs.mono e ds vs h3⟩
  | .ro ds, v, h => by
    simp only [R] at h ⊢
    obtain ⟨a, vs, h1, h2, h3⟩ := h
    exact ⟨a, vs, h1, Same.seq e.fz h2, Rs.mono e ds vs h3⟩
  | .dct kvs, v, h => by
    simp only [R] at h ⊢
    obtain ⟨a, vs, h1, h2, h3⟩ := h
    exact ⟨a, vs, h1, e.fz _ _ h2, Rk.mono e kvs vs h3⟩
  | .ins c fs, v, h => by
    simp only [R] at h ⊢
    obtain ⟨a, dx, vs, h1, h2, h3⟩ := h
    exact ⟨a, dx, vs, h1, e.fz _ _ h2, Rf.mono e fs vs h3⟩
  | .cell n, v, h => by
    simp only [R] at h ⊢
    obtain ⟨a, h1, h2⟩ := h
    exact ⟨a, h1, e.ph _ _ h2⟩
  | .cls _, _, h => by simpa only [R] using h
  | .ty _, _, h => by simpa only [R] using h
  | .err c fs, v, h => by
    simp only [R] at h ⊢
    obtain ⟨a, d, h1, h2, h3⟩ := h
    refine ⟨a, d, h1, e.fz _ _ h2, ?_⟩
    rcases h3 with q | ⟨dd, ws, q1, q2, q3⟩
    · exact .inl q
    · exact .inr ⟨dd, ws, q1, e.fz _ _ q2, Rf.mono e fs ws q3⟩
theorem Rs.mono (e : Ext F ph F' ph') : ∀ (ds : List D) (vs : List V), Rs K G F ph ds vs → Rs K G F' ph' ds vs
  | [], vs, h => by simpa only [Rs] using h
  | d :: ds, vs, h => by
    simp only [Rs] at h ⊢
    obtain ⟨v, ws, h1, h2, h3⟩ := h
    exact ⟨v, ws, h1, R.mono e d v h2, Rs.mono e ds ws h3⟩
theorem Rk.mono (e : Ext F ph F' ph') : ∀ (ds : List (Key × D)) (vs : List (Key × V)), Rk K G F ph ds vs → Rk K G F' ph' ds vs
  | [], vs, h => by simpa only [Rk] using h
  | (k, d) :: ds, vs, h => by
    simp only [Rk] at h ⊢
    obtain ⟨v, ws, h1, h2, h3⟩ := h
    exact ⟨v, ws, h1, R.mono e d v h2, Rk.mono e ds ws h3⟩
theorem Rf.mono (e : Ext F ph F' ph') : ∀ (ds : List (Str × D)) (vs : List (Str × V)), Rf K G F ph ds vs → Rf K G F' ph' ds vs
  | [], vs, h => by simpa only [Rf] using h
  | (k, d) :: ds, vs, h => by
    simp only [Rf] at h ⊢
    obtain ⟨v, ws, h1, h2, h3⟩ := h
    exact ⟨v, ws, h1, R.mono e d v h2, Rf.mono e ds ws h3⟩
end
theorem Rs.len : ∀ {ds : List D} {vs : List V}, Rs K G F ph ds vs → vs.length = ds.length
  | [], vs, h => by simp only [Rs] at h; rw [h]; rfl
  | d :: ds, vs, h => by
    simp only [Rs] at h
    obtain ⟨v, ws, rfl, _, h3⟩ := h
    simp [Rs.len h3]
theorem Rs.get : ∀ {ds : List D} {vs : List V} {i : Nat} {d : D}, Rs K G F ph ds vs → ds[i]? = some d → ∃ v, vs[i]? = some v ∧ R K G F ph d v
  | [], vs, i, d, h, e => by simp at e
  | d0 :: ds, vs, 0, d, h, e => by
    simp only [Rs] at h
    obtain ⟨v, ws, rfl, h2, _⟩ := h
    simp at e; subst e
    exact ⟨v, by simp, h2⟩
  | d0 :: ds, vs, i + 1, d, h, e => by
    simp only [Rs] at h
    obtain ⟨v, ws, rfl, _, h3⟩ := h
    obtain ⟨u, e1, e2⟩ := Rs.get (i := i) h3 (by simpa using e)
    exact ⟨u, by simpa using e1, e2⟩
theorem Rs.app : ∀ {ds es : List D} {vs ws : List V}, Rs K G F ph ds vs → Rs K G F ph es ws → Rs K G F ph (ds ++ es) (vs ++ ws)
  | [], es, vs, ws, h, h' => by simp only [Rs] at h; subst h; simpa using h'
  | d :: ds, es, vs, ws, h, h' => by
    simp only [Rs] at h
    obtain ⟨v, us, rfl, h2, h3⟩ := h
    simp only [List.cons_append, Rs]
    exact ⟨v, us ++ ws, rfl, h2, Rs.app h3 h'⟩
theorem Rs.one {d : D} {v : V} (h : R K G F ph d v) : Rs K G F ph [d] [v] := by
  simp only [Rs]; exact ⟨v, [], rfl, h, rfl⟩
theorem Rs.drop : ∀ (n : Nat) {ds : List D} {vs : List V}, Rs K G F ph ds vs → Rs K G F ph (ds.drop n) (vs.drop n)
  | 0, _, _, h => by simpa using h
  | n + 1, [], vs, h => by simp only [Rs] at h; subst h; simp [Rs]
  | n + 1, d :: ds, vs, h => by
    simp only [Rs] at h
    obtain ⟨v, us, rfl, h2, h3⟩ := h
    simpa using Rs.drop n h3
theorem Rs.take : ∀ (n : Nat) {ds : List D} {vs : List V}, Rs K G F ph ds vs → Rs K G F ph (ds.take n) (vs.take n)
  | 0, _, _, h => by simp [Rs]
  | n + 1, [], vs, h => by simp only [Rs] at h; subst h; simp [Rs]
  | n + 1, d :: ds, vs, h => by
    simp only [Rs] at h
    obtain ⟨v, us, rfl, h2, h3⟩ := h
    simp only [List.take_succ_cons, Rs]
    exact ⟨v, _, rfl, h2, Rs.take n h3⟩
theorem Rs.set {d : D} {v : V} (h : R K G F ph d v) : ∀ (n : Nat) {ds : List D} {vs : List V}, Rs K G F ph ds vs → Rs K G F ph (ds.set n d) (vs.set n v)
  | _, [], vs, h0 => by simp only [Rs] at h0; subst h0; simp [Rs]
  | 0, e :: ds, vs, h0 => by
    simp only [Rs] at h0
    obtain ⟨w, us, rfl, h2, h3⟩ := h0
    simp only [List.set_cons_zero, Rs]
    exact ⟨v, us, rfl, h, h3⟩
  | n + 1, e :: ds, vs, h0 => by
    simp only [Rs] at h0
    obtain ⟨w, us, rfl, h2, h3⟩ := h0
    simp only [List.set_cons_succ, Rs]
    exact ⟨w, _, rfl, h2, Rs.set h n h3⟩
theorem Rs.rev {ds : List D} {vs : List V} (h : Rs K G F ph ds vs) : Rs K G F ph ds.reverse vs.reverse := by
  induction ds generalizing vs with
  | nil => simp only [Rs] at h; subst h; simp [Rs]
  | cons d ds ih =>
    simp only [Rs] at h
    obtain ⟨v, us, rfl, h2, h3⟩ := h
    simp only [List.reverse_cons]
    exact (ih h3).app (Rs.one h2)
end

/-! ### states -/
def CellOk (K : PySem.W.Frag) (G : Nat → Addr) (F : Hp) (ph : List Addr) (H : Hp) (a : Addr) : Cell → Prop
  | .lst ds => F a = none ∧ ∃ vs, H a = some (.lst vs) ∧ Rs K G F ph ds vs
  | .ins c fs => F a = none ∧ ∃ dx ws, H a = some (.ins (G c) dx ws) ∧ Rf K G F ph fs ws
  | .dct kvs => F a = none ∧ ∃ ws, H a = some (.dK ws) ∧ Rk K G F ph kvs ws
  | .fz d => (∃ xs, F a = some (.lst xs)) ∧ R K G F ph d (.ref a)
/-- tables of code objects: of the j-th maker of lambdas; none is frozen; there are no others -/
structure Tb (K : PySem.W.Frag) (G : Nat → Addr) (F H : Hp) : Prop where
  nF : ∀ a ps, F a ≠ some (.tbl ps)
  at_ : ∀ j, j < G 999 → ∀ q, PySem.W.codeIn K (.ref (G (1500 + j))) q = true → LamX.TabS H (G (1000 + j)) (q ++ ".<locals>." ++ "<lambda>")
  only : ∀ a ps, H a = some (.tbl ps) → ∃ j q, j < G 999 ∧ a = G (1000 + j) ∧ PySem.W.codeIn K (.ref (G (1500 + j))) q = true
section
variable {K : PySem.W.Frag} {G : Nat → Addr} {F H : Hp} {p : Addr} {o o' : HO}
theorem upd_tbl {a : Addr} {ps : Array Value} (ho : ∀ ps, o ≠ .tbl ps) (h : L2.upd F p o a = some (.tbl ps)) : F a = some (.tbl ps) := by
  by_cases e : a = p
  · subst e; rw [upd_same] at h; exact absurd (Option.some.inj h) (ho ps)
  · rwa [upd_ne e] at h
theorem tabS_upd {P : Addr} {q : Str} (t : LamX.TabS H P q) (h1 : ∀ ps, H p ≠ some (.tbl ps)) (h2 : ∀ c r, H p ≠ some (LamX.CodeO c r)) : LamX.TabS (upd H p o) P q := by
  obtain ⟨ps, a, b, c⟩ := t
  refine ⟨ps, by rw [upd_ne (fun z => h1 ps (by rw [← z]; exact a))]; exact a, b, fun pos cv h => ?_⟩
  obtain ⟨k, e1, e2⟩ := c pos cv h
  exact ⟨k, e1, by rw [upd_ne (fun z => h2 k q (by rw [← z]; exact e2))]; exact e2⟩
theorem Tb.upd (t : Tb K G F H) (h1 : ∀ ps, H p ≠ some (.tbl ps)) (h2 : ∀ c r, H p ≠ some (LamX.CodeO c r)) (ho : ∀ ps, o ≠ .tbl ps) : Tb K G F (L2.upd H p o) :=
  ⟨t.nF, fun j hj q hq => tabS_upd (t.at_ j hj q hq) h1 h2, fun a ps h => t.only a ps (upd_tbl ho h)⟩
theorem Tb.new (t : Tb K G F H) (hp : H p = none) (ho : ∀ ps, o ≠ .tbl ps) : Tb K G F (L2.upd H p o) := t.upd (fun _ z => by rw [hp] at z; cases z) (fun _ _ z => by rw [hp] at z; cases z) ho
theorem Tb.frz (t : Tb K G F H) (ho : ∀ ps, o ≠ .tbl ps) : Tb K G (L2.upd F p o) H := ⟨fun a ps h => t.nF a ps (upd_tbl ho h), t.at_, t.only⟩
theorem Tb.lay (t : Tb K G F H) (hp : H p = none) (ho : ∀ ps, o ≠ .tbl ps) : Tb K G (L2.upd F p o) (L2.upd H p o) := (t.new hp ho).frz ho
end
structure RelS (K : PySem.W.Frag) (G : Nat → Addr) (F : Hp) (ph : List Addr) (st : Store) (H : Hp) : Prop where
  sub : ∀ a o, F a = some o → H a = some o
  len : ph.length = st.length
  nd : ph.Nodup
  cells : ∀ (n : Nat) c a, st[n]? = some c → ph[n]? = some a → CellOk K G F ph H a c
  tb : Tb K G F H
structure RelE (K : PySem.W.Frag) (G : Nat → Addr) (F : Hp) (ph : List Addr) (σ : L2.St) (env : Env) : Prop where
  len : σ.length = env.length
  get : ∀ (i : Nat) d, env[i]? = some (some d) → ∃ v, σ[i]? = some (some v) ∧ R K G F ph d v
structure Rel (K : PySem.W.Frag) (G : Nat → Addr) (F : Hp) (ph : List Addr) (σ : L2.St) (env : Env) (st : Store) (H : Hp) : Prop where
  s : RelS K G F ph st H
  e : RelE K G F ph σ env
section
variable {K : PySem.W.Frag} {G : Nat → Addr} {F F' : Hp} {ph ph' : List Addr} {σ : L2.St} {env : Env} {st st' : Store} {H H' : Hp}
theorem RelE.mono (e : Ext F ph F' ph') (h : RelE K G F ph σ env) : RelE K G F' ph' σ env :=
  ⟨h.len, fun i d q => let ⟨v, h1, h2⟩ := h.get i d q; ⟨v, h1, R.mono e d v h2⟩⟩
theorem RelE.set (h : RelE K G F ph σ env) (i : Nat) {d : D} {v : V} (r : R K G F ph d v) : RelE K G F ph (σ.set i (some v)) (env.set i (some d)) := by
  refine ⟨by simp [h.len], fun j e q => ?_⟩
  by_cases hj : i = j
  · subst hj
    have hi : i < env.length := by
      rcases Nat.lt_or_ge i env.length with z | z
      · exact z
      · rw [List.getElem?_eq_none (by simpa using z)] at q; cases q
    rw [List.getElem?_set_self hi] at q
    cases q
    exact ⟨v, by rw [List.getElem?_set_self (by rw [h.len]; exact hi)], r⟩
  · rw [List.getElem?_set_ne hj] at q
    rw [List.getElem?_set_ne hj]
    exact h.get j e q
theorem RelE.forget (h : RelE K G F ph σ env) (i : Nat) : RelE K G F ph (σ.set i none) (env.set i none) := by
  refine ⟨by simp [h.len], fun j e q => ?_⟩
  by_cases hj : i = j
  · subst hj
    rcases Nat.lt_or_ge i env.length with z | z
    · rw [List.getElem?_set_self z] at q; cases q
    · rw [List.getElem?_eq_none (by simpa using z)] at q; cases q
  · rw [List.getElem?_set_ne hj] at q
    rw [List.getElem?_set_ne hj]
    exact h.get j e q
/-- every cell's place is tracked: a list, an instance, a dict -/
theorem RelS.cellAt0 (h : RelS K G F ph st H) {n : Nat} {a : Addr} (q : ph[n]? = some a) : ∃ o, H a = some o ∧ (∀ ps, o ≠ .tbl ps) ∧ ∀ φ, o ≠ .ext φ := by
  have hn : n < st.length := by rw [← h.len]; exact (List.getElem?_eq_some_iff.mp q).1
  have c := h.cells n st[n] a (by simp [hn]) q
  cases e : st[n] with
  | lst ds => rw [e] at c; exact ⟨_, c.2.choose_spec.1, fun _ z => (by cases z), fun _ z => by cases z⟩
  | ins k fs => rw [e] at c; obtain ⟨_, dx, ws, x, _⟩ := c; exact ⟨_, x, fun _ z => (by cases z), fun _ z => by cases z⟩
  | dct kvs => rw [e] at c; exact ⟨_, c.2.choose_spec.1, fun _ z => (by cases z), fun _ z => by cases z⟩
  | fz d => rw [e] at c; exact ⟨_, h.sub _ _ c.1.choose_spec, fun _ z => (by cases z), fun _ z => by cases z⟩
theorem RelS.there (h : RelS K G F ph st H) {n : Nat} {a : Addr} (q : ph[n]? = some a) : ∃ o, H a = some o := let ⟨o, e, _⟩ := h.cellAt0 q; ⟨o, e⟩
theorem RelS.fresh (h : RelS K G F ph st H) {p : Addr} (hp : H p = none) : F p = none ∧ p ∉ ph := by
  refine ⟨?_, fun hm => ?_⟩
  · cases q : F p with
    | none => rfl
    | some o => rw [h.sub _ _ q] at hp; cases hp
  · obtain ⟨n, hn, e⟩ := List.getElem_of_mem hm
    obtain ⟨o, q⟩ := h.there (n := n) (by rw [List.getElem?_eq_getElem hn, e])
    rw [hp] at q; cases q
/-- a frozen object laid anew -/
theorem RelS.lay (h : RelS K G F ph st H) {p : Addr} {o : HO} (hp : H p = none) (ho : ∀ ps, o ≠ .tbl ps := by intro _ h; cases h) : Ex F ph H (upd F p o) ph (upd H p o) ∧ RelS K G (upd F p o) ph st (upd H p o) := by
  obtain ⟨hF, hm⟩ := h.fresh hp
  have ex : Ext F ph (upd F p o) ph := ⟨fun a u q => by rw [upd_ne (ne_of_none q hF)]; exact q, fun _ _ q => q⟩
  refine ⟨⟨ex, fun a u q _ => .inl (by rw [upd_ne (ne_of_none q hp)]; exact q), fun _ z => .inl z, fun a u q => ?_⟩, ⟨fun a u q => ?_, h.len, h.nd, fun n c a q1 q2 => ?_, h.tb.lay hp ho⟩⟩
  · by_cases e : a = p
    · subst e; exact .inr (.inl hp)
    · rw [upd_ne e] at q; exact .inl ⟨u, q⟩
  · by_cases e : a = p
    · subst e; rw [upd_same] at q ⊢; exact q
    · rw [upd_ne e] at q ⊢; exact h.sub a u q
  · have ne : a ≠ p := fun e => hm (e ▸ List.mem_of_getElem? q2)
    have c0 := h.cells n c a q1 q2
    cases c with
    | lst ds =>
      obtain ⟨z, vs, x, r⟩ := c0
      exact ⟨by rw [upd_ne ne]; exact z, vs, by rw [upd_ne ne]; exact x, Rs.mono ex ds vs r⟩
    | ins k fs =>
      obtain ⟨z, dx, ws, x, r⟩ := c0
      exact ⟨by rw [upd_ne ne]; exact z, dx, ws, by rw [upd_ne ne]; exact x, Rf.mono ex fs ws r⟩
    | dct kvs =>
      obtain ⟨z, ws, x, r⟩ := c0
      exact ⟨by rw [upd_ne ne]; exact z, ws, by rw [upd_ne ne]; exact x, Rk.mono ex kvs ws r⟩
    | fz d =>
      obtain ⟨z, r⟩ := c0
      exact ⟨by rw [upd_ne ne]; exact z, R.mono ex d _ r⟩
/-- a cell laid anew -/
theorem RelS.layCell (h : RelS K G F ph st H) {p : Addr} {o : HO} {c : Cell} (hp : H p = none) (hc : CellOk K G F (ph ++ [p]) (upd H p o) p c) (ho : ∀ ps, o ≠ .tbl ps := by intro _ h; cases h) :
    Ex F ph H F (ph ++ [p]) (upd H p o) ∧ RelS K G F (ph ++ [p]) (st ++ [c]) (upd H p o) := by
  obtain ⟨hF, hm⟩ := h.fresh hp
  have ex : Ext F ph F (ph ++ [p]) := ⟨fun a u q => q, fun n a q => by
    rw [List.getElem?_append_left (List.getElem?_eq_some_iff.mp q).1]; exact q⟩
  refine ⟨⟨ex, fun a u q _ => .inl (by rw [upd_ne (ne_of_none q hp)]; exact q), fun a z => ?_, fun a u q => .inl ⟨u, q⟩⟩, ⟨fun a u q => ?_, by simp [h.len], ?_, fun n d a q1 q2 => ?_, h.tb.new hp ho⟩⟩
  · rcases List.mem_append.mp z with z | z
    · exact .inl z
    · simp at z; subst z; exact .inr hp
  · rw [upd_ne (ne_of_none q hF)]; exact h.sub a u q
  · rw [List.nodup_append]
    refine ⟨h.nd, by simp, fun a ha b hb => ?_⟩
    simp at hb; subst hb
    exact fun e => hm (e ▸ ha)
  · rcases Nat.lt_or_ge n st.length with z | z
    · rw [List.getElem?_append_left z] at q1
      rw [List.getElem?_append_left (by rw [h.len]; exact z)] at q2
      have ne : a ≠ p := fun e => hm (e ▸ List.mem_of_getElem? q2)
      have c0 := h.cells n d a q1 q2
      cases d with
      | lst ds =>
        obtain ⟨z, vs, x, r⟩ := c0
        exact ⟨z, vs, by rw [upd_ne ne]; exact x, Rs.mono ex ds vs r⟩
      | ins k fs =>
        obtain ⟨z, dx, ws, x, r⟩ := c0
        exact ⟨z, dx, ws, by rw [upd_ne ne]; exact x, Rf.mono ex fs ws r⟩
      | dct kvs =>
        obtain ⟨z, ws, x, r⟩ := c0
        exact ⟨z, ws, by rw [upd_ne ne]; exact x, Rk.mono ex kvs ws r⟩
      | fz d =>
        obtain ⟨z, r⟩ := c0
        exact ⟨z, R.mono ex d _ r⟩
    · have hn : n = st.length := by
        have := (List.getElem?_eq_some_iff.mp q1).1
        simp at this; omega
      subst hn
      rw [List.getElem?_append_right (Nat.le_refl _)] at q1
      rw [List.getElem?_append_right (by rw [h.len]; exact Nat.le_refl _)] at q2
      simp at q1
      simp [h.len] at q2
      subst q1; subst q2
      exact hc
/-- a cell is no table and no code object -/
theorem RelS.cellH (h : RelS K G F ph st H) {n : Nat} {p : Addr} (hn : ph[n]? = some p) : (∀ ps, H p ≠ some (.tbl ps)) ∧ ∀ c r, H p ≠ some (LamX.CodeO c r) := by
  obtain ⟨o, e, n1, n2⟩ := h.cellAt0 hn
  rw [e]
  exact ⟨fun ps z => n1 ps (Option.some.inj z), fun c r z => n2 _ (Option.some.inj z)⟩
/-- a cell written -/
theorem RelS.put (h : RelS K G F ph st H) {n : Nat} {p : Addr} {o : HO} {c : Cell} (hn : ph[n]? = some p) (hF : F p = none) (hc : CellOk K G F ph (upd H p o) p c) (ho : ∀ ps, o ≠ .tbl ps := by intro _ h; cases h) :
    Ex F ph H F ph (upd H p o) ∧ RelS K G F ph (st.set n c) (upd H p o) := by
  refine ⟨⟨Ext.refl _ _, fun a u q na => by
    have ne : a ≠ p := fun z => na (by rw [z]; exact List.mem_of_getElem? hn)
    exact .inl (by rw [upd_ne ne]; exact q), fun _ z => .inl z, fun a u q => .inl ⟨u, q⟩⟩, ?_⟩
  refine ⟨fun a u q => ?_, by simp [h.len], h.nd, fun m d a q1 q2 => ?_, h.tb.upd (h.cellH hn).1 (h.cellH hn).2 ho⟩
  · rw [upd_ne (ne_of_none q hF)]; exact h.sub a u q
  · by_cases e : n = m
    · subst e
      rw [hn] at q2; cases q2
      have hl : n < st.length := by rw [← h.len]; exact (List.getElem?_eq_some_iff.mp hn).1
      rw [List.getElem?_set_self hl] at q1; cases q1
      exact hc
    · rw [List.getElem?_set_ne e] at q1
      have ne : a ≠ p := fun z => e (by
        obtain ⟨l1, e1⟩ := List.getElem?_eq_some_iff.mp hn
        obtain ⟨l2, e2⟩ := List.getElem?_eq_some_iff.mp q2
        exact (List.getElem_inj h.nd).mp (e1.trans (z.symm.trans e2.symm)))
      have c0 := h.cells m d a q1 q2
      cases d with
      | lst ds =>
        obtain ⟨z, vs, x, r⟩ := c0
        exact ⟨z, vs, by rw [upd_ne ne]; exact x, r⟩
      | ins k fs =>
        obtain ⟨z, dx, ws, x, r⟩ := c0
        exact ⟨z, dx, ws, by rw [upd_ne ne]; exact x, r⟩
      | dct kvs =>
        obtain ⟨z, ws, x, r⟩ := c0
        exact ⟨z, ws, by rw [upd_ne ne]; exact x, r⟩
      | fz d => exact c0
/-- a list's cell frozen -/
theorem RelS.freezeL (h : RelS K G F ph st H) {n : Nat} {p : Addr} {ds : List D} (hn : ph[n]? = some p) (hs : st[n]? = some (.lst ds)) :
    ∃ vs, Ex F ph H (upd F p (.lst vs)) ph H ∧ RelS K G (upd F p (.lst vs)) ph (st.set n (.fz (.lst ds))) H ∧ R K G (upd F p (.lst vs)) ph (.lst ds) (.ref p) := by
  obtain ⟨hF, vs, hH, r⟩ := h.cells n _ p hs hn
  have ex : Ext F ph (upd F p (.lst vs)) ph := ⟨fun a u q => by rw [upd_ne (ne_of_none q hF)]; exact q, fun _ _ q => q⟩
  have rp : R K G (upd F p (.lst vs)) ph (.lst ds) (.ref p) := by
    simp only [R]; exact ⟨p, vs, rfl, upd_same, Rs.mono ex ds vs r⟩
  refine ⟨vs, ⟨ex, fun a u q _ => .inl q, fun _ z => .inl z, fun a u q => ?_⟩, ⟨fun a u q => ?_, by simp [h.len], h.nd, fun m d a q1 q2 => ?_, h.tb.frz fun _ z => by cases z⟩, rp⟩
  · by_cases e : a = p
    · subst e; exact .inr (.inr (List.mem_of_getElem? hn))
    · rw [upd_ne e] at q; exact .inl ⟨u, q⟩
  · by_cases e : a = p
    · subst e; rw [upd_same] at q; cases q; exact hH
    · rw [upd_ne e] at q; exact h.sub a u q
  · by_cases e : n = m
    · subst e
      rw [hn] at q2; cases q2
      have hl : n < st.length := by rw [← h.len]; exact (List.getElem?_eq_some_iff.mp hn).1
      rw [List.getElem?_set_self hl] at q1; cases q1
      exact ⟨by rw [upd_same]; simp, rp⟩
    · rw [List.getElem?_set_ne e] at q1
      have ne : a ≠ p := fun z => e (by
        obtain ⟨l1, e1⟩ := List.getElem?_eq_some_iff.mp hn
        obtain ⟨l2, e2⟩ := List.getElem?_eq_some_iff.mp q2
        exact (List.getElem_inj h.nd).mp (e1.trans (z.symm.trans e2.symm)))
      have c0 := h.cells m d a q1 q2
      cases d with
      | lst ds =>
        obtain ⟨z, vs, x, r⟩ := c0
        exact ⟨by rw [upd_ne ne]; exact z, vs, x, Rs.mono ex ds vs r⟩
      | ins k fs =>
        obtain ⟨z, dx, ws, x, r⟩ := c0
        exact ⟨by rw [upd_ne ne]; exact z, dx, ws, x, Rf.mono ex fs ws r⟩
      | dct kvs =>
        obtain ⟨z, ws, x, r⟩ := c0
        exact ⟨by rw [upd_ne ne]; exact z, ws, x, Rk.mono ex kvs ws r⟩
      | fz d =>
        obtain ⟨z, r⟩ := c0
        exact ⟨by rw [upd_ne ne]; exact z, R.mono ex d _ r⟩
/-- an object that is neither frozen nor a cell is written -/
theorem RelS.outside (h : RelS K G F ph st H) {p : Addr} {o : HO} (hF : F p = none) (hm : p ∉ ph) (h1 : ∀ ps, H p ≠ some (.tbl ps)) (h2 : ∀ c r, H p ≠ some (LamX.CodeO c r)) (ho : ∀ ps, o ≠ .tbl ps := by intro _ h; cases h) : RelS K G F ph st (upd H p o) := by
  refine ⟨fun a u q => by rw [upd_ne (ne_of_none q hF)]; exact h.sub a u q, h.len, h.nd, fun n c a q1 q2 => ?_, h.tb.upd h1 h2 ho⟩
  have ne : a ≠ p := fun e => hm (e ▸ List.mem_of_getElem? q2)
  have c0 := h.cells n c a q1 q2
  cases c with
  | lst ds => obtain ⟨z, vs, x, r⟩ := c0; exact ⟨z, vs, by rw [upd_ne ne]; exact x, r⟩
  | ins k fs => obtain ⟨z, dx, ws, x, r⟩ := c0; exact ⟨z, dx, ws, by rw [upd_ne ne]; exact x, r⟩
  | dct kvs => obtain ⟨z, ws, x, r⟩ := c0; exact ⟨z, ws, by rw [upd_ne ne]; exact x, r⟩
  | fz d => exact c0
/-- .. is frozen as it stands -/
theorem RelS.adopt (h : RelS K G F ph st H) {p : Addr} {o : HO} (hF : F p = none) (hm : p ∉ ph) (hH : H p = some o) (ho : ∀ ps, o ≠ .tbl ps := by intro _ h; cases h) : Ext F ph (upd F p o) ph ∧ RelS K G (upd F p o) ph st H := by
  have ex : Ext F ph (upd F p o) ph := ⟨fun a u q => by rw [upd_ne (ne_of_none q hF)]; exact q, fun _ _ q => q⟩
  refine ⟨ex, fun a u q => ?_, h.len, h.nd, fun n c a q1 q2 => ?_, h.tb.frz ho⟩
  · by_cases e : a = p
    · subst e; rw [upd_same] at q; cases q; exact hH
    · rw [upd_ne e] at q; exact h.sub a u q
  · have ne : a ≠ p := fun e => hm (e ▸ List.mem_of_getElem? q2)
    have c0 := h.cells n c a q1 q2
    cases c with
    | lst ds => obtain ⟨z, vs, x, r⟩ := c0; exact ⟨by rw [upd_ne ne]; exact z, vs, x, Rs.mono ex ds vs r⟩
    | ins k fs => obtain ⟨z, dx, ws, x, r⟩ := c0; exact ⟨by rw [upd_ne ne]; exact z, dx, ws, x, Rf.mono ex fs ws r⟩
    | dct kvs => obtain ⟨z, ws, x, r⟩ := c0; exact ⟨by rw [upd_ne ne]; exact z, ws, x, Rk.mono ex kvs ws r⟩
    | fz d => obtain ⟨z, r⟩ := c0; exact ⟨by rw [upd_ne ne]; exact z, R.mono ex d _ r⟩
end
end Den

namespace Den
open PySem PySem.Spec PyProof.Rows L2

/-! ### what is wanted of a result -/
def XOk (K : PySem.W.Frag) (G : Nat → Addr) (F : Hp) (ph : List Addr) (x : Xc) (dd : Option Addr) : Prop :=
  (x.fs = [] ∧ dd = none) ∨ ∃ d ws, dd = some d ∧ F d = some (.xd ws) ∧ Rf K G F ph x.fs ws
section
variable (K : PySem.W.Frag) (G : Nat → Addr) {α β : Type} (RR : Hp → List Addr → α → β → Prop) (W : WX)
def want (σ : L2.St) (env : Env) (Q : β → Hp → Prop) (F : Hp) (ph : List Addr) (H : Hp) : Res α → Prop
  | .ok d st => ∀ F' ph' v H', Ex F ph H F' ph' H' → Rel K G F' ph' σ env st H' → RR F' ph' d v → Q v H'
  | .exc x st => ∀ F' ph' dd H', Ex F ph H F' ph' H' → Rel K G F' ph' σ env st H' → XOk K G F' ph' x dd → W (.ref (G x.c)) dd σ H'
  | .bad => False
def rd (f : Env → Store → Res α) : L2.St → Hp → (β → Hp → Prop) → Prop := fun σ H Q =>
  ∃ F ph env st, Rel K G F ph σ env st H ∧ want K G RR W σ env Q F ph H (f env st)
end
section
variable {K : PySem.W.Frag} {G : Nat → Addr} {α β α' β' : Type} {RR : Hp → List Addr → α → β → Prop} {RR' : Hp → List Addr → α' → β' → Prop} {W : WX}
  {σ : L2.St} {env : Env} {Q : β → Hp → Prop} {Q' : β' → Hp → Prop} {F F' : Hp} {ph ph' : List Addr} {st : Store} {H H' : Hp}
theorem want.mono {r : Res α} (e : Ex F ph H F' ph' H') (h : want K G RR W σ env Q F ph H r) : want K G RR W σ env Q F' ph' H' r := by
  cases r with
  | ok d st => exact fun F2 p2 v H2 e2 => h F2 p2 v H2 (e.trans e2)
  | exc x st => exact fun F2 p2 v H2 e2 => h F2 p2 v H2 (e.trans e2)
  | bad => exact h
theorem want.bind {r : Res α} {k : α → Store → Res α'} (h : want K G RR' W σ env Q' F ph H (r.bind k))
    (nx : ∀ d st1 F1 p1 v H1, Ex F ph H F1 p1 H1 → Rel K G F1 p1 σ env st1 H1 → RR F1 p1 d v → want K G RR' W σ env Q' F1 p1 H1 (k d st1) → Q v H1) :
    want K G RR W σ env Q F ph H r := by
  cases r with
  | ok d st => exact fun F1 p1 v H1 e r1 r2 => nx d st F1 p1 v H1 e r1 r2 (want.mono e h)
  | exc x st => exact h
  | bad => exact h
theorem want.fin {d : α} {v : β} (h : want K G RR W σ env Q F ph H (.ok d st)) (r : Rel K G F ph σ env st H) (rv : RR F ph d v) : Q v H :=
  h F ph v H (Ex.refl _ _ _) r rv
end
theorem peImp {X : Cx} {e : Expr} {t t' : TE} (h : PE X e t) (i : ∀ σ H Q, t' σ H Q → t σ H Q) : PE X e t' := ⟨fun p s σ H Q I q => h.run p s σ H Q I (i σ H Q q)⟩
theorem ptImp {X : Cx} {e : Expr} {t t' : TT} (h : PT X e t) (i : ∀ σ H Q, t' σ H Q → t σ H Q) : PT X e t' := ⟨fun p s σ H Q I q => h.run p s σ H Q I (i σ H Q q)⟩
theorem pwImp {X : Cx} {e : Expr} {t t' : TT} (h : PW X e t) (i : ∀ σ H Q, t' σ H Q → t σ H Q) : PW X e t' := ⟨fun w p s σ H Q I q => h.run w p s σ H Q I (i σ H Q q)⟩
theorem paImp {X : Cx} {es : List Expr} {t t' : TA} (h : PA X es t) (i : ∀ σ H Q, t' σ H Q → t σ H Q) : PA X es t' := ⟨fun p pi s σ H Q I q => h.run p pi s σ H Q I (i σ H Q q)⟩
theorem psImp {X : Cx} {st : Stmt} {t t' : TS} (h : PS X st t) (i : ∀ D σ H, t' D σ H → t D σ H) : PS X st t' := ⟨fun p s σ H D I q => h.run p s σ H D I (i D σ H q)⟩
theorem pssImp {X : Cx} {st : List Stmt} {t t' : TS} (h : PSs X st t) (i : ∀ D σ H, t' D σ H → t D σ H) : PSs X st t' := ⟨fun p s σ H D I q => h.run p s σ H D I (i D σ H q)⟩

abbrev EqB : Hp → List Addr → Bool → Bool → Prop := fun _ _ a b => a = b
abbrev DenE := Env → Store → Res D
abbrev DenT := Env → Store → Res Bool
abbrev DenA := Env → Store → Res (List D)
def DE (X : Cx) (G : Nat → Addr) (W : WX) (e : Expr) (f : DenE) : Prop := PE X e (rd X.K G (R X.K G) W f)
def DT (X : Cx) (G : Nat → Addr) (W : WX) (e : Expr) (f : DenT) : Prop := PT X e (rd X.K G EqB W f)
def DW (X : Cx) (G : Nat → Addr) (W : WX) (e : Expr) (f : DenT) : Prop := PW X e (rd X.K G EqB W f)
def DA (X : Cx) (G : Nat → Addr) (W : WX) (es : List Expr) (f : DenA) : Prop := PA X es (rd X.K G (Rs X.K G) W f)

/-! ### names, constants -/
section
variable {X : Cx} {G : Nat → Addr} {W : WX}
def eVar (i : Nat) : DenE := fun env st => match env[i]? with
  | some (some d) => .ok d st
  | _ => .bad
def eK (d : D) : DenE := fun _ st => .ok d st
theorem de_var (i : Nat) {x : Str} {pos : Pos} (hN : X.N[i]? = some x := by rfl) (hv : Vis X.env.scope x := by first | exact Or.inl rfl | exact Or.inr (Or.inl rfl) | exact Or.inr (Or.inr rfl))
    (hd : (x == ("__debug__" : Str)) = false := by decide) (hcd : (x == ("__classdict__" : Str)) = false := by decide) : DE X G W (.Name x pos) (eVar i) := by
  refine peImp (pe_var hN hv hd hcd) fun σ H Q ⟨F, ph, env, st, r, w⟩ => ?_
  unfold eVar at w
  split at w
  · rename_i d e
    obtain ⟨v, e1, e2⟩ := r.e.get i d e
    exact ⟨v, e1, w.fin r e2⟩
  · exact w.elim
theorem de_int {i j pos} : DE X G W (.Constant (.int i) j pos) (eK (.int i)) := peImp pe_int fun σ H Q ⟨F, ph, env, st, r, w⟩ => w.fin r (by simp only [R])
theorem de_str {x j pos} : DE X G W (.Constant (.str x) j pos) (eK (.str x)) := peImp pe_str fun σ H Q ⟨F, ph, env, st, r, w⟩ => w.fin r (by simp only [R])
theorem de_bl {x j pos} : DE X G W (.Constant (.bool x) j pos) (eK (.bl x)) := peImp pe_bl fun σ H Q ⟨F, ph, env, st, r, w⟩ => w.fin r (by simp only [R])
theorem de_non {j pos} : DE X G W (.Constant .none j pos) (eK .non) := peImp pe_non fun σ H Q ⟨F, ph, env, st, r, w⟩ => w.fin r (by simp only [R])
/-- a module's constant that is an int or a text -/
def flatD : D → V → Bool
  | .int i, .int j => i == j
  | .str x, .str y => x == y
  | .bl x, .bl y => x == y
  | .non, .non => true
  | _, _ => false
theorem de_glob {x : Str} {d : D} {v : V} {u : Value} {pos : Pos} (hm : X.mg x = some u) (r : RelV v u) (hf : flatD d v = true) (hg : Gl X x := by rfl) (hd : (x == ("__debug__" : Str)) = false := by decide) : DE X G W (.Name x pos) (eK d) :=
  peImp (pe_glob hg hm r hd) fun σ H Q ⟨F, ph, env, st, r, w⟩ => w.fin r (by
    cases d <;> cases v <;> simp_all [flatD, R])
theorem de_gcls {x : Str} {c : Nat} {pos : Pos} (hm : X.mg x = some (.ref (G c))) (hg : Gl X x := by rfl) (hd : (x == ("__debug__" : Str)) = false := by decide) : DE X G W (.Name x pos) (eK (.cls c)) :=
  peImp (pe_glob (v := .ref (G c)) hg hm rfl hd) fun σ H Q ⟨F, ph, env, st, r, w⟩ => w.fin r (by simp only [R])
theorem de_bty {x : Str} {T : String} {pos : Pos} (hm : X.mg x = none) (hv : bootBuiltins x = some (.type T)) (hg : Gl X x := by rfl) (hn : x ≠ "__name__" := by decide) (hd : (x == ("__debug__" : Str)) = false := by decide) : DE X G W (.Name x pos) (eK (.ty T)) :=
  peImp (pe_bltn (v := .ty T) hg hm hv rfl hn hd) fun σ H Q ⟨F, ph, env, st, r, w⟩ => w.fin r (by simp only [R])

/-! ### operators by values -/
def rO (K : PySem.W.Frag) (G : Nat → Addr) (W : WX) (g : D → D → Store → Res D) : R2 := fun x y H Q =>
  ∃ σ env F ph st d e, Rel K G F ph σ env st H ∧ R K G F ph d x ∧ R K G F ph e y ∧ want K G (R K G) W σ env Q F ph H (g d e st)
def OpD (X : Cx) (G : Nat → Addr) (W : WX) (fn : Value → Value → Sem Value) (g : D → D → Store → Res D) : Prop := OpR X fn (rO X.K G W g)
def eBin (g : D → D → Store → Res D) (fa fb : DenE) : DenE := fun env st => (fa env st).bind fun d st1 => (fb env st1).bind fun e st2 => g d e st2
theorem bin_imp {g : D → D → Store → Res D} {fa fb : DenE} {σ : L2.St} {H : Hp} {Q : VK} (h : rd X.K G (R X.K G) W (eBin g fa fb) σ H Q) :
    rd X.K G (R X.K G) W fa σ H fun x H1 => rd X.K G (R X.K G) W fb σ H1 fun y H2 => rO X.K G W g x y H2 Q := by
  obtain ⟨F, ph, env, st, r, w⟩ := h
  refine ⟨F, ph, env, st, r, w.bind fun d st1 F1 p1 v H1 e1 r1 rv w1 => ⟨F1, p1, env, st1, r1, w1.bind fun d2 st2 F2 p2 v2 H2 e2 r2 rv2 w2 => ?_⟩⟩
  exact ⟨σ, env, F2, p2, st2, d, d2, r2, R.mono e2.x d v rv, rv2, w2⟩
theorem de_bin {op : Operator} {g : D → D → Store → Res D} {a b : Expr} {fa fb : DenE} {pos : Pos} (ho : OpD X G W (binaryOp op) g) (ha : DE X G W a fa) (hb : DE X G W b fb) : DE X G W (.BinOp a op b pos) (eBin g fa fb) :=
  peImp (pe_op ho ha hb) fun _ _ _ h => bin_imp h
theorem de_cmp {op : CmpOp} {g : D → D → Store → Res D} {a b : Expr} {fa fb : DenE} {pos : Pos} (ho : OpD X G W (compareOp op) g) (ha : DE X G W a fa) (hb : DE X G W b fb) (hm : behindInMarks op b = false := by first | exact nomark _ | rfl) : DE X G W (.Compare a [op] [b] pos) (eBin g fa fb) :=
  peImp (pe_cmpR ho ha hb hm) fun _ _ _ h => bin_imp h
/-- a value that is a truth, as a test -/
def tOf (f : DenE) : DenT := fun env st => (f env st).bind fun d st1 => match d with
  | .bl b => .ok b st1
  | _ => .bad
theorem tOf_imp {f : DenE} {σ : L2.St} {H : Hp} {Q : Bool → Hp → Prop} (h : rd X.K G EqB W (tOf f) σ H Q) : rd X.K G (R X.K G) W f σ H fun x H' => ∃ k, x = .bl k ∧ Q k H' := by
  obtain ⟨F, ph, env, st, r, w⟩ := h
  refine ⟨F, ph, env, st, r, w.bind fun d st1 F1 p1 v H1 e1 r1 rv w1 => ?_⟩
  cases d with
  | bl b =>
    simp only [R] at rv
    exact ⟨b, rv, w1.fin r1 rfl⟩
  | _ => exact w1.elim
theorem dt_cmp {op : CmpOp} {g : D → D → Store → Res D} {a b : Expr} {fa fb : DenE} {pos : Pos} (ho : OpD X G W (compareOp op) g) (ha : DE X G W a fa) (hb : DE X G W b fb) (hm : behindInMarks op b = false := by first | exact nomark _ | rfl) : DT X G W (.Compare a [op] [b] pos) (tOf (eBin g fa fb)) := by
  refine ptImp (pt_cmpR ho ha hb hm) fun σ H Q h => ?_
  exact bin_imp (Q := fun x H' => ∃ k, x = .bl k ∧ Q k H') (tOf_imp h)
def eChain (g g' : D → D → Store → Res D) (fa fb fc : DenE) : DenE := fun env st => (fa env st).bind fun d st1 => (fb env st1).bind fun e st2 => (g d e st2).bind fun z st3 => match z with
  | .bl true => (fc env st3).bind fun c st4 => g' e c st4
  | .bl false => .ok (.bl false) st3
  | _ => .bad
theorem chain_imp {g g' : D → D → Store → Res D} {fa fb fc : DenE} {σ : L2.St} {H : Hp} {Q : VK} (h : rd X.K G (R X.K G) W (eChain g g' fa fb fc) σ H Q) :
    tChain (rO X.K G W g) (rO X.K G W g') (rd X.K G (R X.K G) W fa) (rd X.K G (R X.K G) W fb) (rd X.K G (R X.K G) W fc) σ H Q := by
  obtain ⟨F, ph, env, st, r, w⟩ := h
  refine ⟨F, ph, env, st, r, w.bind fun d st1 F1 p1 v H1 e1 r1 rv w1 => ⟨F1, p1, env, st1, r1, w1.bind fun d2 st2 F2 p2 v2 H2 e2 r2 rv2 w2 => ?_⟩⟩
  refine ⟨σ, env, F2, p2, st2, d, d2, r2, R.mono e2.x d v rv, rv2, w2.bind fun z st3 F3 p3 v3 H3 e3 r3 rv3 w3 => ?_⟩
  cases z with
  | bl b =>
    simp only [R] at rv3
    refine ⟨b, rv3, ?_⟩
    cases b with
    | true =>
      rw [if_pos rfl]
      refine ⟨F3, p3, env, st3, r3, want.bind (k := fun c st4 => g' d2 c st4) w3 fun d4 st4 F4 p4 v4 H4 e4 r4 rv4 w4 => ?_⟩
      exact ⟨σ, env, F4, p4, st4, d2, d4, r4, R.mono (e3.trans e4).x d2 v2 rv2, rv4, w4⟩
    | false =>
      rw [if_neg (by simp)]
      exact want.fin (d := D.bl false) w3 r3 (by simp only [R])
  | _ => exact w3.elim
theorem de_chain {op op' : CmpOp} {g g' : D → D → Store → Res D} {a b c : Expr} {fa fb fc : DenE} {pos : Pos} (ho : OpD X G W (compareOp op) g) (ho' : OpD X G W (compareOp op') g') (ha : DE X G W a fa) (hb : DE X G W b fb) (hc : DE X G W c fc)
    (hm : lastMarks [op, op'] [b, c] = false := by with_unfolding_all rfl) : DE X G W (.Compare a [op, op'] [b, c] pos) (eChain g g' fa fb fc) :=
  peImp (pe_chain ho ho' ha hb hc hm) fun _ _ _ h => chain_imp h
theorem dt_chain {op op' : CmpOp} {g g' : D → D → Store → Res D} {a b c : Expr} {fa fb fc : DenE} {pos : Pos} (ho : OpD X G W (compareOp op) g) (ho' : OpD X G W (compareOp op') g') (ha : DE X G W a fa) (hb : DE X G W b fb) (hc : DE X G W c fc)
    (hm : lastMarks [op, op'] [b, c] = false := by with_unfolding_all rfl) : DT X G W (.Compare a [op, op'] [b, c] pos) (tOf (eChain g g' fa fb fc)) :=
  ptImp (pt_chain ho ho' ha hb hc hm) fun σ H Q h => chain_imp (Q := fun x H' => ∃ k, x = .bl k ∧ Q k H') (tOf_imp h)

/-! ### one place -/
def rU1 (K : PySem.W.Frag) (G : Nat → Addr) (W : WX) (g : D → Store → Res D) : V → Hp → VK → Prop := fun x H Q =>
  ∃ σ env F ph st d, Rel K G F ph σ env st H ∧ R K G F ph d x ∧ want K G (R K G) W σ env Q F ph H (g d st)
def eUn (g : D → Store → Res D) (fa : DenE) : DenE := fun env st => (fa env st).bind g
theorem un_imp {g : D → Store → Res D} {fa : DenE} {σ : L2.St} {H : Hp} {Q : VK} (h : rd X.K G (R X.K G) W (eUn g fa) σ H Q) :
    rd X.K G (R X.K G) W fa σ H fun x H1 => rU1 X.K G W g x H1 Q := by
  obtain ⟨F, ph, env, st, r, w⟩ := h
  exact ⟨F, ph, env, st, r, w.bind fun d st1 F1 p1 v H1 e1 r1 rv w1 => ⟨σ, env, F1, p1, st1, d, r1, rv, w1⟩⟩
theorem de_un {op : UnaryOp} {g : D → Store → Res D} {a : Expr} {fa : DenE} {pos : Pos} (ho : UnR X (unaryOp op) (rU1 X.K G W g)) (ha : DE X G W a fa) : DE X G W (.UnaryOp op a pos) (eUn g fa) :=
  peImp (pe_un ho ha) fun _ _ _ h => un_imp h
def negD (d : D) (st : Store) : Res D := match d with
  | .int i => .ok (.int (-i)) st
  | _ => .bad
theorem od_neg : UnR X (unaryOp .USub) (rU1 X.K G W negD) := by
  intro pins s σ H x v Q I rx ⟨σ', env, F, ph, st, d, r, rd, w⟩
  cases d with
  | int i =>
    simp only [R] at rd; subst rd
    exact un_neg pins s σ H _ v Q I rx ⟨i, rfl, w.fin r (by simp only [R])⟩
  | _ => exact w.elim

/-! ### and, or, not, if -/
def eAnd (fa fb : DenE) : DenE := fun env st => (fa env st).bind fun d st1 => match d with
  | .bl true => fb env st1
  | .bl false => .ok (.bl false) st1
  | _ => .bad
def eOr (fa fb : DenE) : DenE := fun env st => (fa env st).bind fun d st1 => match d with
  | .bl true => .ok (.bl true) st1
  | .bl false => fb env st1
  | _ => .bad
def eNot (fa : DenE) : DenE := fun env st => (fa env st).bind fun d st1 => match d with
  | .bl b => .ok (.bl (!b)) st1
  | _ => .bad
variable {a b c : Expr} {fa fb : DenE} {ta tb : DenT} {rest : List Expr} {pos : Pos}
theorem de_one {op} (h : DE X G W a fa) : DE X G W (.BoolOp op [a] pos) fa := pe_one h
theorem de_and (ha : DE X G W a fa) (hb : DE X G W (.BoolOp .And (b :: rest) pos) fb) : DE X G W (.BoolOp .And (a :: b :: rest) pos) (eAnd fa fb) := by
  refine peImp (pe_and ha hb) fun σ H Q ⟨F, ph, env, st, r, w⟩ => ⟨F, ph, env, st, r, w.bind fun d st1 F1 p1 v H1 e1 r1 rv w1 => ?_⟩
  cases d with
  | bl k =>
    simp only [R] at rv
    refine ⟨k, rv, ?_⟩
    cases k with
    | true => rw [if_pos rfl]; exact ⟨F1, p1, env, st1, r1, w1⟩
    | false => rw [if_neg (by simp)]; exact want.fin (d := D.bl false) w1 r1 (by simp only [R])
  | _ => exact w1.elim
theorem de_not (ha : DE X G W a fa) : DE X G W (.UnaryOp .Not a pos) (eNot fa) := by
  refine peImp (pe_not ha) fun σ H Q ⟨F, ph, env, st, r, w⟩ => ⟨F, ph, env, st, r, w.bind fun d st1 F1 p1 v H1 e1 r1 rv w1 => ?_⟩
  cases d with
  | bl k =>
    simp only [R] at rv
    exact ⟨k, rv, want.fin (d := D.bl (!k)) w1 r1 (by simp only [R])⟩
  | _ => exact w1.elim
def tAndD (ta tb : DenT) : DenT := fun env st => (ta env st).bind fun b st1 => if b then tb env st1 else .ok false st1
def tOrD (ta tb : DenT) : DenT := fun env st => (ta env st).bind fun b st1 => if b then .ok true st1 else tb env st1
def tNotD (ta : DenT) : DenT := fun env st => (ta env st).bind fun b st1 => .ok (!b) st1
theorem dt_val (h : DE X G W a fa) (he : ∀ whole, isTrue a X.env whole = (do let v ← whole; standAt a.pos; holding [v] (truthy v)) := by intro _; rfl) : DT X G W a (tOf fa) :=
  ptImp (pt_val h he) fun σ H Q h => tOf_imp h
theorem dw_and1 (h : DT X G W a ta) : DW X G W (.BoolOp .And [a] pos) ta := pw_and1 h
theorem dw_or1 (h : DT X G W a ta) : DW X G W (.BoolOp .Or [a] pos) ta := pw_or1 h
theorem dw_and (ha : DT X G W a ta) (hb : DW X G W (.BoolOp .And (b :: rest) pos) tb) : DW X G W (.BoolOp .And (a :: b :: rest) pos) (tAndD ta tb) := by
  refine pwImp (pw_and ha hb) fun σ H Q ⟨F, ph, env, st, r, w⟩ => ⟨F, ph, env, st, r, w.bind fun k st1 F1 p1 v H1 e1 r1 rv w1 => ?_⟩
  cases rv
  cases k with
  | true => rw [if_pos rfl]; exact ⟨F1, p1, env, st1, r1, w1⟩
  | false => rw [if_neg (by simp)]; exact want.fin (d := false) w1 r1 rfl
theorem dw_or (ha : DT X G W a ta) (hb : DW X G W (.BoolOp .Or (b :: rest) pos) tb) : DW X G W (.BoolOp .Or (a :: b :: rest) pos) (tOrD ta tb) := by
  refine pwImp (pw_or ha hb) fun σ H Q ⟨F, ph, env, st, r, w⟩ => ⟨F, ph, env, st, r, w.bind fun k st1 F1 p1 v H1 e1 r1 rv w1 => ?_⟩
  cases rv
  cases k with
  | true => rw [if_pos rfl]; exact want.fin (d := true) w1 r1 rfl
  | false => rw [if_neg (by simp)]; exact ⟨F1, p1, env, st1, r1, w1⟩
theorem dt_w (h : DW X G W a ta) : DT X G W a ta := PW.pt h
theorem dt_not (ha : DT X G W a ta) : DT X G W (.UnaryOp .Not a pos) (tNotD ta) := by
  refine ptImp (pt_not ha) fun σ H Q ⟨F, ph, env, st, r, w⟩ => ⟨F, ph, env, st, r, w.bind fun k st1 F1 p1 v H1 e1 r1 rv w1 => ?_⟩
  cases rv
  exact want.fin (d := !k) w1 r1 rfl
def eIf (t : DenT) (fa fb : DenE) : DenE := fun env st => (t env st).bind fun b st1 => if b then fa env st1 else fb env st1
theorem de_if (hc : DT X G W c ta) (ha : DE X G W a fa) (hb : DE X G W b fb) : DE X G W (.IfExp c a b pos) (eIf ta fa fb) := by
  refine peImp (pe_ifExp hc ha hb) fun σ H Q ⟨F, ph, env, st, r, w⟩ => ⟨F, ph, env, st, r, w.bind fun k st1 F1 p1 v H1 e1 r1 rv w1 => ?_⟩
  cases rv
  cases k with
  | true => rw [if_pos rfl]; exact ⟨F1, p1, env, st1, r1, w1⟩
  | false => rw [if_neg (by simp)]; exact ⟨F1, p1, env, st1, r1, w1⟩

/-! ### argument lists, displays -/
def aNil : DenA := fun _ st => .ok [] st
def aCons (f : DenE) (g : DenA) : DenA := fun env st => (f env st).bind fun d st1 => (g env st1).bind fun ds st2 => .ok (d :: ds) st2
theorem da_nil : DA X G W [] aNil := paImp pa_nil fun σ H Q ⟨F, ph, env, st, r, w⟩ => w.fin r (by simp only [Rs])
theorem da_cons {e : Expr} {es : List Expr} {f : DenE} {g : DenA} (h : DE X G W e f) (hr : DA X G W es g) (hs : starEach (e :: es) X.env = (false, eval e X.env) :: starEach es X.env := by rfl) : DA X G W (e :: es) (aCons f g) := by
  refine paImp (pa_cons h hr hs) fun σ H Q ⟨F, ph, env, st, r, w⟩ => ⟨F, ph, env, st, r, w.bind fun d st1 F1 p1 v H1 e1 r1 rv w1 => ⟨F1, p1, env, st1, r1, w1.bind fun ds st2 F2 p2 vs H2 e2 r2 rvs w2 => ?_⟩⟩
  exact w2.fin r2 (by simp only [Rs]; exact ⟨v, vs, rfl, R.mono e2.x d v rv, rvs⟩)
/-- laying a new list, a new tuple -/
theorem want.newL {K : PySem.W.Frag} {σ : L2.St} {env : Env} {Q : VK} {F : Hp} {ph : List Addr} {st : Store} {H : Hp} {ds : List D} {vs : List V} {p : Addr} (w : want K G (R K G) W σ env Q F ph H (.ok (.lst ds) st)) (r : Rel K G F ph σ env st H) (rs : Rs K G F ph ds vs) (hp : H p = none) : Q (.ref p) (upd H p (.lst vs)) := by
  obtain ⟨ex, r'⟩ := r.s.lay (o := .lst vs) hp
  exact w _ _ _ _ ex ⟨r', r.e.mono ex.x⟩ (by simp only [R]; exact ⟨p, vs, rfl, upd_same, Rs.mono ex.x ds vs rs⟩)
theorem want.newT {K : PySem.W.Frag} {σ : L2.St} {env : Env} {Q : VK} {F : Hp} {ph : List Addr} {st : Store} {H : Hp} {ds : List D} {vs : List V} {p : Addr} (w : want K G (R K G) W σ env Q F ph H (.ok (.tup ds) st)) (r : Rel K G F ph σ env st H) (rs : Rs K G F ph ds vs) (hp : H p = none) : Q (.ref p) (upd H p (.tup vs)) := by
  obtain ⟨ex, r'⟩ := r.s.lay (o := .tup vs) hp
  exact w _ _ _ _ ex ⟨r', r.e.mono ex.x⟩ (by simp only [R]; exact ⟨p, vs, rfl, upd_same, Rs.mono ex.x ds vs rs⟩)
/-- .. a list that is a cell -/
theorem want.newC {K : PySem.W.Frag} {σ : L2.St} {env : Env} {Q : VK} {F : Hp} {ph : List Addr} {st : Store} {H : Hp} {ds : List D} {vs : List V} {p : Addr} (w : want K G (R K G) W σ env Q F ph H (.ok (.cell st.length) (st ++ [.lst ds]))) (r : Rel K G F ph σ env st H) (rs : Rs K G F ph ds vs) (hp : H p = none) : Q (.ref p) (upd H p (.lst vs)) := by
  have hF := (r.s.fresh hp).1
  have ex0 : Ext F ph F (ph ++ [p]) := ⟨fun _ _ q => q, fun n a q => by rw [List.getElem?_append_left (List.getElem?_eq_some_iff.mp q).1]; exact q⟩
  obtain ⟨ex, r'⟩ := r.s.layCell (o := .lst vs) (c := .lst ds) hp ⟨hF, vs, upd_same, Rs.mono ex0 ds vs rs⟩
  exact w _ _ _ _ ex ⟨r', r.e.mono ex.x⟩ (by simp only [R]; exact ⟨p, rfl, by rw [List.getElem?_append_right (by rw [r.s.len]; exact Nat.le_refl _)]; simp [r.s.len]⟩)
def mkL (ds : List D) (st : Store) : Res D := if ds.length ≤ sizeLine then .ok (.lst ds) st else .bad
def mkT (ds : List D) (st : Store) : Res D := if ds.length ≤ sizeLine then .ok (.tup ds) st else .bad
def mkC (ds : List D) (st : Store) : Res D := if ds.length ≤ sizeLine then .ok (.cell st.length) (st ++ [.lst ds]) else .bad
def eArgs (g : List D → Store → Res D) (f : DenA) : DenE := fun env st => (f env st).bind g
variable {es : List Expr} {g : DenA}
theorem de_lst (h : DA X G W es g) : DE X G W (.List es pos) (eArgs mkL g) := by
  refine peImp (pe_lst h) fun σ H Q ⟨F, ph, env, st, r, w⟩ => ⟨F, ph, env, st, r, w.bind fun ds st1 F1 p1 vs H1 e1 r1 rv w1 => ?_⟩
  unfold mkL at w1
  split at w1
  · rename_i hz
    exact ⟨by rw [rv.len]; exact hz, fun p hp => w1.newL r1 rv hp⟩
  · exact w1.elim
theorem de_lstC (h : DA X G W es g) : DE X G W (.List es pos) (eArgs mkC g) := by
  refine peImp (pe_lst h) fun σ H Q ⟨F, ph, env, st, r, w⟩ => ⟨F, ph, env, st, r, w.bind fun ds st1 F1 p1 vs H1 e1 r1 rv w1 => ?_⟩
  unfold mkC at w1
  split at w1
  · rename_i hz
    exact ⟨by rw [rv.len]; exact hz, fun p hp => w1.newC r1 rv hp⟩
  · exact w1.elim
theorem de_tup {x1} (h : DA X G W es g) : DE X G W (.Tuple es x1 pos) (eArgs mkT g) := by
  refine peImp (pe_tup h) fun σ H Q ⟨F, ph, env, st, r, w⟩ => ⟨F, ph, env, st, r, w.bind fun ds st1 F1 p1 vs H1 e1 r1 rv w1 => ?_⟩
  unfold mkT at w1
  split at w1
  · rename_i hz
    exact ⟨by rw [rv.len]; exact hz, fun p hp => w1.newT r1 rv hp⟩
  · exact w1.elim
end
end Den

namespace Den
open PySem PySem.Spec PyProof.Rows L2

/-! ### reading lists -/
def asC (c : Cell) : Option (List D) := match c with
  | .lst ds => some ds
  | .fz (.lst ds) => some ds
  | _ => none
/-- a list that may be joined, repeated (no locked one) -/
def asL (st : Store) : D → Option (List D)
  | .lst ds => some ds
  | .cell n => (st[n]?).bind asC
  | _ => none
/-- any list -/
def asR (st : Store) : D → Option (List D)
  | .ro ds => some ds
  | d => asL st d
def asT : D → Option (List D)
  | .tup ds => some ds
  | _ => none
section
variable {K : PySem.W.Frag} {G : Nat → Addr} {F : Hp} {ph : List Addr} {st : Store} {H : Hp} {d : D} {v : V} {ds : List D}
theorem RelS.cellAt (r : RelS K G F ph st H) {n : Nat} {c : Cell} (h : st[n]? = some c) : ∃ a, ph[n]? = some a ∧ CellOk K G F ph H a c := by
  have hn : n < ph.length := by rw [r.len]; exact (List.getElem?_eq_some_iff.mp h).1
  exact ⟨ph[n], by simp [hn], r.cells n c _ h (by simp [hn])⟩
theorem asL_ok (r : RelS K G F ph st H) (rv : R K G F ph d v) (h : asL st d = some ds) : ∃ a vs, v = .ref a ∧ H a = some (.lst vs) ∧ Rs K G F ph ds vs := by
  cases d with
  | lst es =>
    simp only [asL, Option.some.injEq] at h; subst h
    simp only [R] at rv
    obtain ⟨a, vs, h1, h2, h3⟩ := rv
    exact ⟨a, vs, h1, r.sub _ _ h2, h3⟩
  | cell n =>
    simp only [R] at rv
    obtain ⟨a, h1, h2⟩ := rv
    simp only [asL] at h
    obtain ⟨c, e, h⟩ := Option.bind_eq_some_iff.mp h
    have ck := r.cells n _ a e h2
    unfold asC at h
    split at h
    · cases h
      obtain ⟨_, vs, h3, h4⟩ := ck
      exact ⟨a, vs, h1, h3, h4⟩
    · cases h
      obtain ⟨_, h3⟩ := ck
      simp only [R] at h3
      obtain ⟨b, vs, q, h4, h5⟩ := h3
      cases q
      exact ⟨a, vs, h1, r.sub _ _ h4, h5⟩
    · cases h
  | _ => simp only [asL] at h; cases h
theorem asR_ok (r : RelS K G F ph st H) (rv : R K G F ph d v) (h : asR st d = some ds) : ∃ a vs, v = .ref a ∧ SqL K H a vs ∧ Rs K G F ph ds vs := by
  cases d with
  | ro es =>
    simp only [asR, Option.some.injEq] at h; subst h
    simp only [R] at rv
    obtain ⟨a, vs, h1, h2, h3⟩ := rv
    exact ⟨a, vs, h1, Same.seq r.sub h2, h3⟩
  | lst es =>
    obtain ⟨a, vs, h1, h2, h3⟩ := asL_ok r rv h
    exact ⟨a, vs, h1, SqL.of h2, h3⟩
  | cell n =>
    obtain ⟨a, vs, h1, h2, h3⟩ := asL_ok r rv h
    exact ⟨a, vs, h1, SqL.of h2, h3⟩
  | _ => simp only [asR, asL] at h; cases h
theorem asT_ok (r : RelS K G F ph st H) (rv : R K G F ph d v) (h : asT d = some ds) : ∃ a vs, v = .ref a ∧ H a = some (.tup vs) ∧ Rs K G F ph ds vs := by
  cases d with
  | tup es =>
    simp only [asT, Option.some.injEq] at h; subst h
    simp only [R] at rv
    obtain ⟨a, vs, h1, h2, h3⟩ := rv
    exact ⟨a, vs, h1, r.sub _ _ h2, h3⟩
  | _ => simp only [asT] at h; cases h
theorem SqT.len {X : Cx} {pins : List (Addr × Obj)} {σ : L2.St} {H : Hp} {s : Shared} {a : Addr} {xs : List V} (I : Inv X pins σ H s) (h : SqT X.K H a xs) : xs.length ≤ sizeLine :=
  let ⟨_, _, _, z⟩ := I.tuple h; z
end

section
variable {X : Cx} {G : Nat → Addr} {W : WX}
/-! ### + -/
def addD (d e : D) (st : Store) : Res D :=
  match d, e with
  | .int i, .int j => .ok (.int (i + j)) st
  | .str x, .str y => if x.length + y.length ≤ sizeLine then .ok (.str (x ++ y)) st else .bad
  | .tup a, .tup b => if a.length + b.length ≤ sizeLine then .ok (.tup (a ++ b)) st else .bad
  | d, e => match asL st d, asL st e with
    | some a, some b => if a.length + b.length ≤ sizeLine then .ok (.lst (a ++ b)) st else .bad
    | _, _ => .bad
theorem od_add : OpD X G W (binaryOp .Add) addD := by
  intro pins s σ H x y v u Q I rx ry ⟨σ', env, F, ph, st, d, e, r, rd, re, w⟩
  unfold addD at w
  split at w
  · simp only [R] at rd re; subst rd; subst re
    exact op_add pins s σ H _ _ v u Q I rx ry ⟨_, _, rfl, rfl, w.fin r (by simp only [R])⟩
  · simp only [R] at rd re; subst rd; subst re
    split at w
    · rename_i hz
      exact op_add_str pins s σ H _ _ v u Q I rx ry ⟨_, _, rfl, rfl, hz, w.fin r (by simp only [R])⟩
    · exact w.elim
  · rename_i a b
    split at w
    · rename_i hz
      obtain ⟨p, vs, h1, h2, h3⟩ := asT_ok r.s rd (ds := a) rfl
      obtain ⟨q, ws, h4, h5, h6⟩ := asT_ok r.s re (ds := b) rfl
      refine op_catA pins s σ H _ _ v u Q I rx ry ⟨p, q, vs, ws, h1, h4, SqT.of h2, SqT.of h5, by rw [h3.len, h6.len]; exact hz, fun z => ?_, fun z1 z2 => ?_, fun z1 z2 t ht => ?_⟩
      · subst z
        have ea : a = [] := List.length_eq_zero_iff.mp h3.len.symm
        subst ea
        rw [← h4]; exact w.fin r (by simpa using re)
      · subst z2
        have eb : b = [] := List.length_eq_zero_iff.mp h6.len.symm
        subst eb
        rw [← h1]; exact w.fin r (by simpa using rd)
      · exact w.newT r (h3.app h6) ht
    · exact w.elim
  · split at w
    · rename_i a b ha hb
      split at w
      · rename_i hz
        obtain ⟨p, vs, h1, h2, h3⟩ := asL_ok r.s rd ha
        obtain ⟨q, ws, h4, h5, h6⟩ := asL_ok r.s re hb
        exact op_cat pins s σ H _ _ v u Q I rx ry ⟨p, q, vs, ws, h1, h4, h2, h5, by rw [h3.len, h6.len]; exact hz, fun t ht => w.newL r (h3.app h6) ht⟩
      · exact w.elim
    · exact w.elim
/-! ### -, *, //, %, ** -/
def subD (d e : D) (st : Store) : Res D := match d, e with
  | .int i, .int j => .ok (.int (i - j)) st
  | _, _ => .bad
theorem od_sub : OpD X G W (binaryOp .Sub) subD := by
  intro pins s σ H x y v u Q I rx ry ⟨σ', env, F, ph, st, d, e, r, rd, re, w⟩
  unfold subD at w
  split at w
  · simp only [R] at rd re; subst rd; subst re
    exact op_sub pins s σ H _ _ v u Q I rx ry ⟨_, _, rfl, rfl, w.fin r (by simp only [R])⟩
  · exact w.elim
def mulOk (i j : Int) : Bool := decide ((Builtin.Int.intBits i : Int) + (Builtin.Int.intBits j : Int) ≤ 134217728)
theorem mulOk_iff {i j : Int} (h : mulOk i j = true) : CMulX i j := by
  unfold mulOk at h
  unfold CMulX
  simpa using h
theorem mulS_ok {z : Str} {k : Int} (h : z.length ≤ 1000 ∧ 0 ≤ k ∧ k ≤ 1000) : MulOk z k := by
  obtain ⟨h1, h2, h3⟩ := h
  refine ⟨by simp; omega, fun h0 _ => ?_, fun _ _ => ?_⟩
  · have hm : (z.length : Int) * k ≤ 2 ^ 63 - 1 := by
      have := Int.mul_le_mul (show (z.length : Int) ≤ 1000 by omega) h3 h2 (by omega)
      omega
    have := (Int.le_ediv_iff_mul_le (show 0 < k by omega)).mpr hm
    omega
  · have : z.length * k.toNat ≤ 1000 * 1000 := Nat.mul_le_mul h1 (by omega)
    show decide (_ > sizeLine) = false
    rw [sizeLine_eq]
    exact decide_eq_false (by omega)
theorem op_mulS {X : Cx} : OpR X (binaryOp .Mult) (fun x y H Q => ∃ z k, x = .str z ∧ y = .int k ∧ MulOk z k ∧ Q (.str (Txt.mul z k)) H) := by
  intro pins s σ H x y v u Q I rx ry ⟨z, k, ex, ey, hm, q⟩
  subst ex; subst ey
  obtain ⟨t, rfl⟩ := rx
  obtain ⟨t', rfl⟩ := ry
  exact SB.mul hm fun t' k => ⟨.str _, _, I.tok k, ⟨_, rfl⟩, q⟩
def mulD (d e : D) (st : Store) : Res D := match d, e with
  | .int i, .int j => if mulOk i j then .ok (.int (i * j)) st else .bad
  | .str z, .int k => if z.length ≤ 1000 ∧ 0 ≤ k ∧ k ≤ 1000 then .ok (.str (Txt.mul z k)) st else .bad
  | d, .int k => match asL st d with
    | some a => if -(2 ^ 63) ≤ k ∧ k < 2 ^ 63 ∧ a.length * k.toNat ≤ sizeLine then .ok (.lst (List.replicate k.toNat a).flatten) st else .bad
    | none => .bad
  | _, _ => .bad
theorem Rs.rep {K : PySem.W.Frag} {F : Hp} {ph : List Addr} {ds : List D} {vs : List V} (h : Rs K G F ph ds vs) : ∀ n : Nat, Rs K G F ph (List.replicate n ds).flatten (List.replicate n vs).flatten
  | 0 => by simp [Rs]
  | n + 1 => by
    simp only [List.replicate_succ, List.flatten_cons]
    exact h.app (Rs.rep h n)
theorem od_mul : OpD X G W (binaryOp .Mult) mulD := by
  intro pins s σ H x y v u Q I rx ry ⟨σ', env, F, ph, st, d, e, r, rd, re, w⟩
  unfold mulD at w
  split at w
  · simp only [R] at rd re; subst rd; subst re
    split at w
    · rename_i hm
      exact op_mulX pins s σ H _ _ v u Q I rx ry ⟨_, _, rfl, rfl, mulOk_iff hm, w.fin r (by simp only [R])⟩
    · exact w.elim
  · simp only [R] at rd re; subst rd; subst re
    split at w
    · rename_i hm
      exact op_mulS pins s σ H _ _ v u Q I rx ry ⟨_, _, rfl, rfl, mulS_ok hm, w.fin r (by simp only [R])⟩
    · exact w.elim
  · rename_i d k hne hne2
    simp only [R] at re; subst re
    split at w
    · rename_i a ha
      split at w
      · rename_i hz
        obtain ⟨p, vs, h1, h2, h3⟩ := asL_ok r.s rd ha
        exact op_rep pins s σ H _ _ v u Q I rx ry ⟨p, k, vs, h1, rfl, h2, hz.1, hz.2.1, by rw [h3.len]; exact hz.2.2, fun t ht => w.newL r (h3.rep _) ht⟩
      · exact w.elim
    · exact w.elim
  · exact w.elim
def divOk (j : Int) : Bool := decide (0 < j) && decide (j.natAbs.log2 < 9000)
def fdivD (d e : D) (st : Store) : Res D := match d, e with
  | .int i, .int j => if divOk j then .ok (.int (i / j)) st else .bad
  | _, _ => .bad
theorem divOk_iff {j : Int} (h : divOk j = true) : 0 < j ∧ j.natAbs.log2 < 9000 := by
  unfold divOk at h
  rw [Bool.and_eq_true] at h
  exact ⟨of_decide_eq_true h.1, of_decide_eq_true h.2⟩
theorem od_fdiv : OpD X G W (binaryOp .FloorDiv) fdivD := by
  intro pins s σ H x y v u Q I rx ry ⟨σ', env, F, ph, st, d, e, r, rd, re, w⟩
  unfold fdivD at w
  split at w
  · simp only [R] at rd re; subst rd; subst re
    split at w
    · rename_i hm
      exact op_fdivW pins s σ H _ _ v u Q I rx ry ⟨_, _, rfl, rfl, divOk_iff hm, w.fin r (by simp only [R])⟩
    · exact w.elim
  · exact w.elim
def modD (d e : D) (st : Store) : Res D := match d, e with
  | .int i, .int j => if 0 < j then .ok (.int (i % j)) st else .bad
  | _, _ => .bad
theorem od_mod : OpD X G W (binaryOp .Mod) modD := by
  intro pins s σ H x y v u Q I rx ry ⟨σ', env, F, ph, st, d, e, r, rd, re, w⟩
  unfold modD at w
  split at w
  · simp only [R] at rd re; subst rd; subst re
    split at w
    · rename_i hm
      exact op_mod pins s σ H _ _ v u Q I rx ry ⟨_, _, rfl, rfl, hm, w.fin r (by simp only [R])⟩
    · exact w.elim
  · exact w.elim
def powD (d e : D) (st : Store) : Res D := match d, e with
  | .int i, .int j => if 0 ≤ j ∧ j ≤ 1000000 ∧ i.natAbs < 2 ^ 64 then .ok (.int (i ^ j.toNat)) st else .bad
  | _, _ => .bad
theorem od_pow : OpD X G W (binaryOp .Pow) powD := by
  intro pins s σ H x y v u Q I rx ry ⟨σ', env, F, ph, st, d, e, r, rd, re, w⟩
  unfold powD at w
  split at w
  · simp only [R] at rd re; subst rd; subst re
    split at w
    · rename_i hm
      exact op_pow pins s σ H _ _ v u Q I rx ry ⟨_, _, rfl, rfl, hm, w.fin r (by simp only [R])⟩
    · exact w.elim
  · exact w.elim
/-! ### order -/
def cmpI (p : Int → Int → Bool) (d e : D) (st : Store) : Res D := match d, e with
  | .int i, .int j => .ok (.bl (p i j)) st
  | _, _ => .bad
theorem od_cmpI {op : CmpOp} {p : Int → Int → Bool} (h : OpR X (compareOp op) (rI0 fun i j => .bl (p i j))) : OpD X G W (compareOp op) (cmpI p) := by
  intro pins s σ H x y v u Q I rx ry ⟨σ', env, F, ph, st, d, e, r, rd, re, w⟩
  unfold cmpI at w
  split at w
  · simp only [R] at rd re; subst rd; subst re
    exact h pins s σ H _ _ v u Q I rx ry ⟨_, _, rfl, rfl, w.fin r (by simp only [R])⟩
  · exact w.elim
abbrev ltD := cmpI fun i j => decide (i < j)
abbrev leD := cmpI fun i j => decide (i ≤ j)
abbrev gtD := cmpI fun i j => decide (j < i)
abbrev geD := cmpI fun i j => decide (j ≤ i)
theorem od_lt : OpD X G W (compareOp .Lt) ltD := od_cmpI op_lt
theorem od_le : OpD X G W (compareOp .LtE) leD := od_cmpI op_le
theorem od_gt : OpD X G W (compareOp .Gt) gtD := od_cmpI op_gt
theorem od_ge : OpD X G W (compareOp .GtE) geD := od_cmpI op_ge
/-- is None, is not None -/
def isNon : D → Bool
  | .non => true
  | _ => false
def isND (d e : D) (st : Store) : Res D := match e with
  | .non => .ok (.bl (isNon d)) st
  | _ => .bad
def notND (d e : D) (st : Store) : Res D := match e with
  | .non => .ok (.bl (!isNon d)) st
  | _ => .bad
theorem R.isNon {K : PySem.W.Frag} {F : Hp} {ph : List Addr} {d : D} {v : V} (h : R K G F ph d v) : decide (v = .non) = isNon d := by
  cases d <;> simp only [R] at h
  case non => subst h; rfl
  case bl => subst h; rfl
  case int => subst h; rfl
  case err => obtain ⟨a, d, rfl, _⟩ := h; rfl
  case str => subst h; rfl
  case cls => subst h; rfl
  case ty => subst h; rfl
  case lst => obtain ⟨a, _, rfl, _⟩ := h; rfl
  case tup => obtain ⟨a, _, rfl, _⟩ := h; rfl
  case ro => obtain ⟨a, _, rfl, _⟩ := h; rfl
  case dct => obtain ⟨a, _, rfl, _⟩ := h; rfl
  case ins => obtain ⟨a, _, _, rfl, _⟩ := h; rfl
  case cell => obtain ⟨a, rfl, _⟩ := h; rfl
theorem od_isN : OpD X G W (compareOp .Is) isND := by
  intro pins s σ H x y v u Q I rx ry ⟨σ', env, F, ph, st, d, e, r, rd, re, w⟩
  unfold isND at w
  split at w
  · simp only [R] at re; subst re
    exact op_isN pins s σ H _ _ v u Q I rx ry ⟨rfl, w.fin r (by simp only [R]; rw [R.isNon rd])⟩
  · exact w.elim
end
end Den

namespace Den
open PySem PySem.Spec PyProof.Rows L2

/-! ### plain data: to the library's data -/
def keyPy : Key → PyData
  | .inl i => .int i
  | .inr x => .str x
mutual
def toPyC (cel : Nat → Option PyData) : D → Option PyData
  | .non => some .none
  | .bl b => some (.bool b)
  | .int i => some (.int i)
  | .str x => some (.str x)
  | .lst ds => (toPyCs cel ds).map .list
  | .ro ds => (toPyCs cel ds).map .list
  | .tup ds => (toPyCs cel ds).map .tuple
  | .dct kvs => (toPyCk cel kvs).map .dict
  | .cell n => cel n
  | .ins _ _ => none
  | .cls _ => none
  | .ty _ => none
  | .err _ _ => none
def toPyCs (cel : Nat → Option PyData) : List D → Option (List PyData)
  | [] => some []
  | d :: ds => match toPyC cel d, toPyCs cel ds with
    | some p, some ps => some (p :: ps)
    | _, _ => none
def toPyCk (cel : Nat → Option PyData) : List (Key × D) → Option (List (PyData × PyData))
  | [] => some []
  | (k, d) :: ds => match toPyC cel d, toPyCk cel ds with
    | some p, some ps => some ((keyPy k, p) :: ps)
    | _, _ => none
end
def cel0 (st : Store) (n : Nat) : Option PyData := ((st[n]?).bind asC).bind fun ds => (toPyCs (fun _ => none) ds).map .list
abbrev toPy (st : Store) (d : D) : Option PyData := toPyC (cel0 st) d

/-- what can be reached: of the heap's data, or of the program's own -/
def Seen (K : PySem.W.Frag) (H : Hp) (b : Addr) : Prop := H b ≠ none ∨ K.lookup b ≠ none
/-! ### a value that is such data, by the heap -/
def Dat (S : Addr → Prop) (prog : Program) (w : World) (h : Heap) (u : Value) (p : PyData) : Prop :=
  (∃ as, Reads h u p as) ∧ (p.showable = true → p.shown.length ≤ sizeLine → ∃ bs, ReadAtMost h p.depth bs ∧ (∀ b ∈ bs, S b) ∧ ReprK prog w bs h p.depth u p.shown)
def DatAll (S : Addr → Prop) (prog : Program) (w : World) (h : Heap) (us : List Value) (ps : List PyData) : Prop :=
  (∃ as, ReadsAll h us ps as) ∧ (PyData.showableAll ps = true → (∀ t ∈ PyData.shownAll ps, t.length ≤ sizeLine) → ∃ bs, ReadAtMost h (PyData.depthAll ps) bs ∧ (∀ b ∈ bs, S b) ∧ ReprAllK prog w bs h (PyData.depthAll ps) us (PyData.shownAll ps))
section
variable {prog : Program} {w : World} {h : Heap} {S : Addr → Prop}
theorem DatAll.nil : DatAll S prog w h [] [] := ⟨⟨_, .nil⟩, fun _ _ => ⟨[], (fun _ z => nomatch z), (fun _ z => nomatch z), by simp only [PyData.shownAll]; exact .nil⟩⟩
theorem DatAll.cons {u : Value} {us : List Value} {p : PyData} {ps : List PyData} (a : Dat S prog w h u p) (b : DatAll S prog w h us ps) : DatAll S prog w h (u :: us) (p :: ps) := by
  obtain ⟨⟨as, r1⟩, s1⟩ := a
  obtain ⟨⟨bs, r2⟩, s2⟩ := b
  refine ⟨⟨_, .cons r1 r2⟩, fun hs hz => ?_⟩
  have hs' : p.showable = true ∧ PyData.showableAll ps = true := by simpa [PyData.showableAll] using hs
  obtain ⟨c1, m1, o1, k1⟩ := s1 hs'.1 (hz _ (by simp only [PyData.shownAll]; exact List.mem_cons_self ..))
  obtain ⟨c2, m2, o2, k2⟩ := s2 hs'.2 (fun t ht => hz t (by simp only [PyData.shownAll]; exact List.mem_cons_of_mem _ ht))
  refine ⟨c1 ++ c2, (m1.mono ?_).append (m2.mono ?_), fun b hb => (List.mem_append.mp hb).elim (o1 b) (o2 b), ?_⟩
  · simp only [PyData.depthAll]; exact Nat.le_max_left _ _
  · simp only [PyData.depthAll]; exact Nat.le_max_right _ _
  · simp only [PyData.depthAll, PyData.shownAll]
    exact .cons ((k1.more fun b hb => List.mem_append_left _ hb).level_le (Nat.le_max_left _ _)) (k2.more_le (fun b hb => List.mem_append_right _ hb) (Nat.le_max_right _ _))
theorem Dat.list {a : Addr} {o : Obj} {vs : List Value} {n : Nat} {ps : List PyData} (h1 : h.get? a = some o) (h2 : o.cls = .type "list") (h3 : o.data = .seq vs.toArray n) (ha : S a) (A : DatAll S prog w h vs ps) :
    Dat S prog w h (.ref a) (.list ps) := by
  obtain ⟨⟨as, r⟩, sh⟩ := A
  have rl : Reads h (.ref a) (.list ps) (a :: as) := .list h1 h2 h3 (by simpa using r)
  refine ⟨⟨_, rl⟩, fun hs hz => ?_⟩
  have hz' : (listText (PyData.shownAll ps)).length ≤ sizeLine := by simpa only [PyData.shown] using hz
  obtain ⟨bs, m, o1, k⟩ := sh (by simpa [PyData.showable] using hs) fun t ht => Nat.le_trans (listText_mem_le ht) hz'
  have hna : a ∉ bs := not_mem_of_deeper rl (by simp only [PyData.depth]; omega) m
  refine ⟨a :: bs, ReadAtMost.cons rl (by simp only [PyData.depth]; omega) m, fun b hb => (List.mem_cons.mp hb).elim (fun e => e ▸ ha) (o1 b), ?_⟩
  simp only [PyData.depth, PyData.shown]
  cases vs with
  | nil =>
    cases r
    simp only [PyData.shownAll, listText_nil]
    exact ReprK.listEmpty h1 h2 h3
  | cons x l => exact ReprK.list h1 h2 h3 hna (by simpa using k.length_eq) fun i y e => k.item i y (by simpa using e)
theorem Dat.tuple {a : Addr} {o : Obj} {vs : List Value} {n : Nat} {ps : List PyData} (h1 : h.get? a = some o) (h2 : o.cls = .type "tuple") (h3 : o.data = .seq vs.toArray n) (ha : S a) (A : DatAll S prog w h vs ps) :
    Dat S prog w h (.ref a) (.tuple ps) := by
  obtain ⟨⟨as, r⟩, sh⟩ := A
  have rl : Reads h (.ref a) (.tuple ps) as := .tuple h1 h2 h3 (by simpa using r)
  refine ⟨⟨_, rl⟩, fun hs hz => ?_⟩
  have hz' : (tupleText (PyData.shownAll ps)).length ≤ sizeLine := by simpa only [PyData.shown] using hz
  obtain ⟨bs, m, o1, k⟩ := sh (by simpa [PyData.showable] using hs) fun t ht => Nat.le_trans (tupleText_mem_le ht) hz'
  have hna : a ∉ bs := not_mem_of_deeper rl (by simp only [PyData.depth]; omega) m
  refine ⟨a :: bs, ReadAtMost.cons rl (by simp only [PyData.depth]; omega) m, fun b hb => (List.mem_cons.mp hb).elim (fun e => e ▸ ha) (o1 b), ?_⟩
  simp only [PyData.depth, PyData.shown]
  exact ReprK.tuple h1 h2 h3 hna (by simpa using k)
theorem Dat.dict {a : Addr} {o : Obj} {es : Array DictEntry} {n : Nat} {ps : List (PyData × PyData)} (h1 : h.get? a = some o) (h2 : o.cls = .type "dict") (h3 : o.data = .dict es n) (hy : (a == sysModules) = false)
    (ha : S a) (A : DatAll S prog w h (es.toList.map (·.key)) (ps.map (·.1))) (B : DatAll S prog w h (es.toList.map (·.val)) (ps.map (·.2))) : Dat S prog w h (.ref a) (.dict ps) := by
  obtain ⟨⟨as, r1⟩, s1⟩ := A
  obtain ⟨⟨bs, r2⟩, s2⟩ := B
  have rl : Reads h (.ref a) (.dict ps) (a :: as ++ bs) := .dict h1 h2 h3 r1 r2
  refine ⟨⟨_, rl⟩, fun hs hz => ?_⟩
  have hz' : (dictText (PyData.shownKv ps)).length ≤ sizeLine := by simpa only [PyData.shown] using hz
  obtain ⟨q1, q2⟩ := PyData.showableKv_split ps (by simpa [PyData.showable] using hs)
  obtain ⟨b1, m1, o1, k1⟩ := s1 q1 fun t ht => let ⟨p, hp, hl⟩ := PyData.shownKv_key_le ps t ht; Nat.le_trans hl (Nat.le_trans (dictText_mem_le hp) hz')
  obtain ⟨b2, m2, o2, k2⟩ := s2 q2 fun t ht => let ⟨p, hp, hl⟩ := PyData.shownKv_val_le ps t ht; Nat.le_trans hl (Nat.le_trans (dictText_mem_le hp) hz')
  have m : ReadAtMost h (PyData.depthKv ps) (b1 ++ b2) := (m1.mono (PyData.depthAll_keys_le ps)).append (m2.mono (PyData.depthAll_vals_le ps))
  have hna : a ∉ b1 ++ b2 := not_mem_of_deeper rl (by simp only [PyData.depth]; omega) m
  refine ⟨a :: (b1 ++ b2), ReadAtMost.cons rl (by simp only [PyData.depth]; omega) m, fun b hb => (List.mem_cons.mp hb).elim (fun e => e ▸ ha) fun hb => (List.mem_append.mp hb).elim (o1 b) (o2 b), ?_⟩
  simp only [PyData.depth, PyData.shown, PyData.shownKv_eq]
  exact ReprK.dict h1 h2 h3 hy hna (ReprEntriesK.of_two es.toList _ _
    (k1.more_le (fun b hb => List.mem_append_left _ hb) (PyData.depthAll_keys_le ps)) (k2.more_le (fun b hb => List.mem_append_right _ hb) (PyData.depthAll_vals_le ps)))
theorem Dat.flat {u : Value} {p : PyData} (r : Reads h u p []) (k : p.showable = true → p.shown.length ≤ sizeLine → ReprIs prog w u p.shown) : Dat S prog w h u p :=
  ⟨⟨_, r⟩, fun hs hz => ⟨[], (fun _ z => nomatch z), (fun _ z => nomatch z), .of_is (k hs hz) _ _ _⟩⟩
theorem Dat.non : Dat S prog w h .none .none := .flat .none fun _ _ => by simp only [PyData.shown]; exact ReprIs.none
theorem Dat.bool (b : Bool) : Dat S prog w h (.bool b) (.bool b) := .flat (.bool b) fun _ _ => by simp only [PyData.shown]; exact ReprIs.bool b
theorem Dat.int (i : Int) (t : Tok) : Dat S prog w h (.int i t) (.int i) := .flat (.int i t) fun hs _ => by simp only [PyData.shown]; exact ReprIs.int t (by simpa [PyData.showable] using hs)
theorem Dat.str (x : Str) (t : Tok) : Dat S prog w h (.str x t) (.str x) := .flat (.str x t) fun _ hz => by simp only [PyData.shown]; exact ReprIs.str x t (by simpa only [PyData.shown] using hz)

/-- a value's own road of being shown, whatever is guarded that isn't of it -/
structure ShB (S : Addr → Prop) (prog : Program) (w : World) (h₀ : Heap) (a : Addr) (d : PyData) (T idr : String) : Prop where
  slotRepr : SlotG T "__repr__" idr
  typeIs : ∀ s : Shared, (∀ b o, h₀.get? b = some o → s.heap.get? b = some o) → s.TypeIs (.ref a) T
  call : ∀ (A : Around) (g : List Code) (E : Value → Shared → Prop) (s : Shared) (Q : Value → Shared → Prop), A.guards = some g → (∀ b, S b → Clear g b) → A.units + d.depth < cLine → (∀ b o, h₀.get? b = some o → s.heap.get? b = some o) →
    (∀ h' u tk, (∀ b o, s.heap.get? b = some o → h'.get? b = some o) → Q (.str d.shown u) { s with heap := h', toks := tk }) → wpAny (model prog w) A (call (.builtin idr) [.ref a]) Q E s
/-- by the top's repr -/
theorem shows_list {a : Addr} {o : Obj} {vs : List Value} {n : Nat} {ps : List PyData} (h1 : h.get? a = some o) (h2 : o.cls = .type "list") (h3 : o.data = .seq vs.toArray n) (ha : S a) (A : DatAll S prog w h vs ps)
    (hs : (PyData.list ps).showable = true) (hz : (PyData.list ps).shown.length ≤ sizeLine) : ∃ T idr, ShB S prog w h a (.list ps) T idr := by
  obtain ⟨⟨as, r⟩, sh⟩ := A
  have rl : Reads h (.ref a) (.list ps) (a :: as) := .list h1 h2 h3 (by simpa using r)
  have hz' : (listText (PyData.shownAll ps)).length ≤ sizeLine := by simpa only [PyData.shown] using hz
  obtain ⟨bs, m, o1, k⟩ := sh (by simpa [PyData.showable] using hs) fun t ht => Nat.le_trans (listText_mem_le ht) hz'
  have hna : a ∉ bs := not_mem_of_deeper rl (by simp only [PyData.depth]; omega) m
  refine ⟨"list", "list.__repr__", F.slot_list_repr.toG, fun s hk0 => ⟨o, hk0 _ _ h1, h2⟩, fun A g E s Q hg hcl hu hk0 hQ => ?_⟩
  simp only [PyData.depth] at hu
  simp only [PyData.shown] at hQ
  cases vs with
  | nil =>
    cases r
    simp only [PyData.shownAll, listText_nil] at hQ
    exact call_list_repr_empty ⟨o, hk0 _ _ h1, h2⟩ (hk0 _ _ h1) h3 (hQ s.heap _ _ fun _ _ e => e)
  | cons x l => exact call_list_reprK h1 h2 h3 hna (by simpa using k.length_eq) (fun i y e => k.item i y (by simpa using e)) hg (fun b hb => hcl b ((List.mem_cons.mp hb).elim (fun e => e ▸ ha) (o1 b))) hu hk0 hQ hz'
theorem shows_tuple {a : Addr} {o : Obj} {vs : List Value} {n : Nat} {ps : List PyData} (h1 : h.get? a = some o) (h2 : o.cls = .type "tuple") (h3 : o.data = .seq vs.toArray n) (ha : S a) (A : DatAll S prog w h vs ps)
    (hs : (PyData.tuple ps).showable = true) (hz : (PyData.tuple ps).shown.length ≤ sizeLine) : ∃ T idr, ShB S prog w h a (.tuple ps) T idr := by
  obtain ⟨⟨as, r⟩, sh⟩ := A
  have rl : Reads h (.ref a) (.tuple ps) as := .tuple h1 h2 h3 (by simpa using r)
  have hz' : (tupleText (PyData.shownAll ps)).length ≤ sizeLine := by simpa only [PyData.shown] using hz
  obtain ⟨bs, m, o1, k⟩ := sh (by simpa [PyData.showable] using hs) fun t ht => Nat.le_trans (tupleText_mem_le ht) hz'
  have hna : a ∉ bs := not_mem_of_deeper rl (by simp only [PyData.depth]; omega) m
  refine ⟨"tuple", "tuple.__repr__", F.slot_tuple_repr, fun s hk0 => ⟨o, hk0 _ _ h1, h2⟩, fun A g E s Q hg hcl hu hk0 hQ => ?_⟩
  simp only [PyData.depth] at hu
  simp only [PyData.shown] at hQ
  exact call_tuple_reprK h1 h2 h3 hna (by simpa using k) hg (fun b hb => hcl b ((List.mem_cons.mp hb).elim (fun e => e ▸ ha) (o1 b))) hu hk0 hQ hz'
theorem shows_dict {a : Addr} {o : Obj} {es : Array DictEntry} {n : Nat} {ps : List (PyData × PyData)} (h1 : h.get? a = some o) (h2 : o.cls = .type "dict") (h3 : o.data = .dict es n) (hy : (a == sysModules) = false)
    (ha : S a) (A : DatAll S prog w h (es.toList.map (·.key)) (ps.map (·.1))) (B : DatAll S prog w h (es.toList.map (·.val)) (ps.map (·.2)))
    (hs : (PyData.dict ps).showable = true) (hz : (PyData.dict ps).shown.length ≤ sizeLine) : ∃ T idr, ShB S prog w h a (.dict ps) T idr := by
  obtain ⟨⟨as, r1⟩, s1⟩ := A
  obtain ⟨⟨bs, r2⟩, s2⟩ := B
  have rl : Reads h (.ref a) (.dict ps) (a :: as ++ bs) := .dict h1 h2 h3 r1 r2
  have hz' : (dictText (PyData.shownKv ps)).length ≤ sizeLine := by simpa only [PyData.shown] using hz
  obtain ⟨q1, q2⟩ := PyData.showableKv_split ps (by simpa [PyData.showable] using hs)
  obtain ⟨b1, m1, o1, k1⟩ := s1 q1 fun t ht => let ⟨p, hp, hl⟩ := PyData.shownKv_key_le ps t ht; Nat.le_trans hl (Nat.le_trans (dictText_mem_le hp) hz')
  obtain ⟨b2, m2, o2, k2⟩ := s2 q2 fun t ht => let ⟨p, hp, hl⟩ := PyData.shownKv_val_le ps t ht; Nat.le_trans hl (Nat.le_trans (dictText_mem_le hp) hz')
  have m : ReadAtMost h (PyData.depthKv ps) (b1 ++ b2) := (m1.mono (PyData.depthAll_keys_le ps)).append (m2.mono (PyData.depthAll_vals_le ps))
  have hna : a ∉ b1 ++ b2 := not_mem_of_deeper rl (by simp only [PyData.depth]; omega) m
  refine ⟨"dict", "dict.__repr__", F.slot_dict_repr, fun s hk0 => ⟨o, hk0 _ _ h1, h2⟩, fun A g E s Q hg hcl hu hk0 hQ => ?_⟩
  simp only [PyData.depth] at hu
  simp only [PyData.shown, PyData.shownKv_eq] at hQ
  exact call_dict_reprK h1 h2 h3 hy hna (ReprEntriesK.of_two es.toList _ _
    (k1.more_le (fun b hb => List.mem_append_left _ hb) (PyData.depthAll_keys_le ps)) (k2.more_le (fun b hb => List.mem_append_right _ hb) (PyData.depthAll_vals_le ps))) hg (fun b hb => hcl b ((List.mem_cons.mp hb).elim (fun e => e ▸ ha) fun hb => (List.mem_append.mp hb).elim (o1 b) (o2 b))) hu hk0 hQ (by rw [← PyData.shownKv_eq]; exact hz')
end

/-! ### D as such data -/
section
variable {X : Cx} {G : Nat → Addr} {pins : List (Addr × Obj)} {σ : L2.St} {H : Hp} {s : Shared} {F : Hp} {ph : List Addr} {cel : Nat → Option PyData}
theorem sql_ne {K : PySem.W.Frag} {H : Hp} {a : Addr} {vs : List V} (h : SqL K H a vs) : Seen K H a := by
  rcases h with q | ⟨o, _, _, q, _⟩
  · rcases q with q | ⟨_, q⟩
    · exact .inl (by rw [q]; exact Option.some_ne_none _)
    · exact .inl (by rw [q]; exact Option.some_ne_none _)
  · exact .inr (by rw [q]; exact Option.some_ne_none _)
theorem pairs_dat {kvs : List (Key × Value)} {es : List DictEntry} (hp : Pairs (mixKind X.prog X.w) es kvs) : ∀ {ps : List (PyData × PyData)}, ps.map (·.1) = kvs.map (fun kv => keyPy kv.1) → DatAll (Seen X.K H) X.prog X.w s.heap (es.map (·.key)) (ps.map (·.1)) := by
  induction hp with
  | nil => intro ps e; simp at e; subst e; exact DatAll.nil
  | @cons e kv es kvs h1 h2 h3 ih =>
    intro ps eq
    cases ps with
    | nil => simp at eq
    | cons p ps =>
      simp only [List.map_cons, List.cons.injEq] at eq
      simp only [List.map_cons]
      refine .cons ?_ (ih eq.2)
      rw [eq.1]
      rw [mixKind_is] at h1
      rcases keyIs_shape h1 with ⟨i, t, e1, e2⟩ | ⟨x, t, e1, e2⟩
      · rw [e1, e2]; exact Dat.int i t
      · rw [e1, e2]; exact Dat.str x t
theorem lst_obj {a : Addr} {vs : List V} (I : L2.Inv X pins σ H s) (h : H a = some (.lst vs)) : ∃ its o n, Vals vs its ∧ s.heap.get? a = some o ∧ o.cls = .type "list" ∧ o.data = .seq its.toArray n := by
  obtain ⟨its, r, ⟨o, n, e1, e2, _, e3⟩, _⟩ := I.list (SqL.of h)
  exact ⟨its, o, n, r, e1, e2, e3⟩
mutual
theorem dat_of (I : L2.Inv X pins σ H s) (sub : ∀ a o, F a = some o → H a = some o) (hc : ∀ n a p, ph[n]? = some a → cel n = some p → Dat (Seen X.K H) X.prog X.w s.heap (.ref a) p) :
    ∀ (d : D) (v : V) (u : Value) (p : PyData), R X.K G F ph d v → RelV v u → toPyC cel d = some p → Dat (Seen X.K H) X.prog X.w s.heap u p
  | .non, v, u, p, h, r, e => by
    simp only [R] at h; subst h; cases r; simp only [toPyC, Option.some.injEq] at e; subst e; exact Dat.non
  | .bl b, v, u, p, h, r, e => by
    simp only [R] at h; subst h; cases r; simp only [toPyC, Option.some.injEq] at e; subst e; exact Dat.bool b
  | .int i, v, u, p, h, r, e => by
    simp only [R] at h; subst h; obtain ⟨t, rfl⟩ := r; simp only [toPyC, Option.some.injEq] at e; subst e; exact Dat.int i t
  | .str x, v, u, p, h, r, e => by
    simp only [R] at h; subst h; obtain ⟨t, rfl⟩ := r; simp only [toPyC, Option.some.injEq] at e; subst e; exact Dat.str x t
  | .lst ds, v, u, p, h, r, e => by
    simp only [R] at h
    obtain ⟨a, vs, rfl, h2, h3⟩ := h
    cases r
    simp only [toPyC, Option.map_eq_some_iff] at e
    obtain ⟨ps, e1, rfl⟩ := e
    obtain ⟨its, o, n, rv, g1, g2, g3⟩ := lst_obj I (sub _ _ h2)
    exact Dat.list g1 g2 g3 (.inl (by rw [sub _ _ h2]; exact Option.some_ne_none _)) (dats_of I sub hc ds vs its ps h3 rv e1)
  | .ro ds, v, u, p, h, r, e => by
    simp only [R] at h
    obtain ⟨a, vs, rfl, h2, h3⟩ := h
    cases r
    simp only [toPyC, Option.map_eq_some_iff] at e
    obtain ⟨ps, e1, rfl⟩ := e
    obtain ⟨its, rv, ⟨o, n, g1, g2, _, g3⟩, _⟩ := I.list (Same.seq sub h2)
    exact Dat.list g1 g2 g3 (sql_ne (Same.seq sub h2)) (dats_of I sub hc ds vs its ps h3 rv e1)
  | .tup ds, v, u, p, h, r, e => by
    simp only [R] at h
    obtain ⟨a, vs, rfl, h2, h3⟩ := h
    cases r
    simp only [toPyC, Option.map_eq_some_iff] at e
    obtain ⟨ps, e1, rfl⟩ := e
    obtain ⟨its, rv, ⟨o, g1, g2, n, g3⟩, _⟩ := I.tuple (SqT.of (sub _ _ h2))
    exact Dat.tuple g1 g2 g3 (.inl (by rw [sub _ _ h2]; exact Option.some_ne_none _)) (dats_of I sub hc ds vs its ps h3 rv e1)
  | .dct kvs, v, u, p, h, r, e => by
    simp only [R] at h
    obtain ⟨a, ws, rfl, h2, h3⟩ := h
    cases r
    simp only [toPyC, Option.map_eq_some_iff] at e
    obtain ⟨ps, e1, rfl⟩ := e
    obtain ⟨hz, hy, vs, kv, o, es, ep, g1, g2, g3, _, g4, _⟩ := (show ObjOk X.prog X.w H s.heap a (.dK ws) from I.hok a _ (sub _ _ h2))
    obtain ⟨q1, q2⟩ := datk_of I sub hc kvs ws vs es.toList ps h3 kv g4 e1
    exact Dat.dict g1 g2.1 g3 hy (.inl (by rw [sub _ _ h2]; exact Option.some_ne_none _)) (pairs_dat g4 q1) q2
  | .cell n, v, u, p, h, r, e => by
    simp only [R] at h
    obtain ⟨a, rfl, h2⟩ := h
    cases r
    simp only [toPyC] at e
    exact hc n a p h2 e
  | .ins _ _, v, u, p, h, r, e => by simp only [toPyC] at e; cases e
  | .cls _, v, u, p, h, r, e => by simp only [toPyC] at e; cases e
  | .ty _, v, u, p, h, r, e => by simp only [toPyC] at e; cases e
  | .err _ _, v, u, p, h, r, e => by simp only [toPyC] at e; cases e
theorem dats_of (I : L2.Inv X pins σ H s) (sub : ∀ a o, F a = some o → H a = some o) (hc : ∀ n a p, ph[n]? = some a → cel n = some p → Dat (Seen X.K H) X.prog X.w s.heap (.ref a) p) :
    ∀ (ds : List D) (vs : List V) (us : List Value) (ps : List PyData), Rs X.K G F ph ds vs → Vals vs us → toPyCs cel ds = some ps → DatAll (Seen X.K H) X.prog X.w s.heap us ps
  | [], vs, us, ps, h, r, e => by
    simp only [Rs] at h; subst h; cases r; simp only [toPyCs, Option.some.injEq] at e; subst e; exact DatAll.nil
  | d :: ds, vs, us, ps, h, r, e => by
    simp only [Rs] at h
    obtain ⟨v, ws, rfl, h2, h3⟩ := h
    cases r with
    | cons r1 r2 =>
      simp only [toPyCs] at e
      split at e
      · rename_i p qs e1 e2
        cases e
        exact .cons (dat_of I sub hc d v _ p h2 r1 e1) (dats_of I sub hc ds ws _ qs h3 r2 e2)
      · cases e
theorem datk_of (I : L2.Inv X pins σ H s) (sub : ∀ a o, F a = some o → H a = some o) (hc : ∀ n a p, ph[n]? = some a → cel n = some p → Dat (Seen X.K H) X.prog X.w s.heap (.ref a) p) :
    ∀ (ds : List (Key × D)) (ws : List (Key × V)) (us : List (Key × Value)) (es : List DictEntry) (ps : List (PyData × PyData)), Rk X.K G F ph ds ws → KV ws us → Pairs (mixKind X.prog X.w) es us → toPyCk cel ds = some ps →
      ps.map (·.1) = us.map (fun kv => keyPy kv.1) ∧ DatAll (Seen X.K H) X.prog X.w s.heap (es.map (·.val)) (ps.map (·.2))
  | [], ws, us, es, ps, h, r, g, e => by
    simp only [Rk] at h; subst h; cases r; cases g; simp only [toPyCk, Option.some.injEq] at e; subst e; exact ⟨rfl, DatAll.nil⟩
  | (k, d) :: ds, ws, us, es, ps, h, r, g, e => by
    simp only [Rk] at h
    obtain ⟨v, vs, rfl, h2, h3⟩ := h
    cases r with
    | @cons _ b _ us' r1 r2 =>
      obtain ⟨kb, ub⟩ := b
      obtain ⟨ek, rv⟩ := r1
      simp only at ek rv
      subst ek
      cases g with
      | @cons en _ es' _ g1 g2 g3 =>
        simp only [toPyCk] at e
        split at e
        · rename_i p qs e1 e2
          cases e
          obtain ⟨i1, i2⟩ := datk_of I sub hc ds vs us' es' qs h3 r2 g3 e2
          refine ⟨by simp [i1], ?_⟩
          simp only [List.map_cons]
          rw [g2]
          exact .cons (dat_of I sub hc d v ub p h2 rv e1) i2
        · cases e
end
theorem cel0_ok (I : L2.Inv X pins σ H s) {st : Store} (r : RelS X.K G F ph st H) : ∀ n a p, ph[n]? = some a → cel0 st n = some p → Dat (Seen X.K H) X.prog X.w s.heap (.ref a) p := by
  intro n a p h1 h2
  unfold cel0 at h2
  obtain ⟨ds, e1, e2⟩ := Option.bind_eq_some_iff.mp h2
  obtain ⟨ps, e3, rfl⟩ := Option.map_eq_some_iff.mp e2
  obtain ⟨b, vs, q, hb, rs⟩ := asL_ok r (d := .cell n) (v := .ref a) (ds := ds) (by simp only [R]; exact ⟨a, rfl, h1⟩) (by simp only [asL]; exact e1)
  cases q
  obtain ⟨its, o, m, rv, g1, g2, g3⟩ := lst_obj I hb
  exact Dat.list g1 g2 g3 (.inl (by rw [hb]; exact Option.some_ne_none _)) (dats_of I r.sub (cel := fun _ => none) (fun _ _ _ _ z => by cases z) ds vs its ps rs rv e3)
theorem dat {d : D} {v : V} {u : Value} {p : PyData} {st : Store} (I : L2.Inv X pins σ H s) (r : RelS X.K G F ph st H) (h : R X.K G F ph d v) (rv : RelV v u) (e : toPy st d = some p) : Dat (Seen X.K H) X.prog X.w s.heap u p :=
  dat_of I r.sub (cel0_ok I r) d v u p h rv e
/-- a value at an address, by the top's repr -/
theorem shows {d : D} {a : Addr} {p : PyData} {st : Store} (I : L2.Inv X pins σ H s) (r : RelS X.K G F ph st H) (h : R X.K G F ph d (.ref a)) (e : toPy st d = some p) (hs : p.showable = true) (hz : p.shown.length ≤ sizeLine) :
    ∃ T idr, ShB (Seen X.K H) X.prog X.w s.heap a p T idr := by
  have hc := cel0_ok I r
  cases d with
  | lst ds =>
    simp only [R] at h
    obtain ⟨b, vs, q, h2, h3⟩ := h
    cases q
    simp only [toPy, toPyC, Option.map_eq_some_iff] at e
    obtain ⟨ps, e1, rfl⟩ := e
    obtain ⟨its, o, n, rv, g1, g2, g3⟩ := lst_obj I (r.sub _ _ h2)
    exact shows_list g1 g2 g3 (.inl (by rw [r.sub _ _ h2]; exact Option.some_ne_none _)) (dats_of I r.sub hc ds vs its ps h3 rv e1) hs hz
  | ro ds =>
    simp only [R] at h
    obtain ⟨b, vs, q, h2, h3⟩ := h
    cases q
    simp only [toPy, toPyC, Option.map_eq_some_iff] at e
    obtain ⟨ps, e1, rfl⟩ := e
    obtain ⟨its, rv, ⟨o, n, g1, g2, _, g3⟩, _⟩ := I.list (Same.seq r.sub h2)
    exact shows_list g1 g2 g3 (sql_ne (Same.seq r.sub h2)) (dats_of I r.sub hc ds vs its ps h3 rv e1) hs hz
  | tup ds =>
    simp only [R] at h
    obtain ⟨b, vs, q, h2, h3⟩ := h
    cases q
    simp only [toPy, toPyC, Option.map_eq_some_iff] at e
    obtain ⟨ps, e1, rfl⟩ := e
    obtain ⟨its, rv, ⟨o, g1, g2, n, g3⟩, _⟩ := I.tuple (SqT.of (r.sub _ _ h2))
    exact shows_tuple g1 g2 g3 (.inl (by rw [r.sub _ _ h2]; exact Option.some_ne_none _)) (dats_of I r.sub hc ds vs its ps h3 rv e1) hs hz
  | dct kvs =>
    simp only [R] at h
    obtain ⟨b, ws, q, h2, h3⟩ := h
    cases q
    simp only [toPy, toPyC, Option.map_eq_some_iff] at e
    obtain ⟨ps, e1, rfl⟩ := e
    obtain ⟨_, hy, vs, kv, o, es, ep, g1, g2, g3, _, g4, _⟩ := (show ObjOk X.prog X.w H s.heap a (.dK ws) from I.hok a _ (r.sub _ _ h2))
    obtain ⟨q1, q2⟩ := datk_of I r.sub hc kvs ws vs es.toList ps h3 kv g4 e1
    exact shows_dict g1 g2.1 g3 hy (.inl (by rw [r.sub _ _ h2]; exact Option.some_ne_none _)) (pairs_dat g4 q1) q2 hs hz
  | cell n =>
    simp only [toPy, toPyC] at e
    unfold cel0 at e
    obtain ⟨ds, e1, e2⟩ := Option.bind_eq_some_iff.mp e
    obtain ⟨ps, e3, rfl⟩ := Option.map_eq_some_iff.mp e2
    obtain ⟨b, vs, q, hb, rs⟩ := asL_ok r (d := .cell n) (ds := ds) h (by simp only [asL]; exact e1)
    cases q
    obtain ⟨its, o, m, rv, g1, g2, g3⟩ := lst_obj I hb
    exact shows_list g1 g2 g3 (.inl (by rw [hb]; exact Option.some_ne_none _)) (dats_of I r.sub (cel := fun _ => none) (fun _ _ _ _ z => by cases z) ds vs its ps rs rv e3) hs hz
  | non => simp only [R] at h; cases h
  | bl _ => simp only [R] at h; cases h
  | int _ => simp only [R] at h; cases h
  | str _ => simp only [R] at h; cases h
  | ins _ _ => simp only [toPy, toPyC] at e; cases e
  | cls _ => simp only [toPy, toPyC] at e; cases e
  | ty _ => simp only [toPy, toPyC] at e; cases e
  | err _ _ => simp only [toPy, toPyC] at e; cases e
end
section
variable {K : PySem.W.Frag} {G : Nat → Addr} {F : Hp} {ph : List Addr} {d : D}
theorem R.inv_non (h : R K G F ph d .non) : d = .non := by cases d <;> simp [R] at h <;> rfl
theorem R.inv_bl {b : Bool} (h : R K G F ph d (.bl b)) : d = .bl b := by cases d <;> simp [R] at h; rw [h]
theorem R.inv_int {i : Int} (h : R K G F ph d (.int i)) : d = .int i := by cases d <;> simp [R] at h; rw [h]
theorem R.inv_str {x : Str} (h : R K G F ph d (.str x)) : d = .str x := by cases d <;> simp [R] at h; rw [h]
theorem R.inv_ty {x : String} (h : R K G F ph d (.ty x)) : d = .ty x := by cases d <;> simp [R] at h; rw [h]
theorem R.inv_byt {x : Array UInt8} (h : R K G F ph d (.byt x)) : False := by cases d <;> simp [R] at h
theorem R.inv_flt {x : UInt64} (h : R K G F ph d (.flt x)) : False := by cases d <;> simp [R] at h
end
/-! ### repr -/
/-- what is guarded around is out of sight -/
def GOk (K : PySem.W.Frag) (A : Around) (ex : List Addr) (H : Hp) (h : Heap) : Prop := ∃ g, A.guards = some g ∧ ∀ b, Clear g b ∨ (H b = none ∧ K.lookup b = none ∧ b ∉ ex ∧ ∃ o, h.get? b = some o)
abbrev Gd (X : Cx) : Prop := GOk X.K X.A X.ex X.H_0 X.s_0.heap
section
variable {K : PySem.W.Frag} {A A' : Around} {fs ex : List Addr} {H H' : Hp} {h h' : Heap}
theorem GOk.nil (e : A.guards = some []) : GOk K A ex H h := ⟨[], e, fun b => .inl (Clear.nil b)⟩
theorem GOk.around (g : GOk K A ex H h) (e : A'.guards = A.guards) : GOk K A' ex H h := let ⟨c, c1, c2⟩ := g; ⟨c, e.trans c1, c2⟩
theorem GOk.clear (g : GOk K A ex H h) : ∃ c, A.guards = some c ∧ ∀ b, Seen K H b → Clear c b :=
  let ⟨c, c1, c2⟩ := g; ⟨c, c1, fun b n => (c2 b).elim id fun q => n.elim (fun z => absurd q.1 z) fun z => absurd q.2.1 z⟩
theorem GOk.later (g : GOk K A ex H h) (u : Un fs ex H H' h h') : GOk K A ex H' h' := by
  obtain ⟨c, c1, c2⟩ := g
  exact ⟨c, c1, fun b => (c2 b).imp id fun ⟨q1, q4, q2, o, q3⟩ => ⟨u.free b o q3 q1 q2, q4, q2, u.there b o q3 q2⟩⟩
end
def reprOk (p : PyData) : Bool := p.showable && decide (p.shown.length ≤ sizeLine) && decide (p.depth ≤ 60)
def reprF (d : D) (st : Store) : Res D := match toPy st d with
  | some p => if reprOk p then .ok (.str p.shown) st else .bad
  | none => .bad
section
variable {X : Cx} {G : Nat → Addr} {W : WX}
theorem call_reprG (hg : Gd X) (hu : X.A.units + 64 < cLine) : CallR X (.builtin "repr") (fun xs H Q => ∃ x, xs = [x] ∧ rU1 X.K G W reprF x H Q) := by
  intro pins s σ H xs us Q I rs ⟨x, e, σ', env, F, ph, st, d, r, rv, w⟩
  subst e
  obtain ⟨u, rfl, rx⟩ := vals1 rs
  unfold reprF at w
  split at w
  · rename_i p hp
    split at w
    · rename_i hok
      unfold reprOk at hok
      simp only [Bool.and_eq_true, decide_eq_true_eq] at hok
      obtain ⟨⟨h1, h2⟩, h3⟩ := hok
      have q : ∀ H', H' = H → Q (.str p.shown) H' := fun H' e => by subst e; exact w.fin r (by simp only [R])
      cases x with
      | ref a =>
        cases rx
        obtain ⟨T, idr, S⟩ := shows I r.s rv hp h1 h2
        obtain ⟨gs, gg, gc⟩ := (GOk.later hg I.base).clear
        exact call_repr_slot (by omega) (S.typeIs s fun _ _ e => e) S.slotRepr (S.call X.A.in1 gs X.xe s _ (by simpa using gg) gc (by show X.A.units + 1 + p.depth < cLine; omega) (fun _ _ e => e)
          fun h' u tk hk => ⟨_, _, rfl, ⟨.str p.shown, H, I.kept hk, ⟨_, rfl⟩, q H rfl⟩⟩)
      | non =>
        cases rx
        cases R.inv_non rv
        simp only [toPy, toPyC, Option.some.injEq] at hp; subst hp
        exact P.repr_of_none ⟨.str _, H, I.tok _, ⟨s.toks, by simp only [PyData.shown]⟩, q H rfl⟩
      | bl b =>
        cases rx
        cases R.inv_bl rv
        simp only [toPy, toPyC, Option.some.injEq] at hp; subst hp
        exact P.repr_of_bool ⟨.str _, H, I.tok _, ⟨s.toks, by simp only [PyData.shown]⟩, q H rfl⟩
      | int i =>
        obtain ⟨t, rfl⟩ := rx
        cases R.inv_int rv
        simp only [toPy, toPyC, Option.some.injEq] at hp; subst hp
        exact P.repr_of_int (by simpa [PyData.showable] using h1) ⟨.str _, H, I.tok _, ⟨s.toks, by simp only [PyData.shown]⟩, q H rfl⟩
      | str y =>
        obtain ⟨t, rfl⟩ := rx
        cases R.inv_str rv
        simp only [toPy, toPyC, Option.some.injEq] at hp; subst hp
        exact P.repr_of_str ⟨.str _, H, I.tok _, ⟨s.toks, by simp only [PyData.shown]⟩, q H rfl⟩ (by simpa only [PyData.shown] using h2)
      | byt y => exact (R.inv_byt rv).elim
      | flt y => exact (R.inv_flt rv).elim
      | ty y => cases R.inv_ty rv; simp only [toPy, toPyC] at hp; cases hp
    · exact w.elim
  · exact w.elim
theorem call_repr (hg : X.A.guards = some []) (hu : X.A.units + 64 < cLine) : CallR X (.builtin "repr") (fun xs H Q => ∃ x, xs = [x] ∧ rU1 X.K G W reprF x H Q) := call_reprG (GOk.nil hg) hu
/-! ### == and != of data -/
def eqOk (p q : PyData) : Bool := SeqAt.shaped p && SeqAt.shaped q
def eqD (d e : D) (st : Store) : Res D := match d, e with
  | .str x, .str y => .ok (.bl (x == y)) st
  | d, e => match toPy st d, toPy st e with
    | some p, some q => if eqOk p q then .ok (.bl (PyData.eqv p q)) st else .bad
    | _, _ => .bad
def neD (d e : D) (st : Store) : Res D := match d, e with
  | .str x, .str y => .ok (.bl (!(x == y))) st
  | d, e => match toPy st d, toPy st e with
    | some p, some q => if eqOk p q then .ok (.bl (!PyData.eqv p q)) st else .bad
    | _, _ => .bad
theorem od_eq (hu : X.A.units + 64 < cLine) : OpD X G W (compareOp .Eq) eqD := by
  intro pins s σ H x y v u Q I rx ry ⟨σ', env, F, ph, st, d, e, r, rd, re, w⟩
  unfold eqD at w
  split at w
  · simp only [R] at rd re; subst rd; subst re
    exact op_eq pins s σ H _ _ v u Q I rx ry ⟨rfl, by rw [dec_str]; exact w.fin r (by simp only [R])⟩
  · rename_i hnn
    split at w
    · rename_i p q hp hq
      split at w
      · rename_i hok
        unfold eqOk at hok
        rw [Bool.and_eq_true] at hok
        obtain ⟨⟨as, r1⟩, _⟩ := dat I r.s rd rx hp
        obtain ⟨⟨bs, r2⟩, _⟩ := dat I r.s re ry hq
        exact SeqAt.compareEq_shaped r1 r2 hok.1 hok.2 hu ⟨.bl _, H, I, rfl, w.fin r (by simp only [R])⟩
      · exact w.elim
    · exact w.elim
theorem od_ne (hu : X.A.units + 64 < cLine) : OpD X G W (compareOp .NotEq) neD := by
  intro pins s σ H x y v u Q I rx ry ⟨σ', env, F, ph, st, d, e, r, rd, re, w⟩
  unfold neD at w
  split at w
  · simp only [R] at rd re; subst rd; subst re
    exact op_ne pins s σ H _ _ v u Q I rx ry ⟨rfl, by rw [dec_str]; exact w.fin r (by simp only [R])⟩
  · rename_i hnn
    split at w
    · rename_i p q hp hq
      split at w
      · rename_i hok
        unfold eqOk at hok
        rw [Bool.and_eq_true] at hok
        obtain ⟨⟨as, r1⟩, _⟩ := dat I r.s rd rx hp
        obtain ⟨⟨bs, r2⟩, _⟩ := dat I r.s re ry hq
        exact SeqAt.compareNe_shaped r1 r2 hok.1 hok.2 hu ⟨.bl _, H, I, rfl, w.fin r (by simp only [R])⟩
      · exact w.elim
    · exact w.elim
end
end Den

namespace Den
open PySem PySem.Spec PyProof.Rows L2

/-! ### the hand layer's own data -/
section
variable {K : PySem.W.Frag} {G : Nat → Addr} {H : Hp} {F : Hp} {ph : List Addr} {cel : Nat → Option PyData}
mutual
theorem dp_of (sub : ∀ a o, F a = some o → H a = some o) (hc : ∀ n a p, ph[n]? = some a → cel n = some p → p.canLay0 = true → Dp K H (.ref a) p) :
    ∀ (d : D) (v : V) (p : PyData), R K G F ph d v → toPyC cel d = some p → p.canLay0 = true → Dp K H v p
  | .non, v, p, h, e, _ => by simp only [R] at h; subst h; simp only [toPyC, Option.some.injEq] at e; subst e; exact .non
  | .bl b, v, p, h, e, _ => by simp only [R] at h; subst h; simp only [toPyC, Option.some.injEq] at e; subst e; exact .bl b
  | .int i, v, p, h, e, _ => by simp only [R] at h; subst h; simp only [toPyC, Option.some.injEq] at e; subst e; exact .int i
  | .str x, v, p, h, e, _ => by simp only [R] at h; subst h; simp only [toPyC, Option.some.injEq] at e; subst e; exact .str x
  | .lst ds, v, p, h, e, c => by
    simp only [R] at h
    obtain ⟨a, vs, rfl, h2, h3⟩ := h
    simp only [toPyC, Option.map_eq_some_iff] at e
    obtain ⟨ps, e1, rfl⟩ := e
    exact .lst (SqL.of (sub _ _ h2)) (dps_of sub hc ds vs ps h3 e1 (by simpa [PyData.canLay0] using c))
  | .ro ds, v, p, h, e, c => by
    simp only [R] at h
    obtain ⟨a, vs, rfl, h2, h3⟩ := h
    simp only [toPyC, Option.map_eq_some_iff] at e
    obtain ⟨ps, e1, rfl⟩ := e
    exact .lst (Same.seq sub h2) (dps_of sub hc ds vs ps h3 e1 (by simpa [PyData.canLay0] using c))
  | .tup ds, v, p, h, e, c => by
    simp only [R] at h
    obtain ⟨a, vs, rfl, h2, h3⟩ := h
    simp only [toPyC, Option.map_eq_some_iff] at e
    obtain ⟨ps, e1, rfl⟩ := e
    exact .tup (SqT.of (sub _ _ h2)) (dps_of sub hc ds vs ps h3 e1 (by simpa [PyData.canLay0] using c))
  | .dct kvs, v, p, h, e, c => by
    simp only [toPyC, Option.map_eq_some_iff] at e
    obtain ⟨ps, e1, rfl⟩ := e
    simp [PyData.canLay0] at c
  | .cell n, v, p, h, e, c => by
    simp only [R] at h
    obtain ⟨a, rfl, h2⟩ := h
    simp only [toPyC] at e
    exact hc n a p h2 e c
  | .ins _ _, v, p, h, e, _ => by simp only [toPyC] at e; cases e
  | .cls _, v, p, h, e, _ => by simp only [toPyC] at e; cases e
  | .ty _, v, p, h, e, _ => by simp only [toPyC] at e; cases e
  | .err _ _, v, p, h, e, _ => by simp only [toPyC] at e; cases e
theorem dps_of (sub : ∀ a o, F a = some o → H a = some o) (hc : ∀ n a p, ph[n]? = some a → cel n = some p → p.canLay0 = true → Dp K H (.ref a) p) :
    ∀ (ds : List D) (vs : List V) (ps : List PyData), Rs K G F ph ds vs → toPyCs cel ds = some ps → PyData.canLayAll0 ps = true → DpAll K H vs ps
  | [], vs, ps, h, e, _ => by simp only [Rs] at h; subst h; simp only [toPyCs, Option.some.injEq] at e; subst e; exact .nil
  | d :: ds, vs, ps, h, e, c => by
    simp only [Rs] at h
    obtain ⟨v, ws, rfl, h2, h3⟩ := h
    simp only [toPyCs] at e
    split at e
    · rename_i p qs e1 e2
      cases e
      have c' : p.canLay0 = true ∧ PyData.canLayAll0 qs = true := by simpa [PyData.canLayAll0] using c
      exact .cons (dp_of sub hc d v p h2 e1 c'.1) (dps_of sub hc ds ws qs h3 e2 c'.2)
    · cases e
end
theorem dp {d : D} {v : V} {p : PyData} {st : Store} (r : RelS K G F ph st H) (h : R K G F ph d v) (e : toPy st d = some p) (c : p.canLay0 = true) : Dp K H v p := by
  refine dp_of r.sub (fun n a q h1 h2 c2 => ?_) d v p h e c
  unfold cel0 at h2
  obtain ⟨ds, e1, e2⟩ := Option.bind_eq_some_iff.mp h2
  obtain ⟨ps, e3, rfl⟩ := Option.map_eq_some_iff.mp e2
  obtain ⟨b, vs, q, hb, rs⟩ := asL_ok r (d := .cell n) (v := .ref a) (ds := ds) (by simp only [R]; exact ⟨a, rfl, h1⟩) (by simp only [asL]; exact e1)
  cases q
  exact .lst (SqL.of hb) (dps_of r.sub (cel := fun _ => none) (fun _ _ _ _ z => by cases z) ds vs ps rs e3 (by simpa [PyData.canLay0] using c2))
end

section
variable {X : Cx} {G : Nat → Addr} {W : WX}
/-! ### in, not in -/
def inB (d e : D) (st : Store) : Option Bool := match d, e with
  | .str x, .str z => match x.cps.toList with
    | [c] => some (decide (c ∈ z.cps.toList))
    | _ => some (!(Builtin.Str.occurrences z x 0 z.length 1).isEmpty)
  | d, e => match toPy st d, toPy st e with
    | some p, some (.list qs) => if SeqAt.shaped p && SeqAt.shaped (.list qs) then some (qs.any fun z => PyData.eqv z p) else none
    | _, _ => none
def inD (d e : D) (st : Store) : Res D := match inB d e st with
  | some b => .ok (.bl b) st
  | none => .bad
def notInD (d e : D) (st : Store) : Res D := match inB d e st with
  | some b => .ok (.bl (!b)) st
  | none => .bad
theorem str_one {x : Str} {c : Nat} (h : x.cps.toList = [c]) : x = ⟨#[c]⟩ := Str.ext' (Array.toList_inj.mp (by simpa using h))
theorem od_in (hu : X.A.units + 65 < cLine) : OpD X G W (compareOp .In) inD := by
  intro pins s σ H x y v u Q I rx ry ⟨σ', env, F, ph, st, d, e, r, rd, re, w⟩
  unfold inD at w
  split at w
  · rename_i b hb
    unfold inB at hb
    split at hb
    · simp only [R] at rd re; subst rd; subst re
      split at hb
      · rename_i c hc
        cases hb
        cases str_one hc
        exact op_in_sign pins s σ H _ _ v u Q I rx ry ⟨c, _, rfl, rfl, w.fin r (by simp only [R])⟩
      · cases hb
        exact op_in_str pins s σ H _ _ v u Q I rx ry ⟨_, _, rfl, rfl, w.fin r (by simp only [R])⟩
    · split at hb
      · rename_i p qs hp hq
        split at hb
        · rename_i hs
          rw [Bool.and_eq_true] at hs
          cases hb
          exact op_inD hu pins s σ H _ _ v u Q I rx ry ⟨p, qs, dp r.s rd hp (SeqAt.canLay_of_shaped hs.1), dp r.s re hq (SeqAt.canLay_of_shaped hs.2), hs.1, hs.2, w.fin r (by simp only [R])⟩
        · cases hb
      · cases hb
  · exact w.elim
theorem od_notIn (hu : X.A.units + 65 < cLine) : OpD X G W (compareOp .NotIn) notInD := by
  intro pins s σ H x y v u Q I rx ry ⟨σ', env, F, ph, st, d, e, r, rd, re, w⟩
  unfold notInD at w
  split at w
  · rename_i b hb
    unfold inB at hb
    split at hb
    · simp only [R] at rd re; subst rd; subst re
      split at hb
      · rename_i c hc
        cases hb
        cases str_one hc
        exact op_notIn_sign pins s σ H _ _ v u Q I rx ry ⟨c, _, rfl, rfl, w.fin r (by simp only [R])⟩
      · cases hb
        exact op_notin_str pins s σ H _ _ v u Q I rx ry ⟨_, _, rfl, rfl, w.fin r (by simp only [R])⟩
    · split at hb
      · rename_i p qs hp hq
        split at hb
        · rename_i hs
          rw [Bool.and_eq_true] at hs
          cases hb
          exact op_notInD hu pins s σ H _ _ v u Q I rx ry ⟨p, qs, dp r.s rd hp (SeqAt.canLay_of_shaped hs.1), dp r.s re hq (SeqAt.canLay_of_shaped hs.2), hs.1, hs.2, w.fin r (by simp only [R])⟩
        · cases hb
      · cases hb
  · exact w.elim

/-! ### isinstance -/
inductive Tn where
  | ty (n : String)
  | cl (c : Nat)
def cellTy : Cell → Option Tn
  | .lst _ => some (.ty "list")
  | .fz (.lst _) => some (.ty "list")
  | .ins c _ => some (.cl c)
  | .fz (.ins c _) => some (.cl c)
  | _ => none
def tnOf (st : Store) : D → Option Tn
  | .non => some (.ty "NoneType")
  | .bl _ => some (.ty "bool")
  | .int _ => some (.ty "int")
  | .str _ => some (.ty "str")
  | .lst _ => some (.ty "list")
  | .tup _ => some (.ty "tuple")
  | .dct _ => some (.ty "dict")
  | .ins c _ => some (.cl c)
  | .cell n => (st[n]?).bind cellTy
  | _ => none
def tnV (G : Nat → Addr) : Tn → Value
  | .ty n => .type n
  | .cl c => .ref (G c)
/-- what a class of one's own must have so that isinstance reads its instances -/
structure InsCls (K : PySem.W.Frag) (C : Addr) : Prop where
  cl : Cls K C
  ha : PySem.W.findIn K (.ref C) "__class__" = some (some (.builtin "object.__class__"))
  hn : PySem.W.specialIn K (.builtin "object.__class__") "__get__" = some (some (.builtin "getset_descriptor.__get__"))
  ht : PySem.W.takesIn K (.builtin "object.__class__") = some true
  hm : PySem.W.mroIn K C (.type "object") = some true
theorem tn_ok {K : PySem.W.Frag} {F : Hp} {ph : List Addr} {st : Store} {H : Hp} {d : D} {v : V} {t : Tn} (r : RelS K G F ph st H) (rv : R K G F ph d v) (h : tnOf st d = some t) (hi : ∀ c, t = .cl c → InsCls K (G c)) : TyX K H v (tnV G t) := by
  cases d with
  | non => simp only [R] at rv; subst rv; cases h; exact .base .non
  | bl b => simp only [R] at rv; subst rv; cases h; exact .base (.bl b)
  | int b => simp only [R] at rv; subst rv; cases h; exact .base (.int b)
  | str b => simp only [R] at rv; subst rv; cases h; exact .base (.str b)
  | lst ds => simp only [R] at rv; obtain ⟨a, vs, rfl, h2, _⟩ := rv; cases h; exact .base (.lst (r.sub _ _ h2))
  | tup ds => simp only [R] at rv; obtain ⟨a, vs, rfl, h2, _⟩ := rv; cases h; exact .base (.tup (r.sub _ _ h2))
  | dct ds => simp only [R] at rv; obtain ⟨a, vs, rfl, h2, _⟩ := rv; cases h; exact .base (.dK (r.sub _ _ h2))
  | ins c fs =>
    simp only [R] at rv; obtain ⟨a, dx, ws, rfl, h2, _⟩ := rv; cases h
    have z := hi c rfl
    exact .base (.ins (r.sub _ _ h2) z.cl z.ha z.hn z.ht z.hm)
  | cell n =>
    simp only [R] at rv; obtain ⟨a, rfl, h2⟩ := rv
    simp only [tnOf] at h
    obtain ⟨c, e, h⟩ := Option.bind_eq_some_iff.mp h
    have ck := r.cells n c a e h2
    unfold cellTy at h
    split at h
    · cases h; obtain ⟨_, vs, x, _⟩ := ck; exact .base (.lst x)
    · cases h; obtain ⟨_, x⟩ := ck; simp only [R] at x; obtain ⟨b, vs, q, x2, _⟩ := x; cases q; exact .base (.lst (r.sub _ _ x2))
    · cases h; obtain ⟨_, dx, ws, x, _⟩ := ck; have z := hi _ rfl; exact .base (.ins x z.cl z.ha z.hn z.ht z.hm)
    · cases h; obtain ⟨_, x⟩ := ck; simp only [R] at x; obtain ⟨b, dx, ws, q, x2, _⟩ := x; cases q; have z := hi _ rfl; exact .base (.ins (r.sub _ _ x2) z.cl z.ha z.hn z.ht z.hm)
    · cases h
  | ro ds => simp only [tnOf] at h; cases h
  | cls _ => simp only [tnOf] at h; cases h
  | ty _ => simp only [tnOf] at h; cases h
  | err _ _ => simp only [tnOf] at h; cases h
/-- isinstance(x, T) by a table of answers -/
def isiD (isa : Tn → Option Bool) (ds : List D) (st : Store) : Res D := match ds with
  | d :: _ => match tnOf st d with
    | some t => match isa t with
      | some b => .ok (.bl b) st
      | none => .bad
    | none => .bad
  | _ => .bad
/-- what the table must be, for the class c (a value of the program) -/
structure Isa (K : PySem.W.Frag) (G : Nat → Addr) (c : D) (isa : Tn → Option Bool) : Prop where
  cv : ∀ F ph v, R K G F ph c v → ∃ u, ClsV v u ∧ ∀ t b, isa t = some b → PySem.W.kitOne K (tnV G t) u = some b
  ins : ∀ n b, isa (.cl n) = some b → InsCls K (G n)
def tyNames : List String := ["NoneType", "bool", "int", "str", "list", "tuple", "dict"]
def isaB (T : String) : Tn → Option Bool
  | .ty a => if tyNames.contains a then some (a == T || (a == "bool" && T == "int")) else none
  | .cl _ => none
theorem isaB_kit {K : PySem.W.Frag} {T : String} (h : ["bool", "int", "str", "list", "tuple", "dict"].contains T = true) {a : String} {b : Bool} (e : isaB T (.ty a) = some b) : PySem.W.kitOne K (.type a) (.type T) = some b := by
  have all : ∀ T ∈ ["bool", "int", "str", "list", "tuple", "dict"], ∀ a ∈ tyNames, kitB a T = some (a == T || (a == "bool" && T == "int")) := by decide +kernel
  unfold isaB at e
  simp only at e
  split at e
  · rename_i ha
    cases e
    exact kit_ty (all T (by simpa using h) a (by simpa using ha))
  · cases e
theorem isa_ty {K : PySem.W.Frag} {T : String} (h : ["bool", "int", "str", "list", "tuple", "dict"].contains T = true := by decide +kernel) : Isa K G (.ty T) (isaB T) where
  cv := fun F ph v hv => by
    simp only [R] at hv; subst hv
    exact ⟨.type T, .ty T, fun t b e => by
      cases t with
      | ty a => exact isaB_kit h e
      | cl c => simp only [isaB] at e; cases e⟩
  ins := fun n b e => by simp only [isaB] at e; cases e
/-! ### calls of built-ins by values -/
def rC (K : PySem.W.Frag) (G : Nat → Addr) (W : WX) (g : List D → Store → Res D) : List V → Hp → VK → Prop := fun xs H Q =>
  ∃ σ env F ph st ds, Rel K G F ph σ env st H ∧ Rs K G F ph ds xs ∧ want K G (R K G) W σ env Q F ph H (g ds st)
def CallD (X : Cx) (G : Nat → Addr) (W : WX) (f : Value) (g : List D → Store → Res D) : Prop := CallR X f (rC X.K G W g)
theorem args_imp {g : List D → Store → Res D} {f : DenA} {σ : L2.St} {H : Hp} {Q : VK} (h : rd X.K G (R X.K G) W (eArgs g f) σ H Q) : rd X.K G (Rs X.K G) W f σ H fun xs H1 => rC X.K G W g xs H1 Q := by
  obtain ⟨F, ph, env, st, r, w⟩ := h
  exact ⟨F, ph, env, st, r, w.bind fun ds st1 F1 p1 vs H1 e1 r1 rv w1 => ⟨σ, env, F1, p1, st1, ds, r1, rv, w1⟩⟩
theorem de_callB {x : Str} {id : String} {g : List D → Store → Res D} {f : DenA} {e : Expr} {es : List Expr} {p pos : Pos} (hc : CallD X G W (.builtin id) g) (hm : X.mg x = none) (hv : bootBuiltins x = some (.builtin id)) (ha : DA X G W (e :: es) f) (hg : Gl X x := by rfl)
    (hn : x ≠ "__name__" := by decide) (hdb : (x == ("__debug__" : Str)) = false := by decide)
    (he : starEach (e :: es) X.env = (false, eval e X.env) :: starEach es X.env := by rfl) (hpl : (backTo pos (starEach es X.env)).any (·.1) = false := by rfl) : DE X G W (.Call (.Name x p) (e :: es) [] pos) (eArgs g f) :=
  peImp (pe_callB hc hg hm hv ha hn hdb he hpl) fun _ _ _ h => args_imp h
theorem de_callT {x : Str} {T : String} {g : List D → Store → Res D} {f : DenA} {e : Expr} {es : List Expr} {p pos : Pos} (hc : CallD X G W (.type T) g) (hm : X.mg x = none) (hv : bootBuiltins x = some (.type T)) (ha : DA X G W (e :: es) f) (hg : Gl X x := by rfl)
    (hn : x ≠ "__name__" := by decide) (hdb : (x == ("__debug__" : Str)) = false := by decide)
    (he : starEach (e :: es) X.env = (false, eval e X.env) :: starEach es X.env := by rfl) (hpl : (backTo pos (starEach es X.env)).any (·.1) = false := by rfl) : DE X G W (.Call (.Name x p) (e :: es) [] pos) (eArgs g f) :=
  peImp (pe_callTy hc hg hm hv ha hn hdb he hpl) fun _ _ _ h => args_imp h
section
variable {K : PySem.W.Frag} {F : Hp} {ph : List Addr}
theorem Rs.inv1 {d : D} {xs : List V} (h : Rs K G F ph [d] xs) : ∃ v, xs = [v] ∧ R K G F ph d v := by
  simp only [Rs] at h
  obtain ⟨v, ws, rfl, h2, rfl⟩ := h
  exact ⟨v, rfl, h2⟩
theorem Rs.inv2 {d e : D} {xs : List V} (h : Rs K G F ph [d, e] xs) : ∃ v w, xs = [v, w] ∧ R K G F ph d v ∧ R K G F ph e w := by
  simp only [Rs] at h
  obtain ⟨v, ws, rfl, h2, w, ws', rfl, h3, rfl⟩ := h
  exact ⟨v, w, rfl, h2, h3⟩
end
/-- isinstance(x, C): the class is a constant of the call -/
def isi2 (c : D → Bool) (isa : Tn → Option Bool) (ds : List D) (st : Store) : Res D := match ds with
  | [d, e] => if c e then isiD isa [d] st else .bad
  | _ => .bad
def isTy (T : String) : D → Bool
  | .ty n => n == T
  | _ => false
def isCl (c : Nat) : D → Bool
  | .cls n => n == c
  | _ => false
theorem cd_isi {c : D} {cb : D → Bool} {isa : Tn → Option Bool} (hI : Isa X.K G c isa) (hcb : ∀ e, cb e = true → e = c) : CallD X G W (.builtin "isinstance") (isi2 cb isa) := by
  intro pins s σ H xs us Q I rs ⟨σ', env, F, ph, st, ds, r, rv, w⟩
  unfold isi2 at w
  split at w
  · rename_i d e
    split at w
    · rename_i he
      have ec := hcb e he
      subst ec
      obtain ⟨v, cv, rfl, r1, r2⟩ := rv.inv2
      obtain ⟨u, k1, k2⟩ := hI.cv F ph cv r2
      unfold isiD at w
      simp only at w
      split at w
      · rename_i t ht
        split at w
        · rename_i b hb
          exact call_isi pins s σ H _ us Q I rs ⟨v, cv, tnV G t, u, b, rfl, k1, tn_ok r.s r1 ht (fun n z => by subst z; exact hI.ins n b hb), k2 t b hb, w.fin r (by simp only [R])⟩
        · exact w.elim
      · exact w.elim
    · exact w.elim
  · exact w.elim
theorem cd_isiTy {T : String} (h : ["bool", "int", "str", "list", "tuple", "dict"].contains T = true := by decide +kernel) : CallD X G W (.builtin "isinstance") (isi2 (isTy T) (isaB T)) :=
  cd_isi (c := .ty T) (isa_ty h) fun e he => by
    cases e <;> simp only [isTy] at he <;> first | (cases he; done) | (rw [beq_iff_eq.mp he])
/-! ### len, abs, max, min, divmod, list, tuple, all, any -/
def lenD (ds : List D) (st : Store) : Res D := match ds with
  | [.str x] => if x.length ≤ sizeLine then .ok (.int x.length) st else .bad
  | [.tup a] => .ok (.int a.length) st
  | [d] => match asR st d with
    | some a => .ok (.int a.length) st
    | none => .bad
  | _ => .bad
theorem cd_len : CallD X G W (.builtin "len") lenD := by
  intro pins s σ H xs us Q I rs ⟨σ', env, F, ph, st, ds, r, rv, w⟩
  unfold lenD at w
  split at w
  · obtain ⟨v, rfl, r1⟩ := rv.inv1
    simp only [R] at r1; subst r1
    split at w
    · rename_i hz
      exact call_len pins s σ H _ us Q I rs ⟨_, _, rfl, ⟨hz, rfl⟩, w.fin r (by simp only [R])⟩
    · exact w.elim
  · rename_i a
    obtain ⟨v, rfl, r1⟩ := rv.inv1
    obtain ⟨p, vs, rfl, h2, h3⟩ := asT_ok r.s r1 (ds := a) rfl
    exact call_len pins s σ H _ us Q I rs ⟨_, vs.length, rfl, .inr ⟨vs, SqT.of h2, rfl⟩, w.fin r (by simp only [R]; rw [h3.len])⟩
  · rename_i d _ _
    obtain ⟨v, rfl, r1⟩ := rv.inv1
    split at w
    · rename_i a ha
      obtain ⟨p, vs, rfl, h2, h3⟩ := asR_ok r.s r1 ha
      exact call_len pins s σ H _ us Q I rs ⟨_, vs.length, rfl, .inl ⟨vs, h2, rfl⟩, w.fin r (by simp only [R]; rw [h3.len])⟩
    · exact w.elim
  · exact w.elim
def absD (ds : List D) (st : Store) : Res D := match ds with
  | [.int i] => .ok (.int (if i < 0 then -i else i)) st
  | _ => .bad
theorem cd_abs : CallD X G W (.builtin "abs") absD := by
  intro pins s σ H xs us Q I rs ⟨σ', env, F, ph, st, ds, r, rv, w⟩
  unfold absD at w
  split at w
  · obtain ⟨v, rfl, r1⟩ := rv.inv1
    simp only [R] at r1; subst r1
    exact call_abs pins s σ H _ us Q I rs ⟨_, rfl, w.fin r (by simp only [R])⟩
  · exact w.elim
def max2D (ds : List D) (st : Store) : Res D := match ds with
  | [.int i, .int j] => .ok (.int (if j > i then j else i)) st
  | _ => .bad
def min2D (ds : List D) (st : Store) : Res D := match ds with
  | [.int i, .int j] => .ok (.int (if j < i then j else i)) st
  | _ => .bad
theorem cd_max2 (hc : X.calm = true) : CallD X G W (.builtin "max") max2D := by
  intro pins s σ H xs us Q I rs ⟨σ', env, F, ph, st, ds, r, rv, w⟩
  unfold max2D at w
  split at w
  · obtain ⟨v, v', rfl, r1, r2⟩ := rv.inv2
    simp only [R] at r1 r2; subst r1; subst r2
    exact call_max2 hc pins s σ H _ us Q I rs ⟨_, _, rfl, w.fin r (by simp only [R])⟩
  · exact w.elim
theorem cd_min2 (hc : X.calm = true) : CallD X G W (.builtin "min") min2D := by
  intro pins s σ H xs us Q I rs ⟨σ', env, F, ph, st, ds, r, rv, w⟩
  unfold min2D at w
  split at w
  · obtain ⟨v, v', rfl, r1, r2⟩ := rv.inv2
    simp only [R] at r1 r2; subst r1; subst r2
    exact call_min2 hc pins s σ H _ us Q I rs ⟨_, _, rfl, w.fin r (by simp only [R])⟩
  · exact w.elim
def divmodD (ds : List D) (st : Store) : Res D := match ds with
  | [.int i, .int j] => if divOk j then .ok (.tup [.int (i / j), .int (i % j)]) st else .bad
  | _ => .bad
theorem cd_divmod : CallD X G W (.builtin "divmod") divmodD := by
  intro pins s σ H xs us Q I rs ⟨σ', env, F, ph, st, ds, r, rv, w⟩
  unfold divmodD at w
  split at w
  · obtain ⟨v, v', rfl, r1, r2⟩ := rv.inv2
    simp only [R] at r1 r2; subst r1; subst r2
    split at w
    · rename_i hd
      obtain ⟨h1, h2⟩ := divOk_iff hd
      refine call_divmodW pins s σ H _ us Q I rs ⟨_, _, rfl, ⟨h1, PyProof.noPylong_of_log2 h2⟩, fun p hp => w.newT r ?_ hp⟩
      simp only [Rs, R]
      exact ⟨_, _, rfl, rfl, _, _, rfl, rfl, rfl⟩
    · exact w.elim
  · exact w.elim
def listD (mk : List D → Store → Res D) (ds : List D) (st : Store) : Res D := match ds with
  | [.tup a] => mk a st
  | [d] => match asR st d with
    | some a => mk a st
    | none => .bad
  | _ => .bad
def okL (ds : List D) (st : Store) : Res D := .ok (.lst ds) st
def okC (ds : List D) (st : Store) : Res D := .ok (.cell st.length) (st ++ [.lst ds])
/-- the two ways to hold a new list -/
structure Mk1 (G : Nat → Addr) (W : WX) (mk : List D → Store → Res D) : Prop where
  new : ∀ {K : PySem.W.Frag} {σ : L2.St} {env : Env} {Q : VK} {F : Hp} {ph : List Addr} {st : Store} {H : Hp} {ds : List D} {vs : List V} {p : Addr}, want K G (R K G) W σ env Q F ph H (mk ds st) → Rel K G F ph σ env st H → Rs K G F ph ds vs → H p = none → Q (.ref p) (upd H p (.lst vs))
theorem mk1L : Mk1 G W okL := ⟨fun w r rs hp => want.newL w r rs hp⟩
theorem cd_list {mk : List D → Store → Res D} (M : Mk1 G W mk) : CallD X G W (.type "list") (listD mk) := by
  intro pins s σ H xs us Q I rs ⟨σ', env, F, ph, st, ds, r, rv, w⟩
  unfold listD at w
  split at w
  · rename_i a
    obtain ⟨v, rfl, r1⟩ := rv.inv1
    obtain ⟨p, vs, rfl, h2, h3⟩ := asT_ok r.s r1 (ds := a) rfl
    exact call_list_of pins s σ H _ us Q I rs ⟨p, vs, rfl, .inr (SqT.of h2), fun l hl => M.new w r h3 hl⟩
  · obtain ⟨v, rfl, r1⟩ := rv.inv1
    split at w
    · rename_i a ha
      obtain ⟨p, vs, rfl, h2, h3⟩ := asR_ok r.s r1 ha
      exact call_list_of pins s σ H _ us Q I rs ⟨p, vs, rfl, .inl h2, fun l hl => M.new w r h3 hl⟩
    · exact w.elim
  · exact w.elim
def tupleD (ds : List D) (st : Store) : Res D := match ds with
  | [.tup a] => .ok (.tup a) st
  | [d] => match asR st d with
    | some a => .ok (.tup a) st
    | none => .bad
  | _ => .bad
theorem cd_tuple : CallD X G W (.type "tuple") tupleD := by
  intro pins s σ H xs us Q I rs ⟨σ', env, F, ph, st, ds, r, rv, w⟩
  unfold tupleD at w
  split at w
  · rename_i a
    obtain ⟨v, rfl, r1⟩ := rv.inv1
    obtain ⟨p, vs, rfl, h2, h3⟩ := asT_ok r.s r1 (ds := a) rfl
    exact call_tuple_of pins s σ H _ us Q I rs ⟨p, vs, rfl, .inr ⟨SqT.of h2, w.fin r r1⟩⟩
  · obtain ⟨v, rfl, r1⟩ := rv.inv1
    split at w
    · rename_i a ha
      obtain ⟨p, vs, rfl, h2, h3⟩ := asR_ok r.s r1 ha
      exact call_tuple_of pins s σ H _ us Q I rs ⟨p, vs, rfl, .inl ⟨h2, fun l hl => w.newT r h3 hl⟩⟩
    · exact w.elim
  · exact w.elim
def bools : List D → Option (List Bool)
  | [] => some []
  | .bl b :: ds => (bools ds).map (b :: ·)
  | _ => none
theorem bools_ok {K : PySem.W.Frag} {F : Hp} {ph : List Addr} : ∀ {ds : List D} {vs : List V} {bs : List Bool}, Rs K G F ph ds vs → bools ds = some bs → vs = bs.map V.bl
  | [], vs, bs, h, e => by simp only [Rs] at h; subst h; simp only [bools, Option.some.injEq] at e; subst e; rfl
  | d :: ds, vs, bs, h, e => by
    cases d with
    | bl b =>
      simp only [Rs, R] at h
      obtain ⟨v, ws, rfl, rfl, h3⟩ := h
      simp only [bools, Option.map_eq_some_iff] at e
      obtain ⟨cs, e1, rfl⟩ := e
      rw [bools_ok h3 e1]; rfl
    | _ => simp only [bools] at e; cases e
def allD (q : List Bool → Bool) (ds : List D) (st : Store) : Res D := match ds with
  | [d] => match asR st d with
    | some a => match bools a with
      | some bs => .ok (.bl (q bs)) st
      | none => .bad
    | none => .bad
  | _ => .bad
theorem cd_all (hc : X.calm = true) : CallD X G W (.builtin "all") (allD fun bs => bs.all id) := by
  intro pins s σ H xs us Q I rs ⟨σ', env, F, ph, st, ds, r, rv, w⟩
  unfold allD at w
  split at w
  · obtain ⟨v, rfl, r1⟩ := rv.inv1
    split at w
    · rename_i a ha
      split at w
      · rename_i bs hb
        obtain ⟨p, vs, rfl, h2, h3⟩ := asR_ok r.s r1 ha
        cases bools_ok h3 hb
        exact cr_all hc pins s σ H _ us Q I rs ⟨p, bs, rfl, h2, w.fin r (by simp only [R])⟩
      · exact w.elim
    · exact w.elim
  · exact w.elim
def reprD (ds : List D) (st : Store) : Res D := match ds with
  | [d] => reprF d st
  | _ => .bad
theorem cd_repr (hg : X.A.guards = some []) (hu : X.A.units + 64 < cLine) : CallD X G W (.builtin "repr") reprD := by
  intro pins s σ H xs us Q I rs ⟨σ', env, F, ph, st, ds, r, rv, w⟩
  unfold reprD at w
  split at w
  · obtain ⟨v, rfl, r1⟩ := rv.inv1
    exact call_repr (G := G) (W := W) hg hu pins s σ H _ us Q I rs ⟨v, rfl, σ', env, F, ph, st, _, r, r1, w⟩
  · exact w.elim
end
end Den

namespace Den
open PySem PySem.Spec PyProof.Rows L2
section
variable {K : PySem.W.Frag} {G : Nat → Addr} {F : Hp} {ph : List Addr}
theorem Rs.atI {ds : List D} {vs : List V} {i : Int} {d : D} (h : Rs K G F ph ds vs) (e : L2.atI ds i = some d) : ∃ v, L2.atI vs i = some v ∧ R K G F ph d v := by
  unfold L2.atI at e ⊢
  rw [h.len]
  obtain ⟨j, e1, e2⟩ := Option.bind_eq_some_iff.mp e
  obtain ⟨v, e3, e4⟩ := h.get e2
  exact ⟨v, by rw [e1]; exact e3, e4⟩
def cutD (ds : List D) (lo hi : Option Int) : List D := (ds.drop (HT.sIx ds.length 0 lo)).take (HT.sIx ds.length ds.length hi - HT.sIx ds.length 0 lo)
theorem Rs.cut {ds : List D} {vs : List V} (h : Rs K G F ph ds vs) (lo hi : Option Int) : Rs K G F ph (cutD ds lo hi) (cutV vs lo hi) := by
  unfold cutD cutV
  rw [h.len]
  exact (h.drop _).take _
end
section
variable {X : Cx} {G : Nat → Addr} {W : WX}
/-! ### subscripts, slices -/
def ixD (d e : D) (st : Store) : Res D := match e with
  | .int i => match d with
    | .str z => if z.length ≤ sizeLine then match L2.atI z.cps.toList i with
        | some c => .ok (.str ⟨#[c]⟩) st
        | none => .bad
      else .bad
    | .tup a => match L2.atI a i with
      | some x => .ok x st
      | none => .bad
    | d => match asR st d with
      | some a => match L2.atI a i with
        | some x => .ok x st
        | none => .bad
      | none => .bad
  | _ => .bad
theorem ixr_d : IxR X (rO X.K G W ixD) := by
  intro value slice pins s σ H x y v u Q I rx ry ⟨σ', env, F, ph, st, d, e, r, rd, re, w⟩ hs
  unfold ixD at w
  split at w
  · rename_i i
    simp only [R] at re; subst re
    split at w
    · simp only [R] at rd; subst rd
      split at w
      · rename_i hz
        split at w
        · rename_i c hc
          exact ix_str value slice pins s σ H _ _ v u Q I rx ry ⟨_, i, c, rfl, rfl, hz, hc, w.fin r (by simp only [R])⟩ hs
        · exact w.elim
      · exact w.elim
    · rename_i a
      split at w
      · rename_i z hz
        obtain ⟨p, vs, rfl, h2, h3⟩ := asT_ok r.s rd (ds := a) rfl
        obtain ⟨v', e1, e2⟩ := h3.atI hz
        exact ix_tup value slice pins s σ H _ _ v u Q I rx ry ⟨p, vs, i, v', rfl, rfl, SqT.of h2, e1, w.fin r e2⟩ hs
      · exact w.elim
    · split at w
      · rename_i a ha
        split at w
        · rename_i z hz
          obtain ⟨p, vs, rfl, h2, h3⟩ := asR_ok r.s rd ha
          obtain ⟨v', e1, e2⟩ := h3.atI hz
          exact ix_list value slice pins s σ H _ _ v u Q I rx ry ⟨p, vs, i, v', rfl, rfl, h2, e1, w.fin r e2⟩ hs
        · exact w.elim
      · exact w.elim
  · exact w.elim
theorem de_ix {a b : Expr} {fa fb : DenE} {pos : Pos} (ha : DE X G W a fa) (hb : DE X G W b fb) (hs : PlainIx b := by intro _ _; rfl) : DE X G W (.Subscript a b pos) (eBin ixD fa fb) :=
  peImp (pe_ix ixr_d ha hb hs) fun _ _ _ h => bin_imp h

abbrev EqO : Hp → List Addr → Option Int → Option Int → Prop := fun _ _ a b => a = b
abbrev DenO := Env → Store → Res (Option Int)
def DO (X : Cx) (G : Nat → Addr) (W : WX) (e : Option Expr) (f : DenO) : Prop := PO X e (rd X.K G EqO W f)
def oNone : DenO := fun _ st => .ok none st
def oSome (f : DenE) : DenO := fun env st => (f env st).bind fun d st1 => match d with
  | .int i => .ok (some i) st1
  | _ => .bad
theorem do_none : DO X G W none oNone := ⟨fun p s σ H Q I ⟨F, ph, env, st, r, w⟩ => po_none.run p s σ H Q I (w.fin r rfl)⟩
theorem do_some {e : Expr} {f : DenE} (h : DE X G W e f) : DO X G W (some e) (oSome f) := ⟨fun p s σ H Q I ⟨F, ph, env, st, r, w⟩ => (po_some h).run p s σ H Q I ⟨F, ph, env, st, r, w.bind fun d st1 F1 p1 v H1 e1 r1 rv w1 => by
  cases d with
  | int i =>
    simp only [R] at rv
    exact ⟨i, rv, w1.fin r1 rfl⟩
  | _ => exact w1.elim⟩⟩
def slD (mk : List D → Store → Res D) (d : D) (lo hi : Option Int) (st : Store) : Res D := match d with
  | .str z => if z.length ≤ sizeLine then .ok (.str (cutS z lo hi)) st else .bad
  | .tup a => .ok (.tup (cutD a lo hi)) st
  | d => match asR st d with
    | some a => mk (cutD a lo hi) st
    | none => .bad
def eSl (mk : List D → Store → Res D) (fa : DenE) (fl fh : DenO) : DenE := fun env st => (fa env st).bind fun d st1 => (fl env st1).bind fun l st2 => (fh env st2).bind fun h st3 => slD mk d l h st3
theorem slr_d {mk : List D → Store → Res D} (M : Mk1 G W mk) : SlR X (fun x lo hi H Q => ∃ σ env F ph st d, Rel X.K G F ph σ env st H ∧ R X.K G F ph d x ∧ want X.K G (R X.K G) W σ env Q F ph H (slD mk d lo hi st)) := by
  intro pins s σ H x v vl vu lo hi sl Q I rx hs pl pu ⟨σ', env, F, ph, st, d, r, rd, w⟩
  unfold slD at w
  split at w
  · simp only [R] at rd; subst rd
    split at w
    · rename_i hz
      exact sl_str pins s σ H _ v vl vu lo hi sl Q I rx hs pl pu ⟨_, rfl, hz, w.fin r (by simp only [R])⟩
    · exact w.elim
  · rename_i a
    obtain ⟨p, vs, rfl, h2, h3⟩ := asT_ok r.s rd (ds := a) rfl
    refine sl_tupA pins s σ H _ v vl vu lo hi sl Q I rx hs pl pu ⟨p, vs, rfl, SqT.of h2, fun hw => ?_, fun hw q hq => w.newT r (h3.cut lo hi) hq⟩
    refine w.fin r ?_
    have e : cutD a lo hi = a := by
      unfold cutD
      rw [h3.len] at hw
      rw [hw.1, hw.2]
      simp
    rw [e]
    exact rd
  · split at w
    · rename_i a ha
      obtain ⟨p, vs, rfl, h2, h3⟩ := asR_ok r.s rd ha
      exact sl_list pins s σ H _ v vl vu lo hi sl Q I rx hs pl pu ⟨p, vs, rfl, h2, fun q hq => M.new w r (h3.cut lo hi) hq⟩
    · exact w.elim
theorem de_slice {mk : List D → Store → Res D} (M : Mk1 G W mk) {a : Expr} {lo hi : Option Expr} {fa : DenE} {fl fh : DenO} {pos p2 : Pos} (ha : DE X G W a fa) (hl : DO X G W lo fl) (hh : DO X G W hi fh) : DE X G W (.Subscript a (.Slice lo hi none p2) pos) (eSl mk fa fl fh) := by
  refine peImp (pe_slice (slr_d M) ha hl hh) fun σ H Q ⟨F, ph, env, st, r, w⟩ => ⟨F, ph, env, st, r, w.bind fun d st1 F1 p1 v H1 e1 r1 rv w1 => ⟨F1, p1, env, st1, r1, w1.bind fun l st2 F2 p2 v2 H2 e2 r2 rv2 w2 => ⟨F2, p2, env, st2, r2, w2.bind fun h st3 F3 p3 v3 H3 e3 r3 rv3 w3 => ?_⟩⟩⟩
  cases rv2; cases rv3
  exact ⟨σ, env, F3, p3, st3, d, r3, R.mono (e2.trans e3).x d v rv, w3⟩

/-! ### methods of built-in types -/
def tyChk (T : String) (st : Store) : D → Bool
  | .str _ => T == "str"
  | d => T == "list" && (asR st d).isSome
theorem tyChk_ok {K : PySem.W.Frag} {F : Hp} {ph : List Addr} {st : Store} {H : Hp} {d : D} {v : V} {T : String} (r : RelS K G F ph st H) (rv : R K G F ph d v) (h : tyChk T st d = true) : tyV K T v H := by
  unfold tyChk at h
  split at h
  · simp only [R] at rv; subst rv; exact beq_iff_eq.mp h
  · rw [Bool.and_eq_true] at h
    obtain ⟨a, ha⟩ := Option.isSome_iff_exists.mp h.2
    obtain ⟨p, vs, rfl, h2, h3⟩ := asR_ok r rv ha
    exact .inl ⟨beq_iff_eq.mp h.1, vs, h2⟩
def rM (K : PySem.W.Frag) (G : Nat → Addr) (W : WX) (g : D → List D → Store → Res D) : V → List V → Hp → VK → Prop := fun x xs H Q =>
  ∃ σ env F ph st d ds, Rel K G F ph σ env st H ∧ R K G F ph d x ∧ Rs K G F ph ds xs ∧ want K G (R K G) W σ env Q F ph H (g d ds st)
def MtD (X : Cx) (G : Nat → Addr) (W : WX) (id : String) (g : D → List D → Store → Res D) : Prop := MtR X id (rM X.K G W g)
def eM (T : String) (g : D → List D → Store → Res D) (fo : DenE) (fa : DenA) : DenE := fun env st => (fo env st).bind fun d st1 => if tyChk T st1 d then (fa env st1).bind fun ds st2 => g d ds st2 else .bad
theorem de_bm {T id : String} {name : Str} {g : D → List D → Store → Res D} {o e : Expr} {es : List Expr} {fo : DenE} {fa : DenA} {apos cpos : Pos} (hm : MtD X G W id g) (ho : DE X G W o fo) (ha : DA X G W (e :: es) fa)
    (pa : PlainAttrs T) (slot : Slot T name id) (hty : typeOf (.builtin id) = pure (.type "method_descriptor"))
    (hbase : attributeBase o name X.env (eval o X.env) = eval o X.env := by rfl)
    (hfew : ((backTo cpos (starEach (e :: es) X.env)).all (fun x => !x.1) && (backToKw cpos (keywordEach [] X.env)).all (fun x => x.1.isSome)
      && decide ((e :: es).length + ([] : List Keyword).length + (if ([] : List Keyword).isEmpty then 0 else 1) < 30)) = true := by rfl)
    (hline : (apos.endLine == cpos.line) = true := by rfl) (hs : starEach (e :: es) X.env = (false, eval e X.env) :: starEach es X.env := by rfl) (hplain : (backTo cpos (starEach es X.env)).any (·.1) = false := by rfl) :
    DE X G W (.Call (.Attribute o name apos) (e :: es) [] cpos) (eM T g fo fa) := by
  refine peImp (pe_bm pa slot hty hm ho ha hbase hfew hline hs hplain) fun σ H Q ⟨F, ph, env, st, r, w⟩ => ⟨F, ph, env, st, r, w.bind fun d st1 F1 p1 v H1 e1 r1 rv w1 => ?_⟩
  split at w1
  · rename_i hc
    exact ⟨tyChk_ok r1.s rv hc, F1, p1, env, st1, r1, w1.bind fun ds st2 F2 p2 vs H2 e2 r2 rvs w2 => ⟨σ, env, F2, p2, st2, d, ds, r2, R.mono e2.x d v rv, rvs, w2⟩⟩
  · exact w1.elim
/-- the cell of a list is changed -/
theorem want.put {K : PySem.W.Frag} {σ : L2.St} {env : Env} {Q : VK} {F : Hp} {ph : List Addr} {st : Store} {H : Hp} {n : Nat} {p : Addr} {d : D} {x : V} {ds : List D} {vs : List V} (w : want K G (R K G) W σ env Q F ph H (.ok d (st.set n (.lst ds)))) (r : Rel K G F ph σ env st H)
    (hn : ph[n]? = some p) (hF : F p = none) (rs : Rs K G F ph ds vs) (rx : R K G F ph d x) : Q x (upd H p (.lst vs)) := by
  obtain ⟨ex, rs'⟩ := r.s.put (o := .lst vs) (c := .lst ds) hn hF ⟨hF, vs, upd_same, rs⟩
  exact w F ph _ _ ex ⟨rs', r.e⟩ rx
def lstCell (st : Store) : D → Option (Nat × List D)
  | .cell n => match st[n]? with
    | some (.lst ds) => some (n, ds)
    | _ => none
  | _ => none
theorem lstCell_ok {K : PySem.W.Frag} {F : Hp} {ph : List Addr} {st : Store} {H : Hp} {d : D} {v : V} {n : Nat} {ds : List D} (r : RelS K G F ph st H) (rv : R K G F ph d v) (h : lstCell st d = some (n, ds)) :
    ∃ a vs, v = .ref a ∧ ph[n]? = some a ∧ F a = none ∧ H a = some (.lst vs) ∧ Rs K G F ph ds vs := by
  unfold lstCell at h
  split at h
  · split at h
    · rename_i ds' e
      cases h
      simp only [R] at rv
      obtain ⟨a, rfl, h2⟩ := rv
      obtain ⟨z, vs, h3, h4⟩ := r.cells _ _ a e h2
      exact ⟨a, vs, rfl, h2, z, h3, h4⟩
    · cases h
  · cases h
def appendD (d : D) (ds : List D) (st : Store) : Res D := match lstCell st d, ds with
  | some (n, xs), [e] => if xs.length < sizeLine then .ok .non (st.set n (.lst (xs ++ [e]))) else .bad
  | _, _ => .bad
theorem md_append : MtD X G W "list.append" appendD := by
  intro pins s σ H x xs v us Q I rx rs ⟨σ', env, F, ph, st, d, ds, r, rd, rds, w⟩
  unfold appendD at w
  split at w
  · rename_i n ys e hc
    split at w
    · rename_i hz
      obtain ⟨a, vs, rfl, h2, h3, h4, h5⟩ := lstCell_ok r.s rd hc
      obtain ⟨y, rfl, ry⟩ := rds.inv1
      exact mt_append pins s σ H _ _ v us Q I rx rs ⟨a, vs, y, rfl, rfl, h4, by rw [h5.len]; exact hz, w.put r h2 h3 (h5.app (Rs.one ry)) (by simp only [R])⟩
    · exact w.elim
  · exact w.elim
def reverseD (d : D) (ds : List D) (st : Store) : Res D := match lstCell st d, ds with
  | some (n, xs), [] => .ok .non (st.set n (.lst xs.reverse))
  | _, _ => .bad
def clearD (d : D) (ds : List D) (st : Store) : Res D := match lstCell st d, ds with
  | some (n, xs), [] => .ok .non (st.set n (.lst []))
  | _, _ => .bad
def strsOf : List D → Option (List Str)
  | [] => some []
  | .str x :: ds => (strsOf ds).map (x :: ·)
  | _ => none
theorem strsOf_ok {K : PySem.W.Frag} {F : Hp} {ph : List Addr} : ∀ {ds : List D} {vs : List V} {bs : List Str}, Rs K G F ph ds vs → strsOf ds = some bs → vs = bs.map V.str
  | [], vs, bs, h, e => by simp only [Rs] at h; subst h; simp only [strsOf, Option.some.injEq] at e; subst e; rfl
  | d :: ds, vs, bs, h, e => by
    cases d with
    | str b =>
      simp only [Rs, R] at h
      obtain ⟨v, ws, rfl, rfl, h3⟩ := h
      simp only [strsOf, Option.map_eq_some_iff] at e
      obtain ⟨cs, e1, rfl⟩ := e
      rw [strsOf_ok h3 e1]; rfl
    | _ => simp only [strsOf] at e; cases e
def joinD (d : D) (ds : List D) (st : Store) : Res D := match d, ds with
  | .str a, [e] => match asR st e with
    | some xs => match strsOf xs with
      | some ys => if (ys.map (·.length)).sum + ys.length * a.length ≤ 16777216 then .ok (.str (Txt.join a ys)) st else .bad
      | none => .bad
    | none => .bad
  | _, _ => .bad
theorem md_join : MtD X G W "str.join" joinD := by
  intro pins s σ H x xs v us Q I rx rs ⟨σ', env, F, ph, st, d, ds, r, rd, rds, w⟩
  unfold joinD at w
  split at w
  · simp only [R] at rd; subst rd
    obtain ⟨y, rfl, ry⟩ := rds.inv1
    split at w
    · rename_i ys hy
      split at w
      · rename_i zs hz
        split at w
        · rename_i hl
          obtain ⟨p, vs, rfl, h2, h3⟩ := asR_ok r.s ry hy
          cases strsOf_ok h3 hz
          exact mt_join pins s σ H _ _ v us Q I rx rs ⟨_, p, zs, rfl, rfl, .inl h2, hl, w.fin r (by simp only [R])⟩
        · exact w.elim
      · exact w.elim
    · exact w.elim
  · exact w.elim
/-! ### dict displays -/
theorem want.newD {K : PySem.W.Frag} {σ : L2.St} {env : Env} {Q : VK} {F : Hp} {ph : List Addr} {st : Store} {H : Hp} {kvs : List (Key × D)} {ws : List (Key × V)} {p : Addr} (w : want K G (R K G) W σ env Q F ph H (.ok (.dct kvs) st)) (r : Rel K G F ph σ env st H) (rs : Rk K G F ph kvs ws) (hp : H p = none) : Q (.ref p) (upd H p (.dK ws)) := by
  obtain ⟨ex, r'⟩ := r.s.lay (o := .dK ws) hp
  exact w _ _ _ _ ex ⟨r', r.e.mono ex.x⟩ (by simp only [R]; exact ⟨p, ws, rfl, upd_same, Rk.mono ex.x kvs ws rs⟩)
theorem de_dict0 {pos : Pos} : DE X G W (.Dict [] [] pos) (eK (.dct [])) :=
  peImp pe_dnewK fun σ H Q ⟨F, ph, env, st, r, w⟩ => fun p hp => w.newD r (by simp only [Rk]) hp
/-! ### a list's cell is locked for good -/
def frzC (d : D) (st : Store) : Res D := match d with
  | .cell n => match st[n]? with
    | some (.lst ds) => .ok (.lst ds) (st.set n (.fz (.lst ds)))
    | some (.fz (.lst ds)) => .ok (.lst ds) st
    | _ => .bad
  | d => .ok d st
def eFrz (f : DenE) : DenE := fun env st => (f env st).bind frzC
theorem de_frz {e : Expr} {f : DenE} (h : DE X G W e f) : DE X G W e (eFrz f) := by
  refine peImp h fun σ H Q ⟨F, ph, env, st, r, w⟩ => ⟨F, ph, env, st, r, w.bind fun d st1 F1 p1 v H1 e1 r1 rv w1 => ?_⟩
  unfold frzC at w1
  split at w1
  · rename_i n
    split at w1
    · rename_i ds e
      simp only [R] at rv
      obtain ⟨a, rfl, h2⟩ := rv
      obtain ⟨vs, ex, rs, rr⟩ := r1.s.freezeL h2 e
      exact w1 _ _ _ _ ex ⟨rs, r1.e.mono ex.x⟩ rr
    · rename_i ds e
      simp only [R] at rv
      obtain ⟨a, rfl, h2⟩ := rv
      obtain ⟨_, h3⟩ := r1.s.cells n _ a e h2
      exact w1.fin r1 h3
    · exact w1.elim
  · exact w1.fin r1 rv
end
end Den

namespace Den
open PySem PySem.Spec PyProof.Rows L2

/-! ### statements -/
abbrev DenS := Env → Store → SRes
section
variable (K : PySem.W.Frag) (G : Nat → Addr) (W : WX)
def wantS (E : Ends) (F : Hp) (ph : List Addr) (H : Hp) : SRes → Prop
  | .next env st => ∀ F' ph' σ' H', Ex F ph H F' ph' H' → Rel K G F' ph' σ' env st H' → E.nx σ' H'
  | .brk env st => ∀ F' ph' σ' H', Ex F ph H F' ph' H' → Rel K G F' ph' σ' env st H' → E.bk σ' H'
  | .cont env st => ∀ F' ph' σ' H', Ex F ph H F' ph' H' → Rel K G F' ph' σ' env st H' → E.ct σ' H'
  | .ret d st => ∀ F' ph' v H', Ex F ph H F' ph' H' → RelS K G F' ph' st H' → R K G F' ph' d v → E.rt v H'
  | .exc x env st => ∀ F' ph' dd σ' H', Ex F ph H F' ph' H' → Rel K G F' ph' σ' env st H' → XOk K G F' ph' x dd → W (.ref (G x.c)) dd σ' H'
  | .bad => False
def rdS (f : DenS) : TS := fun E σ H => ∃ F ph env st, Rel K G F ph σ env st H ∧ wantS K G W E F ph H (f env st)
end
theorem wantS.mono {K : PySem.W.Frag} {G : Nat → Addr} {W : WX} {E : Ends} {F F' : Hp} {ph ph' : List Addr} {H H' : Hp} {r : SRes} (e : Ex F ph H F' ph' H') (h : wantS K G W E F ph H r) : wantS K G W E F' ph' H' r := by
  cases r with
  | bad => exact h
  | next env st => exact fun F2 p2 v H2 e2 => h F2 p2 v H2 (e.trans e2)
  | brk env st => exact fun F2 p2 v H2 e2 => h F2 p2 v H2 (e.trans e2)
  | cont env st => exact fun F2 p2 v H2 e2 => h F2 p2 v H2 (e.trans e2)
  | ret d st => exact fun F2 p2 v H2 e2 => h F2 p2 v H2 (e.trans e2)
  | exc x env st => exact fun F2 p2 v s2 H2 e2 => h F2 p2 v s2 H2 (e.trans e2)
def DS (X : Cx) (G : Nat → Addr) (W : WX) (s : Stmt) (f : DenS) : Prop := PS X s (rdS X.K G W f)
def DSs (X : Cx) (G : Nat → Addr) (W : WX) (s : List Stmt) (f : DenS) : Prop := PSs X s (rdS X.K G W f)
/-- an expression's result handed on -/
def Res.andS {α : Type} (r : Res α) (env : Env) (k : α → Store → SRes) : SRes := match r with
  | .ok a st => k a st
  | .exc x st => .exc x env st
  | .bad => .bad
section
variable {X : Cx} {G : Nat → Addr} {W : WX}
theorem wantS.bind {K : PySem.W.Frag} {α β : Type} {RR : Hp → List Addr → α → β → Prop} {E : Ends} {σ : L2.St} {env : Env} {Q : β → Hp → Prop} {F : Hp} {ph : List Addr} {H : Hp} {r : Res α} {k : α → Store → SRes} (h : wantS K G W E F ph H (r.andS env k))
    (nx : ∀ d st1 F1 p1 v H1, Ex F ph H F1 p1 H1 → Rel K G F1 p1 σ env st1 H1 → RR F1 p1 d v → wantS K G W E F1 p1 H1 (k d st1) → Q v H1) : want K G RR W σ env Q F ph H r := by
  cases r with
  | ok d st => exact fun F1 p1 v H1 e r1 r2 => nx d st F1 p1 v H1 e r1 r2 (wantS.mono e h)
  | exc x st => exact fun F1 p1 dd H1 e r1 r2 => h F1 p1 dd σ H1 e r1 r2
  | bad => exact h
theorem wantS.fin {K : PySem.W.Frag} {E : Ends} {F : Hp} {ph : List Addr} {σ : L2.St} {env : Env} {st : Store} {H : Hp} (h : wantS K G W E F ph H (.next env st)) (r : Rel K G F ph σ env st H) : E.nx σ H := h F ph σ H (Ex.refl _ _ _) r
def sSeq (f g : DenS) : DenS := fun env st => match f env st with
  | .next env1 st1 => g env1 st1
  | r => r
def sNext : DenS := fun env st => .next env st
theorem dss_nil : DSs X G W [] sNext := pssImp pss_nil fun D σ H ⟨F, ph, env, st, r, w⟩ => w.fin r
theorem dss_one {s : Stmt} {f : DenS} (h : DS X G W s f) : DSs X G W [s] f := pss_one h
theorem dss_cons {s : Stmt} {rest : List Stmt} {f g : DenS} (h : DS X G W s f) (h2 : DSs X G W rest g) : DSs X G W (s :: rest) (sSeq f g) := by
  refine pssImp (pss_cons h h2) fun D σ H ⟨F, ph, env, st, r, w⟩ => ⟨F, ph, env, st, r, ?_⟩
  unfold sSeq at w
  cases e : f env st with
  | next env1 st1 =>
    rw [e] at w
    exact fun F' ph' σ' H' ex r' => ⟨F', ph', env1, st1, r', w.mono ex⟩
  | brk env1 st1 => rw [e] at w; exact w
  | cont env1 st1 => rw [e] at w; exact w
  | ret d st1 => rw [e] at w; exact w
  | exc x env1 st1 => rw [e] at w; exact w
  | bad => rw [e] at w; exact w
def sBad : DenS := fun _ _ => .bad
def sRet (f : DenE) : DenS := fun env st => (f env st).andS env fun d st1 => .ret d st1
theorem ds_ret {e : Expr} {f : DenE} {pos : Pos} (h : DE X G W e f) : DS X G W (.Return (some e) pos) (sRet f) := by
  refine psImp (ps_ret h) fun D σ H ⟨F, ph, env, st, r, w⟩ => ⟨F, ph, env, st, r, wantS.bind w fun d st1 F1 p1 v H1 e1 r1 rv w1 => ?_⟩
  exact w1 F1 p1 v H1 (Ex.refl _ _ _) r1.s rv
def sRetN : DenS := fun _ st => .ret .non st
def sExpr (f : DenE) : DenS := fun env st => (f env st).andS env fun _ st1 => .next env st1
theorem ds_expr {e : Expr} {f : DenE} {pos : Pos} (h : DE X G W e f) (hs : swapsWith e none pos.line X.env = pure false := by rfl) : DS X G W (.Expr e pos) (sExpr f) := by
  refine psImp (ps_expr h hs) fun D σ H ⟨F, ph, env, st, r, w⟩ => ⟨F, ph, env, st, r, wantS.bind w fun d st1 F1 p1 v H1 e1 r1 rv w1 => ?_⟩
  exact w1.fin r1
def sIf (t : DenT) (f g : DenS) : DenS := fun env st => (t env st).andS env fun b st1 => if b then f env st1 else g env st1
theorem ds_if {c : Expr} {a b : List Stmt} {t : DenT} {f g : DenS} {pos : Pos} (hc : DT X G W c t) (ha : DSs X G W a f) (hb : DSs X G W b g) : DS X G W (.If c a b pos) (sIf t f g) := by
  refine psImp (ps_if hc ha hb) fun D σ H ⟨F, ph, env, st, r, w⟩ => ⟨F, ph, env, st, r, wantS.bind w fun k st1 F1 p1 v H1 e1 r1 rv w1 => ?_⟩
  cases rv
  cases k with
  | true => rw [if_pos rfl]; exact ⟨F1, p1, env, st1, r1, w1⟩
  | false => rw [if_neg (by simp)]; exact ⟨F1, p1, env, st1, r1, w1⟩
/-! ### targets -/
theorem wipe_in {σ : L2.St} {i : Nat} : ∀ {vs : List Nat}, i ∈ vs → (wipe σ vs)[i]? = if i < σ.length then some none else none
  | v :: vs, h => by
    unfold wipe
    rcases List.mem_cons.mp h with rfl | h
    · rw [List.getElem?_set]
      simp [wipe_length]
    · by_cases e : v = i
      · subst e
        rw [List.getElem?_set]
        simp [wipe_length]
      · rw [List.getElem?_set_ne e]
        exact wipe_in h
theorem wipe_set {σ : L2.St} {i : Nat} {x : Option V} {vs : List Nat} (h : i ∈ vs) : wipe (σ.set i x) vs = wipe σ vs := by
  apply List.ext_getElem?
  intro j
  by_cases hj : j ∈ vs
  · rw [wipe_in hj, wipe_in hj, List.length_set]
  · rw [wipe_out hj, wipe_out hj, List.getElem?_set_ne (fun e : i = j => hj (by rw [← e]; exact h))]
abbrev DenG := D → Env → Store → Option (Env × Store)
abbrev DenGs := List D → Env → Store → Option (Env × Store)
def wantG (K : PySem.W.Frag) (G : Nat → Addr) (vs : List Nat) (σ : L2.St) (Q : L2.St → Hp → Prop) (F : Hp) (ph : List Addr) (H : Hp) : Option (Env × Store) → Prop
  | some (env, st) => ∀ F' ph' σ' H', Ex F ph H F' ph' H' → Rel K G F' ph' σ' env st H' → wipe σ' vs = wipe σ vs → Q σ' H'
  | none => False
def rdG (K : PySem.W.Frag) (G : Nat → Addr) (vs : List Nat) (g : DenG) : TG := fun v σ H Q => ∃ F ph env st d, Rel K G F ph σ env st H ∧ R K G F ph d v ∧ wantG K G vs σ Q F ph H (g d env st)
def rdGs (K : PySem.W.Frag) (G : Nat → Addr) (vs : List Nat) (g : DenGs) : TGs := fun v σ H Q => ∃ F ph env st d, Rel K G F ph σ env st H ∧ Rs K G F ph d v ∧ wantG K G vs σ Q F ph H (g d env st)
theorem wantG.mono {K : PySem.W.Frag} {vs : List Nat} {σ σ1 : L2.St} {Q : L2.St → Hp → Prop} {F F' : Hp} {ph ph' : List Addr} {H H' : Hp} {o : Option (Env × Store)} (e : Ex F ph H F' ph' H') (hw : wipe σ1 vs = wipe σ vs) (h : wantG K G vs σ Q F ph H o) : wantG K G vs σ1 Q F' ph' H' o := by
  cases o with
  | none => exact h
  | some p => exact fun F2 p2 v H2 e2 r2 q2 => h F2 p2 v H2 (e.trans e2) r2 (q2.trans hw)
def DG (X : Cx) (G : Nat → Addr) (vs : List Nat) (t : Expr) (g : DenG) : Prop := PG X t (rdG X.K G vs g)
def DGs (X : Cx) (G : Nat → Addr) (vs : List Nat) (t : List Expr) (g : DenGs) : Prop := PGs X t (rdGs X.K G vs g)
theorem pgImp {t : Expr} {g g' : TG} (h : PG X t g) (i : ∀ v σ H Q, g' v σ H Q → g v σ H Q) : PG X t g' := ⟨fun p s σ H v u Q I r q => h.run p s σ H v u Q I r (i v σ H Q q)⟩
theorem pgsImp {t : List Expr} {g g' : TGs} (h : PGs X t g) (i : ∀ v σ H Q, g' v σ H Q → g v σ H Q) : PGs X t g' := ⟨fun p s σ H v u Q I r q => h.run p s σ H v u Q I r (i v σ H Q q)⟩
def gN (i : Nat) : DenG := fun d env st => some (env.set i (some d), st)
variable {ws : List Nat}
theorem dg_name (i : Nat) {x : Str} {pos : Pos} (hN : X.N.Nodup) (hw : i ∈ ws := by decide) (hi : X.N[i]? = some x := by rfl) (hx : Loc X.env.scope x := by first | exact Or.inl rfl | exact Or.inr rfl) (hf : X.fn x = true ∨ X.env.scope.names.lookup x = some .local := by first | exact .inl rfl | exact .inr rfl | assumption) : DG X G ws (.Name x pos) (gN i) :=
  pgImp (pg_name hN hi hx hf) fun v σ H Q ⟨F, ph, env, st, d, r, rv, w⟩ => w F ph _ H (Ex.refl _ _ _) ⟨r.s, r.e.set i rv⟩ (wipe_set hw)
def gsNil : DenGs := fun ds env st => match ds with
  | [] => some (env, st)
  | _ => none
def gsCons (g : DenG) (gs : DenGs) : DenGs := fun ds env st => match ds with
  | d :: ds => match g d env st with
    | some (env1, st1) => gs ds env1 st1
    | none => none
  | [] => none
theorem dgs_nil : DGs X G ws [] gsNil := pgsImp pgs_nil fun v σ H Q ⟨F, ph, env, st, d, r, rv, w⟩ => by
  unfold gsNil at w
  split at w
  · simp only [Rs] at rv
    exact ⟨rv, w F ph _ H (Ex.refl _ _ _) r rfl⟩
  · exact w.elim
theorem dgs_cons {e : Expr} {es : List Expr} {g : DenG} {gs : DenGs} (h : DG X G ws e g) (hs : DGs X G ws es gs) (ha : (assignEach (e :: es) X.env).map (·.2) = assign e X.env :: (assignEach es X.env).map (·.2) := by rfl) : DGs X G ws (e :: es) (gsCons g gs) := by
  refine pgsImp (pgs_cons h hs ha) fun v σ H Q ⟨F, ph, env, st, d, r, rv, w⟩ => ?_
  unfold gsCons at w
  split at w
  · rename_i d0 ds
    simp only [Rs] at rv
    obtain ⟨v0, vs, rfl, r1, r2⟩ := rv
    refine ⟨v0, vs, rfl, F, ph, env, st, d0, r, r1, ?_⟩
    split at w
    · rename_i env1 st1 e1
      rw [e1]
      exact fun F' ph' σ' H' ex r' hw => ⟨F', ph', env1, st1, ds, r', Rs.mono ex.x ds vs r2, w.mono ex hw⟩
    · exact w.elim
  · exact w.elim
def gT (gs : DenGs) (n : Nat) : DenG := fun d env st => match d with
  | .tup ds => if ds.length = n then gs ds env st else none
  | _ => none
theorem dg_tup {es : List Expr} {k n : Nat} {gs : DenGs} {pos : Pos} (hc : X.calm = true) (h : DGs X G ws es gs) (hn : (assignEach es X.env).length = n := by rfl) (hst : (assignEach es X.env).findIdx? (·.1) = none := by rfl) : DG X G ws (.Tuple es k pos) (gT gs n) := by
  refine pgImp (pg_tup hc h hn hst) fun v σ H Q ⟨F, ph, env, st, d, r, rv, w⟩ => ?_
  unfold gT at w
  split at w
  · rename_i ds
    split at w
    · rename_i hl
      obtain ⟨p, vs, rfl, h2, h3⟩ := asT_ok r.s rv (ds := ds) rfl
      exact ⟨p, vs, rfl, SqT.of h2, by rw [h3.len]; exact hl, F, ph, env, st, ds, r, h3, w⟩
    · exact w.elim
  · exact w.elim
/-- o[i] = v, a list's cell -/
def setD (o i v : D) (st : Store) : Option Store := match lstCell st o, i with
  | some (n, xs), .int k => match ixN xs.length k with
    | some j => some (st.set n (.lst (xs.set j v)))
    | none => none
  | _, _ => none
def gSubD (fo fi : DenE) : DenG := fun d env st => match fo env st with
  | .ok o st1 => match fi env st1 with
    | .ok i st2 => (setD o i d st2).map fun st3 => (env, st3)
    | _ => none
  | _ => none
theorem set_d : PSet X (fun o i v H Q => ∃ σ env F ph st od id vd st3, Rel X.K G F ph σ env st H ∧ R X.K G F ph od o ∧ R X.K G F ph id i ∧ R X.K G F ph vd v ∧ setD od id vd st = some st3 ∧ ∀ H', Ex F ph H F ph H' → Rel X.K G F ph σ env st3 H' → Q H') := by
  intro pins s σ H o i v ov iv u Q I ro ri rv ⟨σ', env, F, ph, st, od, id, vd, st3, r, r1, r2, r3, e, w⟩
  unfold setD at e
  split at e
  · rename_i n xs k hc
    split at e
    · rename_i j hj
      cases e
      obtain ⟨a, vs, rfl, h2, h3, h4, h5⟩ := lstCell_ok r.s r1 hc
      simp only [R] at r2; subst r2
      refine set_list pins s σ H _ _ v ov iv u Q I ro ri rv ⟨a, vs, k, j, rfl, rfl, h4, by rw [h5.len]; exact hj, ?_⟩
      obtain ⟨ex, rs'⟩ := r.s.put (o := .lst (vs.set j v)) (c := .lst (xs.set j vd)) h2 h3 ⟨h3, _, upd_same, h5.set r3 j⟩
      exact w _ ex ⟨rs', r.e⟩
    · cases e
  · cases e
theorem dg_sub {o i : Expr} {fo fi : DenE} {pos : Pos} (ho : DE X G (fun _ _ _ _ => False) o fo) (hi : DE X G (fun _ _ _ _ => False) i fi)
    (ha : ∀ v, assign (.Subscript o i pos) X.env v = (do
      let ov ← holding [v] (eval o X.env)
      let iv ← holding [v, ov] (eval i X.env)
      standAt pos
      holding [v, ov, iv] (setItem ov iv v)
      release [v, ov, iv] []) := by intro _; rfl) : DG X G ws (.Subscript o i pos) (gSubD fo fi) := by
  refine pgImp (pg_sub ho hi (set_d (G := G)) ha) fun v σ H Q ⟨F, ph, env, st, d, r, rv, w⟩ => ?_
  unfold gSubD at w
  refine ⟨F, ph, env, st, r, ?_⟩
  cases e : fo env st with
  | ok od st1 =>
    rw [e] at w
    simp only at w
    refine fun F1 p1 v1 H1 e1 r1 rv1 => ⟨F1, p1, env, st1, r1, ?_⟩
    cases e2 : fi env st1 with
    | ok id st2 =>
      rw [e2] at w
      simp only at w
      intro F2 p2 v2 H2 ex2 r2 rv2
      cases q : setD od id d st2 with
      | some st3 =>
        rw [q] at w
        exact ⟨σ, env, F2, p2, st2, od, id, d, st3, r2, R.mono ex2.x od v1 rv1, rv2, R.mono (e1.trans ex2).x d v rv, q, fun H' ex3 r' => w F2 p2 σ H' ((e1.trans ex2).trans ex3) r' rfl⟩
      | none => rw [q] at w; exact w.elim
    | exc x st2 => rw [e2] at w; exact w.elim
    | bad => rw [e2] at w; exact w.elim
  | exc x st1 => rw [e] at w; exact w.elim
  | bad => rw [e] at w; exact w.elim
end
end Den

namespace Den
open PySem PySem.Spec PyProof.Rows L2
section
variable {X : Cx} {G : Nat → Addr} {W : WX} {ws : List Nat}
/-! ### assignment -/
def sAsg (f : DenE) (g : DenG) : DenS := fun env st => (f env st).andS env fun d st1 => match g d env st1 with
  | some (env2, st2) => .next env2 st2
  | none => .bad
theorem asg_imp {f : DenE} {g : DenG} {E : Ends} {σ : L2.St} {H : Hp} (h : rdS X.K G W (sAsg f g) E σ H) : rd X.K G (R X.K G) W f σ H fun x H1 => rdG X.K G ws g x σ H1 E.nx := by
  obtain ⟨F, ph, env, st, r, w⟩ := h
  refine ⟨F, ph, env, st, r, wantS.bind w fun d st1 F1 p1 v H1 e1 r1 rv w1 => ⟨F1, p1, env, st1, d, r1, rv, ?_⟩⟩
  split at w1
  · rename_i env2 st2 e
    rw [e]
    exact fun F' ph' σ' H' ex r' _ => w1 F' ph' σ' H' ex r'
  · exact w1.elim
theorem ds_asg {tg e : Expr} {f : DenE} {g : DenG} {pos : Pos} (he : DE X G W e f) (hg : DG X G ws tg g) (hs : swapsWithSole [tg] e pos.line X.env = pure false := by rfl) (hw : swappedStores [tg] e X.env = pure none := by rfl)
    (h1 : (assignEach [tg] X.env).map (·.2) = [assign tg X.env] := by rfl) : DS X G W (.Assign [tg] e pos) (sAsg f g) :=
  psImp (ps_asg he hg hs hw h1) fun _ _ _ h => asg_imp h
/-- a, b = e1, e2 with both sides written -/
def sPar (i j : Nat) (f : DenA) : DenS := fun env st => (f env st).andS env fun ds st1 => match ds with
  | [a, b] => .next ((env.set i (some a)).set j (some b)) st1
  | _ => .bad
theorem ds_par {i j : Nat} {x y : Str} {a b : Expr} {f : DenA} {px py pt pos : Pos} {kt k2 pt2} (hc : X.calm = true) (hN : X.N.Nodup) (ha : DA X G W [a, b] f) (hi : X.N[i]? = some x := by rfl) (hj : X.N[j]? = some y := by rfl) (hij : i ≠ j := by decide)
    (hx : X.env.scope.names.lookup x = some .local := by rfl) (hy : X.env.scope.names.lookup y = some .local := by rfl)
    (hw : swappedStores [.Tuple [.Name x px, .Name y py] kt pt] (.Tuple [a, b] k2 pt2) X.env = pure (some [x, y]) := by rfl)
    (hs : swapsWithSole [.Tuple [.Name x px, .Name y py] kt pt] (.Tuple [a, b] k2 pt2) pos.line X.env = pure false := by rfl) :
    DS X G W (.Assign [.Tuple [.Name x px, .Name y py] kt pt] (.Tuple [a, b] k2 pt2) pos) (sPar i j f) := by
  refine psImp (ps_par hc hN hi hj hij hx hy ha hw hs) fun D σ H ⟨F, ph, env, st, r, w⟩ => ⟨F, ph, env, st, r, wantS.bind w fun ds st1 F1 p1 vs H1 e1 r1 rv w1 => ?_⟩
  split at w1
  · rename_i d e
    obtain ⟨v, v', rfl, q1, q2⟩ := rv.inv2
    exact ⟨v, v', rfl, w1.fin ⟨r1.s, (r1.e.set i q1).set j q2⟩⟩
  · exact w1.elim
/-- x op= e -/
def sAug (i : Nat) (f : DenE) (g : D → D → Store → Res D) : DenS := fun env st => (eVar i env st).andS env fun d st0 => (f env st0).andS env fun e st1 => (g d e st1).andS env fun z st2 => .next (env.set i (some z)) st2
/-! ### what is walked -/
def YD (K : PySem.W.Frag) (G : Nat → Addr) (F : Hp) (ph : List Addr) (items : List D) : Nat → Hp → V → Hp → Prop := fun i H x H' =>
  ∃ d, items[i]? = some d ∧ ((H' = H ∧ R K G F ph d x) ∨ ∃ T us, x = .ref T ∧ H T = none ∧ H' = upd H T (.tup us) ∧ R K G (upd F T (.tup us)) ph d x)
def WalkD (K : PySem.W.Frag) (G : Nat → Addr) (F : Hp) (ph : List Addr) (items : List D) (J : It) : Prop :=
  Walk J items.length (fun H => ∀ a o, F a = some o → H a = some o) (YD K G F ph items)
abbrev DenI := Env → Store → Res (List D)
def DI (X : Cx) (G : Nat → Addr) (W : WX) (tg it : Expr) (f : DenI) : Prop := PI X tg it (rd X.K G (WalkD X.K G) W f)
theorem piImp {tg it : Expr} {t t' : TI} (h : PI X tg it t) (i : ∀ σ H Q, t' σ H Q → t σ H Q) : PI X tg it t' := ⟨fun p s σ H Q I q => h.run p s σ H Q I (i σ H Q q)⟩
theorem Rs.get' {K : PySem.W.Frag} {F : Hp} {ph : List Addr} : ∀ {ds : List D} {vs : List V} {i : Nat} {v : V}, Rs K G F ph ds vs → vs[i]? = some v → ∃ d, ds[i]? = some d ∧ R K G F ph d v := by
  intro ds vs i v h e
  have hi : i < ds.length := by rw [← h.len]; exact (List.getElem?_eq_some_iff.mp e).1
  obtain ⟨v', e1, e2⟩ := h.get (i := i) (d := ds[i]) (by simp [hi])
  rw [e] at e1; cases e1
  exact ⟨ds[i], by simp [hi], e2⟩
def iL (f : DenE) : DenI := fun env st => (f env st).bind fun d st1 => match d with
  | .lst ds => .ok ds st1
  | .ro ds => .ok ds st1
  | _ => .bad
theorem walkL {K : PySem.W.Frag} {F : Hp} {ph : List Addr} {a : Addr} {ds : List D} {vs : List V} (h : SqL K F a vs) (rs : Rs K G F ph ds vs) : WalkD K G F ph ds (Itl K a) := by
  unfold WalkD
  rw [← rs.len]
  refine walk_list.mono (fun H sub => Same.seq sub h) fun i H x H' hi sub y => ?_
  obtain ⟨d, e1, e2⟩ := rs.get' y.2
  exact ⟨d, e1, .inl ⟨y.1, e2⟩⟩
theorem di_list {tg e : Expr} {f : DenE} (h : DE X G W e f) : DI X G W tg e (iL f) := by
  refine piImp (pi_list h) fun σ H Q ⟨F, ph, env, st, r, w⟩ => ⟨F, ph, env, st, r, w.bind fun d st1 F1 p1 v H1 e1 r1 rv w1 => ?_⟩
  split at w1
  · rename_i ds
    simp only [R] at rv
    obtain ⟨a, vs, rfl, h2, h3⟩ := rv
    exact ⟨a, rfl, ⟨vs, SqL.of (r1.s.sub _ _ h2)⟩, w1.fin r1 (walkL (SqL.of h2) h3)⟩
  · rename_i ds
    simp only [R] at rv
    obtain ⟨a, vs, rfl, h2, h3⟩ := rv
    exact ⟨a, rfl, ⟨vs, Same.seq r1.s.sub h2⟩, w1.fin r1 (walkL h2 h3)⟩
  · exact w1.elim
def iT (f : DenE) : DenI := fun env st => (f env st).bind fun d st1 => match d with
  | .tup ds => .ok ds st1
  | _ => .bad
theorem di_tup {tg e : Expr} {f : DenE} (h : DE X G W e f) : DI X G W tg e (iT f) := by
  refine piImp (pi_tup h) fun σ H Q ⟨F, ph, env, st, r, w⟩ => ⟨F, ph, env, st, r, w.bind fun d st1 F1 p1 v H1 e1 r1 rv w1 => ?_⟩
  split at w1
  · rename_i ds
    simp only [R] at rv
    obtain ⟨a, vs, rfl, h2, h3⟩ := rv
    refine ⟨a, rfl, ⟨vs, SqT.of (r1.s.sub _ _ h2)⟩, w1.fin r1 ?_⟩
    show WalkD X.K G F1 p1 ds _
    unfold WalkD
    rw [← h3.len]
    refine walk_tup.mono (fun H sub => SqT.of (sub _ _ h2)) fun i H x H' hi sub y => ?_
    obtain ⟨d, e1, e2⟩ := h3.get' y.2
    exact ⟨d, e1, .inl ⟨y.1, e2⟩⟩
  · exact w1.elim
def signs (z : Str) : List D := z.cps.toList.map fun c => .str ⟨#[c]⟩
def iS (f : DenE) : DenI := fun env st => (f env st).bind fun d st1 => match d with
  | .str z => .ok (signs z) st1
  | _ => .bad
theorem di_str {tg e : Expr} {f : DenE} (h : DE X G W e f) : DI X G W tg e (iS f) := by
  refine piImp (pi_str h) fun σ H Q ⟨F, ph, env, st, r, w⟩ => ⟨F, ph, env, st, r, w.bind fun d st1 F1 p1 v H1 e1 r1 rv w1 => ?_⟩
  split at w1
  · rename_i z
    simp only [R] at rv
    refine ⟨z, rv, w1.fin r1 ?_⟩
    show WalkD X.K G F1 p1 (signs z) _
    have hl : (signs z).length = z.cps.size := by simp [signs]
    unfold WalkD
    rw [hl]
    refine walk_str.mono (fun H sub => trivial) fun i H x H' hi sub y => ?_
    obtain ⟨e1, c, e2, e3⟩ := y
    refine ⟨.str ⟨#[c]⟩, ?_, .inl ⟨e1, by simp only [R]; exact e3⟩⟩
    unfold signs
    rw [List.getElem?_map, Array.getElem?_toList, e2]
    rfl
  · exact w1.elim
def rngD (lo : Int) (n : Nat) : List D := (List.range n).map fun i => .int (lo + (i : Nat))
theorem walkR {K : PySem.W.Frag} {F : Hp} {ph : List Addr} (lo : Int) (n : Nat) : WalkD K G F ph (rngD lo n) (Itr lo n) := by
  have hl : (rngD lo n).length = n := by simp [rngD]
  unfold WalkD
  rw [hl]
  refine walk_range.mono (fun H sub => trivial) fun i H x H' hi sub y => ?_
  refine ⟨.int (lo + (i : Nat)), ?_, .inl ⟨y.1, by simp only [R]; exact y.2⟩⟩
  unfold rngD
  rw [List.getElem?_map, List.getElem?_range hi]
  rfl
def iR1 (f : DenA) : DenI := fun env st => (f env st).bind fun ds st1 => match ds with
  | [.int j] => if -(2 ^ 62) ≤ j ∧ j < 2 ^ 62 then .ok (rngD 0 j.toNat) st1 else .bad
  | _ => .bad
theorem di_range1 {tg a : Expr} {f : DenA} {p pos : Pos} (hm : X.mg "range" = none) (ha : DA X G W [a] f) (hg : Gl X "range" := by rfl) (hs : starEach [a] X.env = [(false, eval a X.env)] := by rfl) : DI X G W tg (.Call (.Name "range" p) [a] [] pos) (iR1 f) := by
  refine piImp (pi_range1 hg hm ha hs) fun σ H Q ⟨F, ph, env, st, r, w⟩ => ⟨F, ph, env, st, r, w.bind fun ds st1 F1 p1 vs H1 e1 r1 rv w1 => ?_⟩
  split at w1
  · rename_i j
    split at w1
    · rename_i hz
      obtain ⟨v, rfl, q⟩ := rv.inv1
      simp only [R] at q; subst q
      exact ⟨j, rfl, hz.1, hz.2, w1.fin r1 (walkR 0 j.toNat)⟩
    · exact w1.elim
  · exact w1.elim
def iR2 (f : DenA) : DenI := fun env st => (f env st).bind fun ds st1 => match ds with
  | [.int i, .int j] => if -(2 ^ 62) ≤ i ∧ i < 2 ^ 62 ∧ -(2 ^ 62) ≤ j ∧ j < 2 ^ 62 then .ok (rngD i (j - i).toNat) st1 else .bad
  | _ => .bad
/-- pairs that are made anew -/
theorem yPair {K : PySem.W.Frag} {F : Hp} {ph : List Addr} {items : List D} {i : Nat} {H H' : Hp} {v x y : V} {d e : D} {T : Addr} (sub : ∀ a o, F a = some o → H a = some o) (hi : items[i]? = some (.tup [d, e])) (h1 : v = .ref T) (h2 : H T = none) (h3 : H' = upd H T (.tup [x, y]))
    (rx : R K G F ph d x) (ry : R K G F ph e y) : YD K G F ph items i H v H' := by
  refine ⟨_, hi, .inr ⟨T, [x, y], h1, h2, h3, ?_⟩⟩
  have hF : F T = none := by
    cases q : F T with
    | none => rfl
    | some o => rw [sub _ _ q] at h2; cases h2
  have ex : Ext F ph (upd F T (.tup [x, y])) ph := ⟨fun a u q => by rw [upd_ne (ne_of_none q hF)]; exact q, fun _ _ q => q⟩
  simp only [R, Rs]
  exact ⟨T, [x, y], h1, upd_same, x, [y], rfl, R.mono ex d x rx, y, [], rfl, R.mono ex e y ry, rfl⟩
def enumD : Nat → List D → List D
  | _, [] => []
  | k, d :: ds => .tup [.int (k : Nat), d] :: enumD (k + 1) ds
theorem enumD_len : ∀ (k : Nat) (ds : List D), (enumD k ds).length = ds.length
  | _, [] => rfl
  | k, d :: ds => by simp [enumD, enumD_len (k + 1) ds]
theorem enumD_get : ∀ (k : Nat) (ds : List D) (i : Nat), (enumD k ds)[i]? = ds[i]?.map fun d => .tup [.int ((k + i : Nat) : Int), d]
  | _, [], i => by simp [enumD]
  | k, d :: ds, 0 => by simp [enumD]
  | k, d :: ds, i + 1 => by
    simp only [enumD, List.getElem?_cons_succ]
    rw [enumD_get (k + 1) ds i]
    have : k + 1 + i = k + (i + 1) := by omega
    rw [this]
theorem walkE {K : PySem.W.Frag} {F : Hp} {ph : List Addr} {a : Addr} {ds : List D} {vs : List V} (h : SqL K F a vs) (rs : Rs K G F ph ds vs) : WalkD K G F ph (enumD 0 ds) (Ite K a) := by
  unfold WalkD
  rw [enumD_len, ← rs.len]
  refine walk_enum.mono (fun H sub => Same.seq sub h) fun i H v H' hi sub y => ?_
  obtain ⟨T, x, z, h1, h2, h3, h4, h5⟩ := y
  cases h4
  obtain ⟨d, e1, e2⟩ := rs.get' h5
  refine yPair (d := .int (i : Nat)) (e := d) sub ?_ h1 h2 h3 (by simp only [R]) e2
  rw [enumD_get, e1]; simp
/-! ### for -/
def forD (g : DenG) (body : DenS) : List D → DenS
  | [], env, st => .next env st
  | d :: ds, env, st => match g d env st with
    | none => .bad
    | some (env1, st1) => match body env1 st1 with
      | .next env2 st2 => forD g body ds env2 st2
      | .cont env2 st2 => forD g body ds env2 st2
      | .brk env2 st2 => .next env2 st2
      | r => r
def sFor (it : DenI) (g : DenG) (body : DenS) : DenS := fun env st => (it env st).andS env fun items st1 => forD g body items env st1
theorem drop_cons {α : Type} {l : List α} {i : Nat} {d : α} (h : l[i]? = some d) : l.drop i = d :: l.drop (i + 1) := by
  obtain ⟨hi, e⟩ := List.getElem?_eq_some_iff.mp h
  rw [List.drop_eq_getElem_cons hi, e]
theorem ds_for {tg iter : Expr} {body : List Stmt} {it : DenI} {g : DenG} {f : DenS} {pos : Pos} (hp : PassesOwn (model X.prog X.w) X.A X.env X.xe) (hc : X.calm = true) (hi : DI X G W tg iter it) (hg : DG X G ws tg g) (hb : DSs X G W body f)
    (hs : ∀ x, foldedSetIterable iter X.env x = pure x := by intro _; rfl) : DS X G W (.For tg iter body [] pos) (sFor it g f) := by
  refine psImp (ps_for hp hc hi hg hb hs) fun D σ H ⟨F, ph, env, st, r, w⟩ => ⟨F, ph, env, st, r, wantS.bind w fun items st1 F1 p1 J H1 e1 r1 wk w1 => ?_⟩
  refine for_it wk (fun i σ H => ∃ F2 p2 env2 st2, Ex F1 p1 H1 F2 p2 H ∧ Rel X.K G F2 p2 σ env2 st2 H ∧ wantS X.K G W D F2 p2 H (forD g f (items.drop i) env2 st2)) ⟨F1, p1, env, st1, Ex.refl _ _ _, r1, by simpa using w1⟩ ?_ ?_ ?_
  · rintro i σ H _ ⟨F2, p2, env2, st2, ex, r2, _⟩ a o q
    exact r2.s.sub a o (ex.x.fz a o q)
  · rintro i x σ H H' hlt ⟨F2, p2, env2, st2, ex, r2, w2⟩ ⟨d, hd, y⟩
    rw [drop_cons hd] at w2
    have key : ∀ F3 (ex3 : Ex F2 p2 H F3 p2 H') (r3 : Rel X.K G F3 p2 σ env2 st2 H') (rx : R X.K G F3 p2 d x), rdG X.K G ws g x σ H' fun σ2 H2 => rdS X.K G W f { D with nx := fun σ H => ∃ F2 p2 env2 st2, Ex F1 p1 H1 F2 p2 H ∧ Rel X.K G F2 p2 σ env2 st2 H ∧ wantS X.K G W D F2 p2 H (forD g f (items.drop (i + 1)) env2 st2), ct := fun σ H => ∃ F2 p2 env2 st2, Ex F1 p1 H1 F2 p2 H ∧ Rel X.K G F2 p2 σ env2 st2 H ∧ wantS X.K G W D F2 p2 H (forD g f (items.drop (i + 1)) env2 st2), bk := D.nx } σ2 H2 := by
      intro F3 ex3 r3 rx
      refine ⟨F3, p2, env2, st2, d, r3, rx, ?_⟩
      unfold forD at w2
      split at w2
      · exact w2.elim
      · rename_i env3 st3 hg3
        rw [hg3]
        intro F4 p4 σ4 H4 ex4 r4 _
        refine ⟨F4, p4, env3, st3, r4, ?_⟩
        have w4 := wantS.mono (ex3.trans ex4) w2
        cases hbd : f env3 st3 with
        | next env5 st5 =>
          rw [hbd] at w4
          exact fun F5 p5 σ5 H5 ex5 r5 => ⟨F5, p5, env5, st5, ((ex.trans ex3).trans ex4).trans ex5, r5, wantS.mono ex5 w4⟩
        | cont env5 st5 =>
          rw [hbd] at w4
          exact fun F5 p5 σ5 H5 ex5 r5 => ⟨F5, p5, env5, st5, ((ex.trans ex3).trans ex4).trans ex5, r5, wantS.mono ex5 w4⟩
        | brk env5 st5 => rw [hbd] at w4; exact w4
        | ret d5 st5 => rw [hbd] at w4; exact w4
        | exc x5 env5 st5 => rw [hbd] at w4; exact w4
        | bad => rw [hbd] at w4; exact w4
    rcases y with ⟨rfl, rx⟩ | ⟨T, o, rfl, hT, rfl, rx⟩
    · exact key F2 (Ex.refl _ _ _) r2 (R.mono ex.x d x rx)
    · obtain ⟨exl, rl⟩ := r2.s.lay (o := .tup o) hT
      refine key _ exl ⟨rl, r2.e.mono exl.x⟩ (R.mono ⟨fun a u q => ?_, ex.x.ph⟩ d _ rx)
      by_cases e : a = T
      · subst e; rw [upd_same] at q ⊢; exact q
      · rw [upd_ne e] at q ⊢; exact ex.x.fz a u q
  · rintro σ H ⟨F2, p2, env2, st2, ex, r2, w2⟩
    rw [List.drop_length] at w2
    exact w2.fin r2

/-! ### while, with fuel -/
def whileD (t : DenT) (body : DenS) : Nat → DenS
  | 0, _, _ => .bad
  | n + 1, env, st => (t env st).andS env fun b st1 => if b then match body env st1 with
      | .next env2 st2 => whileD t body n env2 st2
      | .cont env2 st2 => whileD t body n env2 st2
      | .brk env2 st2 => .next env2 st2
      | r => r
    else .next env st1
theorem ds_while (n : Env → Store → Nat) {c : Expr} {body : List Stmt} {t : DenT} {f : DenS} {pos : Pos} (hp : PassesOwn (model X.prog X.w) X.A X.env X.xe) (hc : DT X G W c t) (hb : DSs X G W body f) : DS X G W (.While c body [] pos) (fun env st => whileD t f (n env st) env st) := by
  refine psImp (ps_while hp hc hb) fun D σ H ⟨F, ph, env, st, r, w⟩ => ?_
  refine ⟨fun m σ H => ∃ F2 p2 env2 st2, Rel X.K G F2 p2 σ env2 st2 H ∧ wantS X.K G W D F2 p2 H (whileD t f m env2 st2), ⟨_, F, ph, env, st, r, w⟩, ?_⟩
  rintro m σ H ⟨F2, p2, env2, st2, r2, w2⟩
  cases m with
  | zero => exact w2.elim
  | succ m =>
    refine ⟨F2, p2, env2, st2, r2, wantS.bind (show wantS X.K G W D F2 p2 H ((t env2 st2).andS env2 _) from w2) fun k st3 F3 p3 v H3 e3 r3 rv w3 => ?_⟩
    cases rv
    cases k with
    | false => rw [if_neg (by simp)]; exact wantS.fin (env := env2) (st := st3) w3 r3
    | true =>
      rw [if_pos rfl]
      refine ⟨fun σ H => ∃ F2 p2 env2 st2, Rel X.K G F2 p2 σ env2 st2 H ∧ wantS X.K G W D F2 p2 H (whileD t f m env2 st2), fun σ' H' q => ⟨m, Nat.lt_succ_self _, q⟩, F3, p3, env2, st3, r3, ?_⟩
      rw [if_pos rfl] at w3
      cases hbd : f env2 st3 with
      | next env5 st5 => rw [hbd] at w3; exact fun F5 p5 σ5 H5 ex5 r5 => ⟨F5, p5, env5, st5, r5, wantS.mono ex5 w3⟩
      | cont env5 st5 => rw [hbd] at w3; exact fun F5 p5 σ5 H5 ex5 r5 => ⟨F5, p5, env5, st5, r5, wantS.mono ex5 w3⟩
      | brk env5 st5 => rw [hbd] at w3; exact w3
      | ret d5 st5 => rw [hbd] at w3; exact w3
      | exc x5 env5 st5 => rw [hbd] at w3; exact w3
      | bad => rw [hbd] at w3; exact w3
end
end Den

namespace Den
open PySem PySem.Spec PyProof.Rows L2
/-! ### list comprehensions -/
abbrev WF : WX := fun _ _ _ _ => False
def wipeD (env : Env) : List Nat → Env
  | [] => env
  | v :: vs => (wipeD env vs).set v none
theorem RelE.wipe {K : PySem.W.Frag} {G : Nat → Addr} {F : Hp} {ph : List Addr} {σ : L2.St} {env : Env} (h : RelE K G F ph σ env) : ∀ vs : List Nat, RelE K G F ph (L2.wipe σ vs) (wipeD env vs)
  | [] => h
  | v :: vs => by
    unfold L2.wipe wipeD
    exact (RelE.wipe h vs).forget v
theorem wipe_idem (σ : L2.St) (vs : List Nat) : wipe (wipe σ vs) vs = wipe σ vs := by
  apply List.ext_getElem?
  intro j
  by_cases hj : j ∈ vs
  · rw [wipe_in hj, wipe_in hj, wipe_length]
  · rw [wipe_out hj]
def Res.noX {α : Type} : Res α → Res α
  | .exc _ _ => .bad
  | r => r
def compL (g : DenG) (test : DenT) (elt : DenE) (env : Env) : List D → List D → Store → Res (List D)
  | [], acc, st => .ok acc st
  | d :: ds, acc, st => match g d env st with
    | none => .bad
    | some (env1, st1) => (test env1 st1).noX.bind fun b st2 => if b then (elt env1 st2).noX.bind fun e st3 => if acc.length < sizeLine then compL g test elt env ds (acc ++ [e]) st3 else .bad
      else compL g test elt env ds acc st2
def eLc (mk : List D → Store → Res D) (it : DenI) (g : DenG) (test : DenT) (elt : DenE) (vs : List Nat) : DenE := fun env st =>
  (it env st).bind fun items st1 => (compL g test elt (wipeD env vs) items [] st1).bind mk
structure MkA (G : Nat → Addr) (mk : List D → Store → Res D) : Prop where
  adopt : ∀ {K : PySem.W.Frag} {F : Hp} {ph : List Addr} {st : Store} {H : Hp} {p : Addr} {us : List V} {acc : List D}, RelS K G F ph st H → H p = some (.lst us) → F p = none → p ∉ ph → Rs K G F ph acc us →
    ∃ F' ph' d st', mk acc st = .ok d st' ∧ RelS K G F' ph' st' H ∧ R K G F' ph' d (.ref p) ∧ Ext F ph F' ph' ∧ (∀ a o, F' a = some o → (∃ u, F a = some u) ∨ a = p) ∧ ∀ a ∈ ph', a ∈ ph ∨ a = p
theorem mkaL {G : Nat → Addr} : MkA G okL := ⟨fun {K F ph st H p us acc} r hH hF hm rs => by
  obtain ⟨ex, r'⟩ := r.adopt hF hm hH
  refine ⟨_, ph, _, _, rfl, r', by simp only [R]; exact ⟨p, us, rfl, upd_same, Rs.mono ex acc us rs⟩, ex, fun a o q => ?_, fun a z => .inl z⟩
  by_cases e : a = p
  · exact .inr e
  · rw [upd_ne e] at q; exact .inl ⟨o, q⟩⟩
section
variable {X : Cx} {G : Nat → Addr} {W : WX}
theorem lc_imp {mk : List D → Store → Res D} (M : MkA G mk) {it : DenI} {g : DenG} {test : DenT} {elt : DenE} {vs : List Nat} {σ : L2.St} {H : Hp} {Q : VK} (h : rd X.K G (R X.K G) W (eLc mk it g test elt vs) σ H Q) :
    tLc (rd X.K G (WalkD X.K G) W it) (rdG X.K G vs g) (rd X.K G EqB WF test) (rd X.K G (R X.K G) WF elt) vs σ H Q := by
  obtain ⟨F, ph, env, st, r, w⟩ := h
  refine ⟨F, ph, env, st, r, w.bind fun items st1 F1 p1 J H1 e1 r1 wk w1 => fun A hA => ?_⟩
  obtain ⟨hFA, hpA⟩ := r1.s.fresh hA
  refine lc_it (Qd := fun H => Q (.ref A) H) wk (fun i H => ∃ F2 p2 st2 acc us, Ex F1 p1 H1 F2 p2 H ∧ RelS X.K G F2 p2 st2 H ∧ H A = some (.lst us) ∧ F2 A = none ∧ A ∉ p2 ∧ Rs X.K G F2 p2 acc us ∧
    want X.K G (R X.K G) W σ env Q F1 p1 H1 ((compL g test elt (wipeD env vs) (items.drop i) acc st2).bind mk))
    ⟨F1, p1, st1, [], [], ⟨Ext.refl _ _, fun a o q _ => .inl (by rw [upd_ne (ne_of_none q hA)]; exact q), fun _ z => .inl z, fun a o q => .inl ⟨o, q⟩⟩, r1.s.outside hFA hpA (fun _ z => by rw [hA] at z; cases z) (fun _ _ z => by rw [hA] at z; cases z), upd_same, hFA, hpA, by simp only [Rs], by simpa using w1⟩ ?_ ?_ ?_
  · rintro i H _ ⟨F2, p2, st2, acc, us, ex, r2, _⟩ a o q
    exact r2.sub a o (ex.x.fz a o q)
  · rintro i x H H' hlt ⟨F2, p2, st2, acc, us, ex, r2, hH, hF2, hp2, rs, w2⟩ ⟨d, hd, y⟩
    rw [drop_cons hd] at w2
    unfold compL at w2
    -- the item is there
    have key : ∀ F3 (ex3 : Ex F2 p2 H F3 p2 H') (r3 : RelS X.K G F3 p2 st2 H') (hA3 : F3 A = none) (rx : R X.K G F3 p2 d x),
        rdG X.K G vs g x (wipe σ vs) H' fun σ2 H2 => wipe σ2 vs = wipe σ vs ∧ rd X.K G EqB WF test σ2 H2 fun b H3 =>
          if b = true then rd X.K G (R X.K G) WF elt σ2 H3 fun y H4 => ∃ acc, H4 A = some (.lst acc) ∧ acc.length < sizeLine ∧ (∃ F2 p2 st2 acc' us, Ex F1 p1 H1 F2 p2 (upd H4 A (.lst (acc ++ [y]))) ∧ RelS X.K G F2 p2 st2 (upd H4 A (.lst (acc ++ [y]))) ∧ (upd H4 A (.lst (acc ++ [y]))) A = some (.lst us) ∧ F2 A = none ∧ A ∉ p2 ∧ Rs X.K G F2 p2 acc' us ∧
            want X.K G (R X.K G) W σ env Q F1 p1 H1 ((compL g test elt (wipeD env vs) (items.drop (i + 1)) acc' st2).bind mk))
          else (∃ F2 p2 st2 acc us, Ex F1 p1 H1 F2 p2 H3 ∧ RelS X.K G F2 p2 st2 H3 ∧ H3 A = some (.lst us) ∧ F2 A = none ∧ A ∉ p2 ∧ Rs X.K G F2 p2 acc us ∧
            want X.K G (R X.K G) W σ env Q F1 p1 H1 ((compL g test elt (wipeD env vs) (items.drop (i + 1)) acc st2).bind mk)) := by
      intro F3 ex3 r3 hA3 rx
      have exA : ∀ {F' : Hp} {p' : List Addr} {H'' : Hp}, Ex F2 p2 H F' p' H'' → H'' A = some (.lst us) ∧ F' A = none ∧ A ∉ p' := fun {F' p' H''} e => by
        refine ⟨e.kept hH hp2, ?_, fun z => ?_⟩
        · cases q : F' A with
          | none => rfl
          | some o =>
            rcases e.fnew A o q with ⟨u, z⟩ | z | z
            · rw [hF2] at z; cases z
            · rw [hH] at z; cases z
            · exact absurd z hp2
        · rcases e.new A z with z | z
          · exact hp2 z
          · rw [hH] at z; cases z
      have re : RelE X.K G F3 p2 (wipe σ vs) (wipeD env vs) := ((r1.e.mono ex.x).mono ex3.x).wipe vs
      refine ⟨F3, p2, wipeD env vs, st2, d, ⟨r3, re⟩, rx, ?_⟩
      split at w2
      · exact w2.elim
      · rename_i env1 st4 hg4
        rw [hg4]
        intro F4 p4 σ4 H4 ex4 r4 hw4
        refine ⟨hw4.trans (wipe_idem σ vs), F4, p4, env1, st4, r4, ?_⟩
        cases ht : test env1 st4 with
        | bad => rw [ht] at w2; exact w2.elim
        | exc xx st5 => rw [ht] at w2; exact w2.elim
        | ok b st5 =>
          rw [ht] at w2
          intro F5 p5 b' H5 ex5 r5 hb
          cases hb
          have e5 := ex3.trans (ex4.trans ex5)
          cases b with
          | false =>
            rw [if_neg (by simp)]
            obtain ⟨q1, q2, q3⟩ := exA e5
            exact ⟨F5, p5, st5, acc, us, ex.trans e5, r5.s, q1, q2, q3, Rs.mono e5.x acc us rs, w2⟩
          | true =>
            rw [if_pos rfl]
            refine ⟨F5, p5, env1, st5, r5, ?_⟩
            simp only [Res.noX, Res.bind, if_true] at w2
            cases hel : elt env1 st5 with
            | bad => rw [hel] at w2; exact w2.elim
            | exc xx st6 => rw [hel] at w2; exact w2.elim
            | ok e st6 =>
              rw [hel] at w2
              intro F6 p6 y6 H6 ex6 r6 ry
              have e6 := e5.trans ex6
              obtain ⟨q1, q2, q3⟩ := exA e6
              by_cases hz : acc.length < sizeLine
              · simp only [if_pos hz] at w2
                refine ⟨us, q1, by rw [rs.len]; exact hz, F6, p6, st6, acc ++ [e], us ++ [y6], ?_, r6.s.outside q2 q3 (fun _ z => by rw [q1] at z; cases z) (fun _ _ z => by rw [q1] at z; unfold LamX.CodeO at z; cases z), upd_same, q2, q3, (Rs.mono e6.x acc us rs).app (Rs.one ry), w2⟩
                have e7 := ex.trans e6
                exact ⟨e7.x, fun a o q n => by rw [upd_ne (ne_of_none q hA)]; exact e7.keep a o q n, e7.new, e7.fnew⟩
              · simp only [if_neg hz] at w2
                exact w2.elim
    rcases y with ⟨rfl, rx⟩ | ⟨T, o, rfl, hT, rfl, rx⟩
    · exact key F2 (Ex.refl _ _ _) r2 hF2 (R.mono ex.x d x rx)
    · obtain ⟨exl, rl⟩ := r2.lay (o := .tup o) hT
      have nA : A ≠ T := ne_of_none hH hT
      refine key _ exl rl (by rw [upd_ne nA]; exact hF2) (R.mono ⟨fun a u q => ?_, ex.x.ph⟩ d _ rx)
      by_cases e : a = T
      · subst e; rw [upd_same] at q ⊢; exact q
      · rw [upd_ne e] at q ⊢; exact ex.x.fz a u q
  · rintro H ⟨F2, p2, st2, acc, us, ex, r2, hH, hF2, hp2, rs, w2⟩
    rw [List.drop_length] at w2
    obtain ⟨F', ph', d, st', e, r', rd', ext, fn, pn⟩ := M.adopt r2 hH hF2 hp2 rs
    simp only [compL, Res.bind] at w2
    rw [e] at w2
    refine w2 F' ph' _ H ⟨ex.x.trans ext, ex.keep, fun a z => ?_, fun a o q => ?_⟩ ⟨r', (r1.e.mono ex.x).mono ext⟩ rd'
    · rcases pn a z with z | z
      · exact ex.new a z
      · subst z; exact .inr hA
    · rcases fn a o q with ⟨u, z⟩ | z
      · exact ex.fnew a u z
      · subst z; exact .inr (.inl hA)
def DTs (X : Cx) (G : Nat → Addr) (ifs : List Expr) (t : DenT) : Prop := PTs X ifs (rd X.K G EqB WF t)
def tYesD : DenT := fun _ st => .ok true st
theorem dts_nil : DTs X G [] tYesD := ⟨fun p s σ H Q I ⟨F, ph, env, st, r, w⟩ => pts_nil.run p s σ H Q I (w.fin r rfl)⟩
theorem dts_one {c : Expr} {t : DenT} (h : DT X G WF c t) : DTs X G [c] t := pts_one h
theorem de_lc {mk : List D → Store → Res D} (M : MkA G mk) {elt tg iter : Expr} {ifs : List Expr} {scope : Scope} (own : List (Str × Nat)) {pos : Pos} {it : DenI} {g : DenG} {test : DenT} {fe : DenE} (hc : X.calm = true) (hN : X.N.Nodup) (hi : DI X G W tg iter it) (ok : BlkOk X.N X.env.scope scope own)
    (hg : ∀ (s : Shared) (H : Hp) (C : Addr) (cl : List (Str × Addr)) (fp : List Addr), DG (X.blk s H scope (compEnvC scope cl C X.env) fp) G (own.map Prod.snd) tg g) (ht : ∀ (s : Shared) (H : Hp) (C : Addr) (cl : List (Str × Addr)) (fp : List Addr), DTs (X.blk s H scope (compEnvC scope cl C X.env) fp) G ifs test)
    (he : ∀ (s : Shared) (H : Hp) (C : Addr) (cl : List (Str × Addr)) (fp : List Addr), DE (X.blk s H scope (compEnvC scope cl C X.env) fp) G WF elt fe) (hs : ∀ x, foldedSetIterable iter X.env x = pure x := by intro _; rfl) :
    DE X G W (.ListComp elt [⟨tg, iter, ifs, 0⟩] scope pos) (eLc mk it g test fe (own.map Prod.snd)) :=
  peImp (pe_lc (g := rdG X.K G (own.map Prod.snd) g) (tt := rd X.K G EqB WF test) (te := rd X.K G (R X.K G) WF fe) hc hN hi ok hg ht he hs) fun _ _ _ h => lc_imp M h
theorem ds_setLc (i : Nat) {mk : List D → Store → Res D} (M : MkA G mk) {y : Str} {py : Pos} {elt tg iter : Expr} {ifs : List Expr} {scope : Scope} (own : List (Str × Nat)) {pos spos : Pos} {it : DenI} {g : DenG} {test : DenT} {fe : DenE} (hc : X.calm = true) (hN : X.N.Nodup)
    (hsw : swapsWith (.ListComp elt [⟨tg, iter, ifs, 0⟩] scope pos) (some (.Name y py)) spos.line X.env = pure true) (hi : DI X G W tg iter it) (ok : BlkOk X.N X.env.scope scope own)
    (hg : ∀ (s : Shared) (H : Hp) (C : Addr) (cl : List (Str × Addr)) (fp : List Addr), DG (X.blk s H scope (compEnvC scope cl C X.env) fp) G (own.map Prod.snd) tg g) (ht : ∀ (s : Shared) (H : Hp) (C : Addr) (cl : List (Str × Addr)) (fp : List Addr), DTs (X.blk s H scope (compEnvC scope cl C X.env) fp) G ifs test)
    (he : ∀ (s : Shared) (H : Hp) (C : Addr) (cl : List (Str × Addr)) (fp : List Addr), DE (X.blk s H scope (compEnvC scope cl C X.env) fp) G WF elt fe) (hy : X.N[i]? = some y := by rfl) (hyl : X.env.scope.names.lookup y = some .local := by rfl) (hs : ∀ x, foldedSetIterable iter X.env x = pure x := by intro _; rfl) :
    DS X G W (.Assign [.Name y py] (.ListComp elt [⟨tg, iter, ifs, 0⟩] scope pos) spos) (sAsg (eLc mk it g test fe (own.map Prod.snd)) (gN i)) := by
  refine psImp (ps_setLc (g := rdG X.K G (own.map Prod.snd) g) (tt := rd X.K G EqB WF test) (te := rd X.K G (R X.K G) WF fe) hc hN hy hyl hsw hi ok hg ht he hs) fun D σ H ⟨F, ph, env, st, r, w⟩ => ?_
  refine lc_imp (W := W) M ⟨F, ph, env, st, r, wantS.bind w fun d st1 F1 p1 v H1 e1 r1 rv w1 => ?_⟩
  exact w1.fin ⟨r1.s, r1.e.set i rv⟩
end
end Den

namespace Den
open PySem PySem.Spec PyProof.Rows L2
/-! ### data without younger cells -/
mutual
def D.lo (n : Nat) : D → Bool
  | .lst ds => loS n ds
  | .tup ds => loS n ds
  | .ro ds => loS n ds
  | .dct kvs => loK n kvs
  | .ins _ fs => loF n fs
  | .cell m => decide (m < n)
  | .non => true
  | .bl _ => true
  | .int _ => true
  | .str _ => true
  | .cls _ => true
  | .ty _ => true
  | .err _ fs => loF n fs
def loS (n : Nat) : List D → Bool
  | [] => true
  | d :: ds => D.lo n d && loS n ds
def loK (n : Nat) : List (Key × D) → Bool
  | [] => true
  | (_, d) :: ds => D.lo n d && loK n ds
def loF (n : Nat) : List (Str × D) → Bool
  | [] => true
  | (_, d) :: ds => D.lo n d && loF n ds
end
def Cell.lo (n : Nat) : Cell → Bool
  | .lst ds => loS n ds
  | .ins _ fs => loF n fs
  | .dct kvs => loK n kvs
  | .fz d => D.lo n d
section
variable {K : PySem.W.Frag} {G : Nat → Addr} {F : Hp} {ph : List Addr} {n : Nat}
mutual
theorem R.cut : ∀ (d : D) (v : V), d.lo n = true → R K G F ph d v → R K G F (ph.take n) d v
  | .non, _, _, h => by simpa only [R] using h
  | .bl _, _, _, h => by simpa only [R] using h
  | .int _, _, _, h => by simpa only [R] using h
  | .str _, _, _, h => by simpa only [R] using h
  | .cls _, _, _, h => by simpa only [R] using h
  | .ty _, _, _, h => by simpa only [R] using h
  | .err c fs, v, b, h => by
    simp only [D.lo] at b
    simp only [R] at h ⊢
    obtain ⟨a, d, h1, h2, h3⟩ := h
    refine ⟨a, d, h1, h2, ?_⟩
    rcases h3 with q | ⟨dd, ws, q1, q2, q3⟩
    · exact .inl q
    · exact .inr ⟨dd, ws, q1, q2, Rf.cut' fs ws b q3⟩
  | .lst ds, v, b, h => by
    simp only [D.lo] at b
    simp only [R] at h ⊢
    obtain ⟨a, vs, h1, h2, h3⟩ := h
    exact ⟨a, vs, h1, h2, Rs.cut' ds vs b h3⟩
  | .tup ds, v, b, h => by
    simp only [D.lo] at b
    simp only [R] at h ⊢
    obtain ⟨a, vs, h1, h2, h3⟩ := h
    exact ⟨a, vs, h1, h2, Rs.cut' ds vs b h3⟩
  | .ro ds, v, b, h => by
    simp only [D.lo] at b
    simp only [R] at h ⊢
    obtain ⟨a, vs, h1, h2, h3⟩ := h
    exact ⟨a, vs, h1, h2, Rs.cut' ds vs b h3⟩
  | .dct kvs, v, b, h => by
    simp only [D.lo] at b
    simp only [R] at h ⊢
    obtain ⟨a, vs, h1, h2, h3⟩ := h
    exact ⟨a, vs, h1, h2, Rk.cut' kvs vs b h3⟩
  | .ins c fs, v, b, h => by
    simp only [D.lo] at b
    simp only [R] at h ⊢
    obtain ⟨a, dx, vs, h1, h2, h3⟩ := h
    exact ⟨a, dx, vs, h1, h2, Rf.cut' fs vs b h3⟩
  | .cell m, v, b, h => by
    simp only [D.lo, decide_eq_true_eq] at b
    simp only [R] at h ⊢
    obtain ⟨a, h1, h2⟩ := h
    exact ⟨a, h1, by rw [List.getElem?_take_of_lt b]; exact h2⟩
theorem Rs.cut' : ∀ (ds : List D) (vs : List V), loS n ds = true → Rs K G F ph ds vs → Rs K G F (ph.take n) ds vs
  | [], vs, _, h => by simpa only [Rs] using h
  | d :: ds, vs, b, h => by
    simp only [loS, Bool.and_eq_true] at b
    simp only [Rs] at h ⊢
    obtain ⟨v, ws, h1, h2, h3⟩ := h
    exact ⟨v, ws, h1, R.cut d v b.1 h2, Rs.cut' ds ws b.2 h3⟩
theorem Rk.cut' : ∀ (ds : List (Key × D)) (vs : List (Key × V)), loK n ds = true → Rk K G F ph ds vs → Rk K G F (ph.take n) ds vs
  | [], vs, _, h => by simpa only [Rk] using h
  | (k, d) :: ds, vs, b, h => by
    simp only [loK, Bool.and_eq_true] at b
    simp only [Rk] at h ⊢
    obtain ⟨v, ws, h1, h2, h3⟩ := h
    exact ⟨v, ws, h1, R.cut d v b.1 h2, Rk.cut' ds ws b.2 h3⟩
theorem Rf.cut' : ∀ (ds : List (Str × D)) (vs : List (Str × V)), loF n ds = true → Rf K G F ph ds vs → Rf K G F (ph.take n) ds vs
  | [], vs, _, h => by simpa only [Rf] using h
  | (k, d) :: ds, vs, b, h => by
    simp only [loF, Bool.and_eq_true] at b
    simp only [Rf] at h ⊢
    obtain ⟨v, ws, h1, h2, h3⟩ := h
    exact ⟨v, ws, h1, R.cut d v b.1 h2, Rf.cut' ds ws b.2 h3⟩
end
theorem RelS.cut {st : Store} {H : Hp} (h : RelS K G F ph st H) (hb : (st.take n).all (Cell.lo n) = true) : RelS K G F (ph.take n) (st.take n) H := by
  refine ⟨h.sub, by simp [h.len], h.nd.sublist (List.take_sublist _ _), fun m c a q1 q2 => ?_, h.tb⟩
  have hm : c ∈ st.take n := List.mem_of_getElem? q1
  have b := List.all_eq_true.mp hb c hm
  have lt : m < n := by
    have := (List.getElem?_eq_some_iff.mp q1).1
    rw [List.length_take] at this; omega
  rw [List.getElem?_take_of_lt lt] at q1 q2
  have c0 := h.cells m c a q1 q2
  cases c with
  | lst ds => obtain ⟨z, vs, x, r⟩ := c0; exact ⟨z, vs, x, Rs.cut' ds vs b r⟩
  | ins k fs => obtain ⟨z, dx, ws, x, r⟩ := c0; exact ⟨z, dx, ws, x, Rf.cut' fs ws b r⟩
  | dct kvs => obtain ⟨z, ws, x, r⟩ := c0; exact ⟨z, ws, x, Rk.cut' kvs ws b r⟩
  | fz d => obtain ⟨z, r⟩ := c0; exact ⟨z, R.cut d _ b r⟩
end

section
variable {K : PySem.W.Frag} {G : Nat → Addr} {F : Hp} {ph : List Addr}
mutual
theorem R.lo : ∀ (d : D) (v : V), R K G F ph d v → d.lo ph.length = true
  | .non, _, _ => rfl
  | .bl _, _, _ => rfl
  | .int _, _, _ => rfl
  | .str _, _, _ => rfl
  | .cls _, _, _ => rfl
  | .ty _, _, _ => rfl
  | .err c fs, v, h => by
    simp only [R] at h; obtain ⟨a, d, _, _, h3⟩ := h; simp only [D.lo]
    rcases h3 with ⟨q, _⟩ | ⟨dd, ws, _, _, q3⟩
    · rw [q]; rfl
    · exact Rf.lo fs ws q3
  | .lst ds, v, h => by simp only [R] at h; obtain ⟨a, vs, _, _, h3⟩ := h; simp only [D.lo]; exact Rs.lo ds vs h3
  | .tup ds, v, h => by simp only [R] at h; obtain ⟨a, vs, _, _, h3⟩ := h; simp only [D.lo]; exact Rs.lo ds vs h3
  | .ro ds, v, h => by simp only [R] at h; obtain ⟨a, vs, _, _, h3⟩ := h; simp only [D.lo]; exact Rs.lo ds vs h3
  | .dct kvs, v, h => by simp only [R] at h; obtain ⟨a, vs, _, _, h3⟩ := h; simp only [D.lo]; exact Rk.lo kvs vs h3
  | .ins c fs, v, h => by simp only [R] at h; obtain ⟨a, dx, vs, _, _, h3⟩ := h; simp only [D.lo]; exact Rf.lo fs vs h3
  | .cell n, v, h => by
    simp only [R] at h; obtain ⟨a, _, h2⟩ := h; simp only [D.lo, decide_eq_true_eq]; exact (List.getElem?_eq_some_iff.mp h2).1
theorem Rs.lo : ∀ (ds : List D) (vs : List V), Rs K G F ph ds vs → loS ph.length ds = true
  | [], _, _ => rfl
  | d :: ds, vs, h => by
    simp only [Rs] at h; obtain ⟨v, ws, _, h2, h3⟩ := h; simp only [loS, R.lo d v h2, Rs.lo ds ws h3, Bool.and_self]
theorem Rk.lo : ∀ (ds : List (Key × D)) (vs : List (Key × V)), Rk K G F ph ds vs → loK ph.length ds = true
  | [], _, _ => rfl
  | (k, d) :: ds, vs, h => by
    simp only [Rk] at h; obtain ⟨v, ws, _, h2, h3⟩ := h; simp only [loK, R.lo d v h2, Rk.lo ds ws h3, Bool.and_self]
theorem Rf.lo : ∀ (ds : List (Str × D)) (vs : List (Str × V)), Rf K G F ph ds vs → loF ph.length ds = true
  | [], _, _ => rfl
  | (k, d) :: ds, vs, h => by
    simp only [Rf] at h; obtain ⟨v, ws, _, h2, h3⟩ := h; simp only [loF, R.lo d v h2, Rf.lo ds ws h3, Bool.and_self]
end
theorem RelS.lo {st : Store} {H : Hp} (h : RelS K G F ph st H) {n : Nat} {c : Cell} (e : st[n]? = some c) : Cell.lo st.length c = true := by
  obtain ⟨a, _, ck⟩ := h.cellAt e
  rw [← h.len]
  cases c with
  | lst ds => obtain ⟨_, vs, _, r⟩ := ck; exact Rs.lo ds vs r
  | ins k fs => obtain ⟨_, dx, ws, _, r⟩ := ck; exact Rf.lo fs ws r
  | dct kvs => obtain ⟨_, ws, _, r⟩ := ck; exact Rk.lo kvs ws r
  | fz d => obtain ⟨_, r⟩ := ck; exact R.lo d _ r
end
/-! ### what a def is worth -/
abbrev Fn := List D → Store → Res D
/-- what stood ahead is as it was, or tells of nothing that came behind -/
def KeepLo (st st' : Store) : Prop := ∀ (n : Nat) c, n < st.length → st'[n]? = some c → st[n]? = some c ∨ Cell.lo st.length c = true
theorem KeepLo.all {K : PySem.W.Frag} {G : Nat → Addr} {F : Hp} {ph : List Addr} {st st' : Store} {H : Hp} (h : RelS K G F ph st H) (k : KeepLo st st') : (st'.take st.length).all (Cell.lo st.length) = true := by
  rw [List.all_eq_true]
  intro c hc
  obtain ⟨n, hn⟩ := List.getElem?_of_mem hc
  have lt : n < st.length := by
    have := (List.getElem?_eq_some_iff.mp hn).1
    rw [List.length_take] at this; omega
  rw [List.getElem?_take_of_lt lt] at hn
  rcases k n c lt hn with q | q
  · exact h.lo q
  · exact q
open Classical in
noncomputable def outD (cut : Bool) (st : Store) (d : D) (st' : Store) : Res D :=
  if cut = false ∨ st'.length = st.length then .ok d st'
  else if d.lo st.length = true ∧ KeepLo st st' then .ok d (st'.take st.length) else .bad
open Classical in
noncomputable def outX (st : Store) (x : Xc) (st' : Store) : Res D :=
  if st'.length = st.length then .exc x st'
  else if loF st.length x.fs = true ∧ KeepLo st st' then .exc x (st'.take st.length) else .bad
def envOf (n : Nat) (ds : List D) : Env := ds.map some ++ List.replicate (n - ds.length) none
noncomputable def outR (cut : Bool) (st : Store) (r : SRes) : Res D := match r with
  | .ret d st' => outD cut st d st'
  | .next _ st' => outD cut st .non st'
  | .exc x _ st' => outX st x st'
  | _ => .bad
noncomputable def fnD (cut : Bool) (n : Nat) (f : DenS) : Fn := fun ds st => outR cut st (f (envOf n ds) st)
def wantF (K : PySem.W.Frag) (G : Nat → Addr) (E : XK) (Q : VK) (F : Hp) (ph : List Addr) (H : Hp) : Res D → Prop
  | .ok d st => ∀ F' ph' v H', Ex F ph H F' ph' H' → RelS K G F' ph' st H' → R K G F' ph' d v → Q v H'
  | .exc x st => ∀ F' ph' dd H', Ex F ph H F' ph' H' → RelS K G F' ph' st H' → XOk K G F' ph' x dd → E (.ref (G x.c)) dd H'
  | .bad => False
def spD (K : PySem.W.Frag) (G : Nat → Addr) (g : Fn) : Sp := fun vs H Q E => ∃ F ph ds st, RelS K G F ph st H ∧ Rs K G F ph ds vs ∧ wantF K G E Q F ph H (g ds st)
structure FnG (P : Program) (w : World) (K : PySem.W.Frag) (mg : Str → Option Value) (base : Heap) (G : Nat → Addr) (k : Nat) (f : Addr) (fd : FuncData) (ps : List Str) (g : Fn) : Prop where
  run : ∀ (A : Around) (outer : List PySem.Env) (s : Shared) (H : Hp) (args : Args) (us : List Value) (vs : List V) (Q : VK) (E : XK), A.guards = some [] → Room k A → Env0 P w K mg base A outer s H → BindsTo s fd args (ps.zip us) → Vals vs us → vs.length = ps.length →
    spD K G g vs H Q E → codeAny (model P w) A (.call (.ref f) args) (CR (L2.CX P w) outer P w H s Q E) s
theorem ex_cut {F : Hp} {ph : List Addr} {H : Hp} {F' : Hp} {ph' : List Addr} {H' : Hp} (e : Ex F ph H F' ph' H') : Ex F ph H F' (ph'.take ph.length) H' := by
  refine ⟨⟨e.x.fz, fun n a q => ?_⟩, e.keep, fun a z => e.new a (List.mem_of_mem_take z), e.fnew⟩
  rw [List.getElem?_take_of_lt (List.getElem?_eq_some_iff.mp q).1]
  exact e.x.ph n a q
theorem outD_ok {K : PySem.W.Frag} {G : Nat → Addr} {E : XK} {Q : VK} {F : Hp} {ph : List Addr} {H : Hp} {cut : Bool} {st st' : Store} {d : D} (r0 : RelS K G F ph st H) (w : wantF K G E Q F ph H (outD cut st d st')) :
    ∀ F' ph' v H', Ex F ph H F' ph' H' → RelS K G F' ph' st' H' → R K G F' ph' d v → Q v H' := by
  intro F' ph' v H' e r rv
  unfold outD at w
  split at w
  · exact w F' ph' v H' e r rv
  · split at w
    · rename_i hb
      have ka := hb.2.all r0
      have kb := hb.1
      rw [← r0.len] at ka kb w
      exact w F' _ v H' (ex_cut e) (r.cut ka) (R.cut d v kb rv)
    · exact w.elim
theorem outX_ok {K : PySem.W.Frag} {G : Nat → Addr} {E : XK} {Q : VK} {F : Hp} {ph : List Addr} {H : Hp} {st st' : Store} {x : Xc} (r0 : RelS K G F ph st H) (w : wantF K G E Q F ph H (outX st x st')) :
    ∀ F' ph' dd H', Ex F ph H F' ph' H' → RelS K G F' ph' st' H' → XOk K G F' ph' x dd → E (.ref (G x.c)) dd H' := by
  intro F' ph' dd H' e r rv
  unfold outX at w
  split at w
  · exact w F' ph' dd H' e r rv
  · split at w
    · rename_i hb
      have ka := hb.2.all r0
      have kb := hb.1
      rw [← r0.len] at ka kb w
      refine w F' _ dd H' (ex_cut e) (r.cut ka) ?_
      rcases rv with q | ⟨d, ws, q1, q2, q3⟩
      · exact .inl q
      · exact .inr ⟨d, ws, q1, q2, Rf.cut' _ _ kb q3⟩
    · exact w.elim
theorem rel_start {K : PySem.W.Frag} {G : Nat → Addr} {F : Hp} {ph : List Addr} {ds : List D} {vs : List V} {N : List Str} (h : Rs K G F ph ds vs) : RelE K G F ph (start N vs) (envOf N.length ds) := by
  have hl := h.len
  refine ⟨by simp [L2.start, envOf, hl], fun i d q => ?_⟩
  unfold envOf at q
  rcases Nat.lt_or_ge i ds.length with z | z
  · rw [List.getElem?_append_left (by simpa using z), List.getElem?_map] at q
    obtain ⟨d', e1, e2⟩ := Option.map_eq_some_iff.mp q
    cases e2
    obtain ⟨v, e3, e4⟩ := h.get e1
    refine ⟨v, ?_, e4⟩
    unfold L2.start
    rw [List.getElem?_append_left (by simpa [hl] using z), List.getElem?_map, e3]
    rfl
  · rw [List.getElem?_append_right (by simpa using z), List.getElem?_replicate] at q
    split at q <;> cases q

/-- the context of a def that keeps its guards and its room -/
structure Cg (k : Nat) (X : Cx) : Prop where
  gd : X.A.guards = some []
  room : Room k X.A
  calm : X.calm = true
theorem Cg.units {k : Nat} {X : Cx} (c : Cg k X) : X.A.units + 64 < cLine := c.room.units
theorem Cg.units65 {k : Nat} {X : Cx} (c : Cg k X) : X.A.units + 65 < cLine := by have := c.room.un; omega
section
variable {P : Program} {w : World} {K : PySem.W.Frag} {mg : Str → Option Value} {base : Heap} {G : Nat → Addr}
/-- a def by its body's denotation -/
theorem Fng {x qual : Str} {st : Stmt} {f : Addr} {fd : FuncData} {N ps : List Str} {k : Nat} {cut : Bool} {den : DenS} (Fu : Fun K x qual st f fd) (S : FnScope N ps (defScope st))
    (hb : ∀ (cdv : Value) (_ : fd.code = cdv) (A : Around) (outer : List PySem.Env) (s : Shared) (H : Hp) (E : XK), Cg k (cxOf (L2.CX P w) P w K mg base N qual (defScope st) f cdv A outer s H E) →
      DSs (cxOf (L2.CX P w) P w K mg base N qual (defScope st) f cdv A outer s H E) G (fun c d _ H' => E c d H') (defBody st) den) :
    FnG P w K mg base G (k + 1) f fd ps (fnD cut N.length den) := by
  refine ⟨fun A outer s H args us vs Q E hgd hr e0 hbi r hlen hsp => ?_⟩
  obtain ⟨oc, od, kV, doc, pm, an, cdv, ct, osl, rfl, lk, hcd⟩ := Fu.ex
  obtain ⟨F, ph, ds, sto, rs, rds, wf⟩ := hsp
  have kin : K.In s.heap := e0.mod.kin.keeps fun b o e => (e0.bs b o e).1
  have kinds : ∀ y ∈ ps.zip us, (defScope st).names.lookup y.1 = some .local ∨ ((defScope st).names.lookup y.1 = some .cell ∧ ((cellsFrom (s.heap.objs.size + 1) (defScope st).names []).lookup y.1).isSome = true) := by
    rintro ⟨m, u⟩ hy
    have hm := S.par m (List.of_mem_zip hy).1
    exact hm.imp id fun q => ⟨q, PySem.W.cellsFrom_some _ _ _ (.inl q)⟩
  refine codeAny_call_function hr.depth (kin _ _ lk) rfl S.co S.gen rfl (PySem.W.codeRec_of kin hcd) (hbi _ _ _ _ ?_)
  refine wpAny_newFunctionEnv_cells S.kind kinds fun env he s1 x1 => ?_
  subst he
  have lim : s.heap.NoLimit := e0.mod.nolimit.keeps fun b o e => (e0.bs b o e).1
  refine ⟨lim.keeps x1.toInCall.keep, codeAny_func ?_⟩
  have I := inv_start (CX := L2.CX P w) (E := E) S hr.hd e0 hlen r x1
  have body := hb cdv rfl A outer s H E ⟨hgd, hr.deeper _, rfl⟩
  have run := PSs.run body [] s1 (start N vs) H { nx := fun _ H' => Q .non H', rt := Q } I ⟨F, ph, envOf N.length ds, sto, ⟨rs, rel_start rds⟩, ?_⟩
  · refine wpAny_mono run (fun fl s' hs => ?_) fun e s' hs => hs
    cases fl with
    | ret u => obtain ⟨v, σ', H', J, rv, q⟩ := hs; exact ⟨v, H', J.os, J.bare, J.base, J.hok, rv, q⟩
    | next => obtain ⟨σ', H', J, q⟩ := hs; exact ⟨.non, H', J.os, J.bare, J.base, J.hok, rfl, q⟩
    | brk => obtain ⟨_, _, _, q⟩ := hs; exact False.elim q
    | cont => obtain ⟨_, _, _, q⟩ := hs; exact False.elim q
  · unfold fnD outR at wf
    cases e : den (envOf N.length ds) sto with
    | ret d st' => rw [e] at wf; exact outD_ok rs wf
    | next env' st' => rw [e] at wf; exact fun F' ph' σ' H' ex r' => outD_ok rs wf F' ph' .non H' ex r'.s (by simp only [R])
    | exc xx env' st' => rw [e] at wf; exact fun F' ph' dd σ' H' ex r' xo => outX_ok rs wf F' ph' dd H' ex r'.s xo
    | brk env' st' => rw [e] at wf; exact wf.elim
    | cont env' st' => rw [e] at wf; exact wf.elim
    | bad => rw [e] at wf; exact wf.elim
end
section
variable {X : Cx} {G : Nat → Addr} {W : WX} {k : Nat} {f : Addr} {fd : FuncData} {ps : List Str} {g : Fn}
theorem run_fng {pins : List (Addr × Obj)} {σ : L2.St} {env : Env} {F : Hp} {ph : List Addr} {st : Store} {H : Hp} {s : Shared} {Q : VK} {us us' : List Value} {kw : List (Str × Value)} {vs : List V} {ds : List D} (Fn : FnG X.prog X.w X.K X.mg X.base G k f fd ps g) (gd : X.A.guards = some []) (hr : Room k X.A) (tk : Takes X W)
    (hb : BindsTo s fd ⟨us, kw⟩ (ps.zip us')) (I : L2.Inv X pins σ H s) (r : Vals vs us') (hl : vs.length = ps.length) (rel : Rel X.K G F ph σ env st H) (rds : Rs X.K G F ph ds vs) (h : want X.K G (R X.K G) W σ env Q F ph H (g ds st)) :
    wpAny (model X.prog X.w) X.A (call (.ref f) us kw) (EP X pins σ Q) X.xe s := by
  have sp : spD X.K G g vs H Q (fun c d H' => W c d σ H') := by
    refine ⟨F, ph, ds, st, rel.s, rds, ?_⟩
    cases e : g ds st with
    | ok d st' => rw [e] at h; exact fun F' ph' v H' ex r' rv => h F' ph' v H' ex ⟨r', rel.e.mono ex.x⟩ rv
    | exc xx st' => rw [e] at h; exact fun F' ph' dd H' ex r' xo => h F' ph' dd H' ex ⟨r', rel.e.mono ex.x⟩ xo
    | bad => rw [e] at h; exact h
  refine wpAny_call (codeAny_mono (Fn.run X.A X.stack s H ⟨us, kw⟩ us' vs Q _ gd hr I.env0 hb r hl sp) fun res s' hq => ?_)
  cases res with
  | error e => exact tk e s' (XE.of_call I (fun _ _ _ q => q) hq)
  | ok fl =>
    cases fl with
    | ret u => exact I.after hq
    | next => exact hq.elim
    | brk => exact hq.elim
    | cont => exact hq.elim
/-- f(e, ..) of a def of the program, all its parameters given by place -/
theorem de_call {x : Str} {e : Expr} {es : List Expr} {fa : DenA} {p pos : Pos} (Fn : FnG X.prog X.w X.K X.mg X.base G k f fd ps g) (gd : X.A.guards = some []) (hr : Room k X.A) (tk : Takes X W) (hm : X.mg x = some (.ref f)) (hk : PySem.W.keepIn X.K (.ref f) = true)
    (hb : Binds X.K fd ps []) (ha : DA X G W (e :: es) fa) (hn : ps.length = (e :: es).length := by rfl) (hg : Gl X x := by rfl) (hdb : (x == ("__debug__" : Str)) = false := by decide)
    (he : starEach (e :: es) X.env = (false, eval e X.env) :: starEach es X.env := by rfl) (hpl : (backTo pos (starEach es X.env)).any (·.1) = false := by rfl)
    (hlen : ∀ env st ds st', fa env st = .ok ds st' → ds.length = ps.length) :
    DE X G W (.Call (.Name x p) (e :: es) [] pos) (eArgs g fa) := by
  refine ⟨fun pins s σ H Q I ⟨F, ph, env, st, r, w⟩ => ?_⟩
  refine wpAny_Call_Name_kw (ld_glob I hg hm ?_ hdb)
  have key : rd X.K G (Rs X.K G) W fa σ H fun vs H1 => ∃ F1 p1 st1 ds, Rel X.K G F1 p1 σ env st1 H1 ∧ Rs X.K G F1 p1 ds vs ∧ ds.length = ps.length ∧ want X.K G (R X.K G) W σ env Q F1 p1 H1 (g ds st1) := by
    refine ⟨F, ph, env, st, r, ?_⟩
    unfold eArgs at w
    cases q : fa env st with
    | ok ds st1 => rw [q] at w; exact fun F1 p1 vs H1 e1 r1 rv => ⟨F1, p1, st1, ds, r1, rv, hlen _ _ _ _ q, want.mono e1 w⟩
    | exc xx st1 => rw [q] at w; exact w
    | bad => rw [q] at w; exact w
  refine PySem.W.callWith_K (h₀ := X.base) I.ok.mod.kin hk (thn (ha.run pos pins s σ H _ I key) fun us s1 ⟨vs, H1, I1, rv, F1, p1, st1, ds, r1, rds, hl, w1⟩ => ⟨I1.kIn, ?_⟩) he hpl
  have lv : vs.length = ps.length := by rw [rds.len]; exact hl
  have hbi := hb s1 us I1.kIn (by rw [List.append_nil, ← rv.length]; exact lv)
  rw [List.append_nil] at hbi
  exact run_fng Fn gd hr tk hbi I1 rv lv r1 rds w1
end
theorem alen_nil {env : Env} {st : Store} {ds : List D} {st' : Store} (h : aNil env st = .ok ds st') : ds.length = 0 := by
  unfold aNil at h; cases h; rfl
theorem alen_cons {f : DenE} {g : DenA} {n : Nat} (hg : ∀ env st ds st', g env st = .ok ds st' → ds.length = n) : ∀ env st ds st', aCons f g env st = .ok ds st' → ds.length = n + 1 := by
  intro env st ds st' h
  unfold aCons at h
  cases e : f env st with
  | ok d st1 =>
    rw [e] at h
    simp only [Res.bind] at h
    cases e2 : g env st1 with
    | ok es st2 =>
      rw [e2] at h
      simp only [Res.ok.injEq] at h
      rw [← h.1, List.length_cons, hg env st1 es st2 e2]
    | exc x s2 => rw [e2] at h; cases h
    | bad => rw [e2] at h; cases h
  | exc x s1 => rw [e] at h; cases h
  | bad => rw [e] at h; cases h

/-! ### the law's own end -/
theorem rs_ints {K : PySem.W.Frag} {G : Nat → Addr} {F : Hp} {ph : List Addr} : ∀ ns : List Int, Rs K G F ph (ns.map D.int) (ns.map V.int)
  | [] => by simp [Rs]
  | n :: ns => by simp only [List.map_cons, Rs, R]; exact ⟨_, _, rfl, rfl, rs_ints ns⟩
/-- nothing is frozen but what is locked at the entry -/
theorem endG {P : Program} {w : World} {K : PySem.W.Frag} {mg mb : Str → Option Value} {G : Nat → Addr} {k : Nat} {fa a : Addr} {fd : FuncData} {x : Str} {g : Fn} {s1 : Shared} {vs : List Value} {ns : List Int}
    (KX : K.In s1.heap) (hns : s1.heap.Ns mainGlobals mg) (hb : s1.heap.Ns builtinsNs mb) (hbb : ∀ y : Str, y ≠ "__name__" → mb y = bootBuiltins y) (hlim : s1.heap.NoLimit) (hg : s1.gens = #[])
    (ha : s1.heap.get? a = some { cls := .type "list", data := .seq vs.toArray }) (hi : IntsAre vs ns) (hl : ns.length ≤ sizeLine) (hr : Room k callerA)
    (Fn : ∀ base : Heap, K.In base → base.Ns mainGlobals mg → FnG P w K mg base G k fa fd [x] g) (hbi : ∀ (s : Shared) (u : Value), BindsTo s fd ⟨[u], []⟩ [(x, u)])
    (h9 : G 999 = 0) (hok : g [.ro (ns.map D.int)] [] = .ok (.bl true) []) :
    codeAny (model P w) callerA (.call (.ref fa) ⟨[.ref a], []⟩) (fun r s' => r = .ok (.ret (.bool true)) ∧ OldK s1.heap s'.heap ∧ s'.os = s1.os ∧ AllBare s'.gens) s1 := by
  have rv := vals_ints hi
  have lenV := hi.length
  have go : ∀ H : Hp, Only H → SqL K H a (ns.map V.int) → HOk P w H s1.heap → (∀ b, H b ≠ none → b = a) → (H a ≠ none → K.lookup a = none) →
      codeAny (model P w) callerA (.call (.ref fa) ⟨[.ref a], []⟩) (fun r s' => r = .ok (.ret (.bool true)) ∧ OldK s1.heap s'.heap ∧ s'.os = s1.os ∧ AllBare s'.gens) s1 := by
    intro H hO hS hHk only hK
    have dictFree : ∀ {b : Addr} {o : Obj} {es : Array DictEntry} {ep : Nat}, s1.heap.get? b = some o → o.data = .dict es ep → H b = none := by
      intro b o es ep e dd
      cases q : H b with
      | none => rfl
      | some u =>
        obtain rfl := only b (by rw [q]; simp)
        rw [ha] at e; cases e
        cases dd
    have ns1 : ∀ {b : Addr} {m : Str → Option Value}, s1.heap.Ns b m → (hidT s1.heap H).Ns b m := by
      rintro b m ⟨o, es, ep, e, dd, r⟩
      exact ⟨o, es, ep, hidT_get e (dictFree e dd), dd, r⟩
    have kb : K.In (hidT s1.heap H) := by
      intro b o e
      refine hidT_get (KX b o e) ?_
      cases q : H b with
      | none => rfl
      | some u =>
        obtain rfl := only b (by rw [q]; simp)
        rw [hK (by rw [q]; simp)] at e; cases e
    have lim1 : (hidT s1.heap H).NoLimit := by
      obtain ⟨mc, h1, h2⟩ := hlim
      exact ⟨mc, ns1 h1, h2⟩
    have e0 : Env0 P w K mg (hidT s1.heap H) callerA [] s1 H :=
      ⟨rfl, ⟨kb, ns1 hns, ⟨mb, ns1 hb, hbb⟩, lim1⟩, fun b o e => of_hidT e, Nat.le_of_eq (hidT_size _ _), trivial, fun b z => (by cases z), hHk, .of_eq hg⟩
    have sp : spD K G g [.ref a] H (fun v _ => v = .bl true) (fun _ _ _ => False) := by
      refine ⟨H, [], [.ro (ns.map D.int)], [], ⟨fun _ _ q => q, rfl, List.nodup_nil, fun n c b q _ => by simp at q, ⟨fun b ps z => (by rcases hO b with q | ⟨_, _, q⟩ <;> rw [z] at q <;> cases q), fun j hj => (by rw [h9] at hj; exact absurd hj (Nat.not_lt_zero _)), fun b ps z => (by rcases hO b with q | ⟨_, _, q⟩ <;> rw [z] at q <;> cases q)⟩⟩, ?_, ?_⟩
      · simp only [Rs, R]
        exact ⟨_, _, rfl, ⟨a, _, rfl, hS, rs_ints ns⟩, rfl⟩
      · rw [hok]
        intro F' ph' v H' _ _ rb
        simpa only [R] using rb
    refine codeAny_mono ((Fn _ kb (ns1 hns)).run callerA [] s1 H ⟨[.ref a], []⟩ [.ref a] [.ref a] _ _ rfl hr e0 (hbi s1 (.ref a)) (.cons rfl .nil) rfl sp) fun r s' h => ?_
    cases r with
    | error e =>
      exfalso
      obtain ⟨_, _, _, _, _, _, _, _, _, _, _, _, z⟩ := h
      exact z
    | ok fl =>
      cases fl with
      | next => exact False.elim h
      | brk => exact False.elim h
      | cont => exact False.elim h
      | ret u =>
        obtain ⟨v, H', os, bare, un, hok', r', q⟩ := h
        have qv : v = .bl true := q
        subst qv
        cases r'
        refine ⟨rfl, OldK.of_keep fun b o e => ?_, os, bare⟩
        cases qb : H b with
        | none => exact un.keep b o e qb (fun z => by cases z) (by simp)
        | some u =>
          rcases hO b with z | ⟨ob, xs, z⟩
          · rw [qb] at z; cases z
          · obtain ⟨e1, _⟩ := hHk b _ z
            obtain ⟨e2, _⟩ := hok' b _ (un.frzs b ob _ z)
            rw [e] at e1; cases e1
            exact e2
  cases hk : K.lookup a with
  | some o =>
    have e := KX a o hk
    rw [ha] at e; cases e
    exact go (fun _ => none) (fun _ => .inl rfl) (.inr ⟨_, vs.toArray, _, hk, rfl, rfl, rfl, by rw [List.size_toArray, lenV]; exact hl, by simpa using rv⟩) (fun b u z => by cases z) (fun b z => absurd rfl z) fun z => absurd rfl z
  | none =>
    refine go (upd (fun _ => none) a (.frz { cls := .type "list", data := .seq vs.toArray } (.lst (ns.map V.int)))) (fun b => ?_) (.inl (.inr ⟨_, upd_same⟩)) (fun b u z => ?_) (fun b z => ?_) fun _ => hk
    · by_cases e : b = a
      · subst e; exact .inr ⟨_, _, upd_same⟩
      · rw [upd_ne e]; exact .inl rfl
    · by_cases e : b = a
      · subst e; rw [upd_same] at z; cases z
        exact ⟨ha, by rw [List.length_map]; exact hl, vs, _, rv, ha⟩
      · rw [upd_ne e] at z; cases z
    · by_cases e : b = a
      · exact e
      · rw [upd_ne e] at z; exact absurd rfl z
/-- the goal that k_head leaves, from the law's denotation -/
theorem walkG {l : PySem.W.OpenLaw} {n k : Nat} {q : Program} {loose : List Str} {XP : (Str → Option Value) → Heap → Prop} {YP : World → Heap → Prop} {d : DefRec} {K : Params → PySem.W.Frag} {x : Str} {g : Fn}
    (hn : l.most = some n) (hn2 : n ≤ sizeLine) (hdf : d.params.defaults = []) (hr : Room k callerA) (hY : ∀ (w : World) (h : Heap), YP w h → (K w.params).In h)
    (Fn : ∀ (w : World) (mg : Str → Option Value) (fa : Addr) (h : Heap), (K w.params).In h → h.Ns mainGlobals mg → mg d.name = some (.ref fa) →
      ∃ (G : Nat → Addr) (fd : FuncData), G 999 = 0 ∧ (∀ (s : Shared) (u : Value), BindsTo s fd ⟨[u], []⟩ [(x, u)]) ∧
        ∀ base : Heap, (K w.params).In base → base.Ns mainGlobals mg → FnG l.prog w (K w.params) mg base G k fa fd [x] g)
    (hok : ∀ ns : List Int, ns.length ≤ n → (∀ z ∈ ns, Builtin.Int.intBits z ≤ 1048576) → g [.ro (ns.map D.int)] [] = .ok (.bl true) []) :
    PySem.W.WalkO q loose XP YP l.row.toRowW d [] (fun f vs => PySem.call f vs) := by
  refine Att.attach_callB hn hdf fun w s0 s1 mg mb fa o pm cd doc a vs ns Gr Y ho hd hcd hmg hobj hints hlen hbits hg => ?_
  have KX := hY w _ Y
  obtain ⟨G, fd, h9, hb, hF⟩ := Fn w mg fa _ KX Gr.T.g hmg
  exact endG KX Gr.T.g Gr.T.b Gr.T.builtins Gr.T.nolimit hg hobj hints (Nat.le_trans hlen hn2) hr hF hb h9 (hok ns hlen hbits)
end Den

namespace Den
open PySem PySem.Spec PyProof.Rows L2
theorem bt_int : bootBuiltins "int" = some (.type "int") := by decide +kernel
theorem bt_str : bootBuiltins "str" = some (.type "str") := by decide +kernel
theorem bt_bool : bootBuiltins "bool" = some (.type "bool") := by decide +kernel
theorem bt_list : bootBuiltins "list" = some (.type "list") := by decide +kernel
theorem bt_tuple : bootBuiltins "tuple" = some (.type "tuple") := by decide +kernel
theorem bf_len : bootBuiltins "len" = some (.builtin "len") := by decide +kernel
theorem bf_abs : bootBuiltins "abs" = some (.builtin "abs") := by decide +kernel
theorem bf_max : bootBuiltins "max" = some (.builtin "max") := by decide +kernel
theorem bf_min : bootBuiltins "min" = some (.builtin "min") := by decide +kernel
theorem bf_divmod : bootBuiltins "divmod" = some (.builtin "divmod") := by decide +kernel
theorem bf_repr : bootBuiltins "repr" = some (.builtin "repr") := by decide +kernel
theorem bf_all : bootBuiltins "all" = some (.builtin "all") := by decide +kernel
theorem bf_isinstance : bootBuiltins "isinstance" = some (.builtin "isinstance") := by decide +kernel
end Den

namespace Den
open PySem PySem.Spec PyProof.Rows L2

/-! ### plain data: what it shows as -/
mutual
def pyD : D → PyData
  | .non => .none
  | .bl b => .bool b
  | .int i => .int i
  | .str x => .str x
  | .lst ds => .list (pyDs ds)
  | .ro ds => .list (pyDs ds)
  | .tup ds => .tuple (pyDs ds)
  | .dct kvs => .dict (pyDk kvs)
  | .cell _ => .none
  | .ins _ _ => .none
  | .cls _ => .none
  | .ty _ => .none
  | .err _ _ => .none
def pyDs : List D → List PyData
  | [] => []
  | d :: ds => pyD d :: pyDs ds
def pyDk : List (Key × D) → List (PyData × PyData)
  | [] => []
  | (k, d) :: ds => (keyPy k, pyD d) :: pyDk ds
end
def intFit (i : Int) : Bool := decide (i.natAbs < 10 ^ 150)
def strFit (x : Str) : Bool := x.cps.toList.all fun c => decide (c < 1114112)
def keyFit : Key → Bool
  | .inl i => intFit i
  | .inr x => strFit x
def keyMz : Key → Nat
  | .inl _ => 500
  | .inr x => x.cps.size
mutual
/-- plain through and through -/
def lf : D → Bool
  | .non => true
  | .bl _ => true
  | .int i => intFit i
  | .str x => strFit x
  | .lst ds => lfs ds
  | .tup ds => lfs ds
  | .dct kvs => lfk kvs
  | .ro _ => false
  | .cell _ => false
  | .ins _ _ => false
  | .cls _ => false
  | .ty _ => false
  | .err _ _ => false
def lfs : List D → Bool
  | [] => true
  | d :: ds => lf d && lfs ds
def lfk : List (Key × D) → Bool
  | [] => true
  | (k, d) :: ds => keyFit k && lf d && lfk ds
end
mutual
def mz : D → Nat
  | .int _ => 500
  | .str x => x.cps.size
  | .lst ds => mzs ds
  | .tup ds => mzs ds
  | .dct kvs => mzk kvs
  | .non => 0
  | .bl _ => 0
  | .ro _ => 0
  | .cell _ => 0
  | .ins _ _ => 0
  | .cls _ => 0
  | .ty _ => 0
  | .err _ _ => 0
def mzs : List D → Nat
  | [] => 0
  | d :: ds => mz d + 1 + mzs ds
def mzk : List (Key × D) → Nat
  | [] => 0
  | (k, d) :: ds => keyMz k + mz d + 2 + mzk ds
end
theorem int_ok {i : Int} (h : intFit i = true) : (PyData.int i).showable = true ∧ (PyData.int i).leavesShort 151 = true ∧ (PyData.int i).weight ≤ 500 := by
  have h1 : i.natAbs < 10 ^ 150 := of_decide_eq_true h
  have h2 : i.natAbs < 2 ^ 499 := Nat.lt_of_lt_of_le h1 (by decide +kernel)
  have h3 : i.natAbs.log2 < 499 := by
    by_cases h0 : i.natAbs = 0
    · rw [h0]; decide
    · exact (Nat.log2_lt h0).mpr h2
  refine ⟨?_, ?_, ?_⟩
  · simp only [PyData.showable, decide_eq_true_eq]; omega
  · have := int_text_length_le10 (k := 150) (by decide) h1
    simp only [PyData.leavesShort, PyData.shown]
    refine decide_eq_true ?_
    show (Str.ofString (toString i)).length ≤ 151
    rw [PySem.ofString_length]; omega
  · simp only [PyData.weight]; split <;> omega
theorem str_ok {x : Str} (h : strFit x = true) : (PyData.str x).showable = true ∧ (PyData.str x).leavesShort 151 = true ∧ (PyData.str x).weight = x.cps.size := by
  refine ⟨by simp only [PyData.showable], ?_, by simp only [PyData.weight]⟩
  simp only [PyData.leavesShort]
  refine List.all_eq_true.mpr fun c hc => ?_
  have := of_decide_eq_true (List.all_eq_true.mp h c hc)
  exact decide_eq_true (Nat.lt_trans this (by decide))
theorem key_ok {k : Key} (h : keyFit k = true) : (keyPy k).showable = true ∧ (keyPy k).leavesShort 151 = true ∧ (keyPy k).weight ≤ keyMz k := by
  cases k with
  | inl i => exact int_ok h
  | inr x => exact ⟨(str_ok h).1, (str_ok h).2.1, Nat.le_of_eq (str_ok h).2.2⟩
mutual
theorem lf_py (cel : Nat → Option PyData) : ∀ d, lf d = true → toPyC cel d = some (pyD d) ∧ (pyD d).showable = true ∧ (pyD d).leavesShort 151 = true ∧ (pyD d).weight ≤ mz d
  | .non, _ => by simp [toPyC, pyD, PyData.showable, PyData.leavesShort, PyData.weight]
  | .bl _, _ => by simp [toPyC, pyD, PyData.showable, PyData.leavesShort, PyData.weight]
  | .int i, h => by
    simp only [lf] at h
    simp only [toPyC, pyD, mz]
    exact ⟨trivial, int_ok h⟩
  | .str x, h => by
    simp only [lf] at h
    simp only [toPyC, pyD, mz]
    exact ⟨trivial, (str_ok h).1, (str_ok h).2.1, Nat.le_of_eq (str_ok h).2.2⟩
  | .lst ds, h => by
    simp only [lf] at h
    obtain ⟨h1, h2, h3, h4⟩ := lfs_py cel ds h
    simp only [toPyC, pyD, mz, h1, Option.map_some, PyData.showable, PyData.leavesShort, PyData.weight]
    exact ⟨trivial, h2, h3, h4⟩
  | .tup ds, h => by
    simp only [lf] at h
    obtain ⟨h1, h2, h3, h4⟩ := lfs_py cel ds h
    simp only [toPyC, pyD, mz, h1, Option.map_some, PyData.showable, PyData.leavesShort, PyData.weight]
    exact ⟨trivial, h2, h3, h4⟩
  | .dct ds, h => by
    simp only [lf] at h
    obtain ⟨h1, h2, h3, h4⟩ := lfk_py cel ds h
    simp only [toPyC, pyD, mz, h1, Option.map_some, PyData.showable, PyData.leavesShort, PyData.weight]
    exact ⟨trivial, h2, h3, h4⟩
  | .ro _, h => by simp [lf] at h
  | .cell _, h => by simp [lf] at h
  | .ins _ _, h => by simp [lf] at h
  | .cls _, h => by simp [lf] at h
  | .ty _, h => by simp [lf] at h
  | .err _ _, h => by simp [lf] at h
theorem lfs_py (cel : Nat → Option PyData) : ∀ ds, lfs ds = true → toPyCs cel ds = some (pyDs ds) ∧ PyData.showableAll (pyDs ds) = true ∧ PyData.leavesShortAll 151 (pyDs ds) = true ∧ PyData.weightAll (pyDs ds) ≤ mzs ds
  | [], _ => by simp [toPyCs, pyDs, PyData.showableAll, PyData.leavesShortAll, PyData.weightAll]
  | d :: ds, h => by
    simp only [lfs, Bool.and_eq_true] at h
    obtain ⟨h1, h2, h3, h4⟩ := lf_py cel d h.1
    obtain ⟨g1, g2, g3, g4⟩ := lfs_py cel ds h.2
    simp only [toPyCs, pyDs, mzs, h1, g1, PyData.showableAll, PyData.leavesShortAll, PyData.weightAll, h2, h3, g2, g3, Bool.and_self, true_and]
    omega
theorem lfk_py (cel : Nat → Option PyData) : ∀ ds, lfk ds = true → toPyCk cel ds = some (pyDk ds) ∧ PyData.showableKv (pyDk ds) = true ∧ PyData.leavesShortKv 151 (pyDk ds) = true ∧ PyData.weightKv (pyDk ds) ≤ mzk ds
  | [], _ => by simp [toPyCk, pyDk, PyData.showableKv, PyData.leavesShortKv, PyData.weightKv]
  | (k, d) :: ds, h => by
    simp only [lfk, Bool.and_eq_true] at h
    obtain ⟨k1, k2, k3⟩ := key_ok h.1.1
    obtain ⟨h1, h2, h3, h4⟩ := lf_py cel d h.1.2
    obtain ⟨g1, g2, g3, g4⟩ := lfk_py cel ds h.2
    simp only [toPyCk, pyDk, mzk, h1, g1, PyData.showableKv, PyData.leavesShortKv, PyData.weightKv, h2, h3, g2, g3, k1, k2, Bool.and_self, true_and]
    omega
end
/-- what repr and == take -/
def fine (d : D) : Bool := lf d && decide (mz d ≤ 100000) && decide ((pyD d).depth ≤ 60)
theorem fine_lf {d : D} (h : fine d = true) : lf d = true := by
  simp only [fine, Bool.and_eq_true] at h; exact h.1.1
theorem fine_repr {d : D} (h : fine d = true) : reprOk (pyD d) = true := by
  simp only [fine, Bool.and_eq_true, decide_eq_true_eq] at h
  obtain ⟨⟨h1, h2⟩, h3⟩ := h
  obtain ⟨g1, g2, g3, g4⟩ := lf_py (fun _ => none) d h1
  simp only [reprOk, g2, Bool.and_eq_true, decide_eq_true_eq, true_and]
  refine ⟨?_, h3⟩
  have := PyData.shown_le 151 (by decide) _ g3
  rw [sizeLine_eq]
  have h5 : (151 + 2) * (pyD d).weight ≤ 153 * 100000 := Nat.mul_le_mul_left _ (Nat.le_trans g4 h2)
  omega
theorem reprD_fine {d : D} (h : fine d = true) (st : Store) : reprD [d] st = .ok (.str (pyD d).shown) st := by
  have e : toPy st d = some (pyD d) := (lf_py _ d (fine_lf h)).1
  show reprF d st = _
  simp only [reprF, e, fine_repr h, if_true]

/-! ### running -/
theorem outD_same (c : Bool) (st st' : Store) (d : D) (h : st'.length = st.length) : outD c st d st' = .ok d st' := by
  simp [outD, h]
@[reducible] def Ph {α : Type} (_a : α) : Type := Unit
def Res.wp {α : Type} (r : Res α) (Q : α → Store → Prop) (E : Xc → Store → Prop) (_u : Ph Q := ()) (_v : Ph E := ()) : Prop := match r with
  | .ok a st => Q a st
  | .exc x st => E x st
  | .bad => False
def SRes.wp (r : SRes) (N : Env → Store → Prop) (P : SRes → Prop) (_u : Ph N := ()) (_v : Ph P := ()) : Prop := match r with
  | .next env st => N env st
  | .bad => False
  | r => P r
abbrev NX : Xc → Store → Prop := fun _ _ => False
section
variable {α β : Type} {env : Env} {st : Store} {Q : α → Store → Prop} {QD : D → Store → Prop} {E : Xc → Store → Prop} {N : Env → Store → Prop} {P : SRes → Prop}
theorem wp_ok {a : α} : (Res.ok a st).wp Q E = Q a st := id rfl
theorem wp_bad : (Res.bad (α := α)).wp Q E = False := id rfl
theorem wp_next : (SRes.next env st).wp N P = N env st := id rfl
theorem wp_ret {d : D} : (SRes.ret d st).wp N P = P (.ret d st) := id rfl
theorem wp_sbad : SRes.bad.wp N P = False := id rfl
theorem wp_bind {r : Res α} {k : α → Store → Res β} {Q : β → Store → Prop} : (r.bind k).wp Q E = r.wp (fun a st => (k a st).wp Q E) E := by cases r <;> rfl
theorem Res.wp_ext {r : Res α} {Q Q' : α → Store → Prop} (h : ∀ a st, Q a st = Q' a st) : r.wp Q E = r.wp Q' E := by
  have : Q = Q' := funext fun a => funext fun st => h a st
  subst this; rfl
theorem wp_andS {r : Res α} {k : α → Store → SRes} : (r.andS env k).wp N P = r.wp (fun a st => (k a st).wp N P) (fun x st => P (.exc x env st)) := by cases r <;> rfl
theorem wp_sSeq {f g : DenS} : (sSeq f g env st).wp N P = (f env st).wp (fun env1 st1 => (g env1 st1).wp N P) P := by
  unfold sSeq; cases f env st <;> rfl
theorem wp_ite {c : Prop} [Decidable c] {a b : Res α} : (if c then a else b).wp Q E = if c then a.wp Q E else b.wp Q E := by split <;> rfl
theorem wp_ites {c : Prop} [Decidable c] {a b : SRes} : (if c then a else b).wp N P = if c then a.wp N P else b.wp N P := by split <;> rfl
theorem Res.wp_mono {r : Res α} {Q' : α → Store → Prop} (h : r.wp Q E) (i : ∀ a st, Q a st → Q' a st) : r.wp Q' E := by
  cases r with
  | ok a st => exact i _ _ h
  | exc x st => exact h
  | bad => exact h
theorem Res.wp_eq {r : Res α} {a : α} (h : r = .ok a st) (q : Q a st) : r.wp Q E := by subst h; exact q
theorem Res.of_wp {r : Res α} (h : r.wp Q NX) : ∃ a st', r = .ok a st' ∧ Q a st' := by
  cases r with
  | ok a st => exact ⟨_, _, rfl, h⟩
  | exc x st => exact h.elim
  | bad => exact h.elim
/-- a def's end -/
def outP (cut : Bool) (st : Store) (Q : D → Store → Prop) (E : Xc → Store → Prop) : SRes → Prop := fun r => (outR cut st r).wp Q E
theorem wp_fnD {cut : Bool} {n : Nat} {f : DenS} {ds : List D} : (fnD cut n f ds st).wp QD E = (f (envOf n ds) st).wp (fun _ st' => (outD cut st .non st').wp QD E) (outP cut st QD E) := by
  unfold fnD outP
  cases h : f (envOf n ds) st <;> simp only [outR, SRes.wp, Res.wp]
theorem outP_ret {cut : Bool} {d : D} {st0 : Store} : outP cut st0 QD E (.ret d st) = (outD cut st0 d st).wp QD E := id rfl
theorem wp_outD_same {c : Bool} {st0 : Store} {d : D} (h : st.length = st0.length) : (outD c st0 d st).wp QD E = QD d st := by
  rw [outD_same c st0 st d h]; rfl
theorem wp_outD_keep {st0 : Store} {d : D} : (outD false st0 d st).wp QD E = QD d st := id rfl
/-! loops -/
end
section
variable {env : Env} {st : Store} {d : D} {i j : Int}
theorem cmp_ii {p : Int → Int → Bool} : cmpI p (.int i) (.int j) st = .ok (.bl (p i j)) st := id rfl
theorem neg_i : negD (.int i) st = .ok (.int (-i)) st := id rfl
theorem add_ii : addD (.int i) (.int j) st = .ok (.int (i + j)) st := id rfl
theorem sub_ii : subD (.int i) (.int j) st = .ok (.int (i - j)) st := id rfl
theorem mul_ii (h : mulOk i j = true) : mulD (.int i) (.int j) st = .ok (.int (i * j)) st := by simp only [mulD, h, if_true]
theorem mod_ii (h : 0 < j) : modD (.int i) (.int j) st = .ok (.int (i % j)) st := by simp only [modD, h, if_true]
theorem fdiv_ii (h : divOk j = true) : fdivD (.int i) (.int j) st = .ok (.int (i / j)) st := by simp only [fdivD, h, if_true]
theorem divmod_ii (h : divOk j = true) : divmodD [.int i, .int j] st = .ok (.tup [.int (i / j), .int (i % j)]) st := by simp only [divmodD, h, if_true]
theorem pow_ii (h : 0 ≤ j ∧ j ≤ 1000000 ∧ i.natAbs < 2 ^ 64) : powD (.int i) (.int j) st = .ok (.int (i ^ j.toNat)) st := by simp only [powD, h, if_true, and_self]
theorem asR_cell {n : Nat} {xs : List D} (h : st[n]? = some (.lst xs)) : asR st (.cell n) = some xs := by simp [asR, asL, h, asC]
theorem ix_lst {xs : List D} (e : L2.atI xs i = some d) : ixD (.lst xs) (.int i) st = .ok d st := by
  simp only [ixD, asR, asL, e]
theorem ix_tup {xs : List D} (e : L2.atI xs i = some d) : ixD (.tup xs) (.int i) st = .ok d st := by
  simp only [ixD, e]
theorem mkL_ok {xs : List D} (h : xs.length ≤ sizeLine) : mkL xs st = .ok (.lst xs) st := by simp only [mkL, h, if_true]
theorem mkT_ok {xs : List D} (h : xs.length ≤ sizeLine) : mkT xs st = .ok (.tup xs) st := by simp only [mkT, h, if_true]
theorem mkC_ok {xs : List D} (h : xs.length ≤ sizeLine) : mkC xs st = .ok (.cell st.length) (st ++ [.lst xs]) := by simp only [mkC, h, if_true]
theorem atI_nat {α : Type} {xs : List α} {k : Int} (h0 : 0 ≤ k) (h : k < xs.length) : ∃ d, L2.atI xs k = some d ∧ d ∈ xs := by
  refine ⟨xs[k.toNat]'(by omega), ?_, List.getElem_mem _⟩
  simp only [L2.atI, L2.ixN, h0, h, if_true, Option.bind_some]
  exact List.getElem?_eq_getElem _
theorem len_lst {xs : List D} : lenD [.lst xs] st = .ok (.int xs.length) st := id rfl
theorem len_ro {xs : List D} : lenD [.ro xs] st = .ok (.int xs.length) st := id rfl
theorem len_tup {xs : List D} : lenD [.tup xs] st = .ok (.int xs.length) st := id rfl
theorem len_str {x : Str} (h : x.length ≤ sizeLine) : lenD [.str x] st = .ok (.int x.length) st := by simp only [lenD, h, if_true]
end
section
variable {env : Env} {st : Store} {Q : D → Store → Prop} {QB : Bool → Store → Prop} {QL : List D → Store → Prop} {QO : Option Int → Store → Prop} {E : Xc → Store → Prop} {N : Env → Store → Prop} {P : SRes → Prop}
theorem wp_eK {d : D} : (eK d env st).wp Q E = Q d st := id rfl
theorem wp_eVar0 {d : D} : (eVar 0 (some d :: env) st).wp Q E = Q d st := id rfl
theorem wp_eVars {n : Nat} {o : Option D} : (eVar (n + 1) (o :: env) st).wp Q E = (eVar n env st).wp Q E := id rfl
theorem wp_eBin {g : D → D → Store → Res D} {fa fb : DenE} : (eBin g fa fb env st).wp Q E = (fa env st).wp (fun d st1 => (fb env st1).wp (fun e st2 => (g d e st2).wp Q E) E) E := by
  unfold eBin; rw [wp_bind]; exact Res.wp_ext fun d st1 => wp_bind
theorem wp_eUn {g : D → Store → Res D} {fa : DenE} : (eUn g fa env st).wp Q E = (fa env st).wp (fun d st1 => (g d st1).wp Q E) E := by
  unfold eUn; rw [wp_bind]
theorem wp_eArgs {g : List D → Store → Res D} {f : DenA} : (eArgs g f env st).wp Q E = (f env st).wp (fun ds st1 => (g ds st1).wp Q E) E := by
  unfold eArgs; rw [wp_bind]
theorem wp_aNil : (aNil env st).wp QL E = QL [] st := id rfl
theorem wp_aCons {f : DenE} {g : DenA} : (aCons f g env st).wp QL E = (f env st).wp (fun d st1 => (g env st1).wp (fun ds st2 => QL (d :: ds) st2) E) E := by
  unfold aCons; rw [wp_bind]; exact Res.wp_ext fun d st1 => wp_bind
theorem wp_tYes : (tYesD env st).wp QB E = QB true st := id rfl
theorem wp_tOf {f : DenE} : (tOf f env st).wp QB E = (f env st).wp (fun d st1 => ∃ b, d = .bl b ∧ QB b st1) E := by
  unfold tOf; rw [wp_bind]
  congr 1; funext d st1
  cases d <;> simp [wp_ok, wp_bad]
theorem wp_tNot {t : DenT} : (tNotD t env st).wp QB E = (t env st).wp (fun b st1 => QB (!b) st1) E := by
  unfold tNotD; rw [wp_bind]; exact Res.wp_ext fun d st1 => rfl
theorem wp_tAnd {t t' : DenT} : (tAndD t t' env st).wp QB E = (t env st).wp (fun b st1 => if b then (t' env st1).wp QB E else QB false st1) E := by
  unfold tAndD; rw [wp_bind]; exact Res.wp_ext fun d st1 => by rw [wp_ite]; rfl
theorem wp_tOr {t t' : DenT} : (tOrD t t' env st).wp QB E = (t env st).wp (fun b st1 => if b then QB true st1 else (t' env st1).wp QB E) E := by
  unfold tOrD; rw [wp_bind]; exact Res.wp_ext fun d st1 => by rw [wp_ite]; rfl
theorem wp_eIf {t : DenT} {f g : DenE} : (eIf t f g env st).wp Q E = (t env st).wp (fun b st1 => if b then (f env st1).wp Q E else (g env st1).wp Q E) E := by
  unfold eIf; rw [wp_bind]; exact Res.wp_ext fun d st1 => by rw [wp_ite]
theorem wp_eAnd {f g : DenE} : (eAnd f g env st).wp Q E = (f env st).wp (fun d st1 => ∃ b, d = .bl b ∧ if b then (g env st1).wp Q E else Q (.bl false) st1) E := by
  unfold eAnd; rw [wp_bind]
  congr 1; funext d st1
  cases d with
  | bl b => cases b <;> simp [wp_ok]
  | _ => simp [wp_bad]
theorem wp_eOr {f g : DenE} : (eOr f g env st).wp Q E = (f env st).wp (fun d st1 => ∃ b, d = .bl b ∧ if b then Q (.bl true) st1 else (g env st1).wp Q E) E := by
  unfold eOr; rw [wp_bind]
  congr 1; funext d st1
  cases d with
  | bl b => cases b <;> simp [wp_ok]
  | _ => simp [wp_bad]
theorem wp_eNot {f : DenE} : (eNot f env st).wp Q E = (f env st).wp (fun d st1 => ∃ b, d = .bl b ∧ Q (.bl (!b)) st1) E := by
  unfold eNot; rw [wp_bind]
  congr 1; funext d st1
  cases d <;> simp [wp_ok, wp_bad]
theorem wp_eChain {g g' : D → D → Store → Res D} {fa fb fc : DenE} : (eChain g g' fa fb fc env st).wp Q E = (fa env st).wp (fun d st1 => (fb env st1).wp (fun e st2 => (g d e st2).wp (fun z st3 => ∃ b, z = .bl b ∧ if b then (fc env st3).wp (fun c st4 => (g' e c st4).wp Q E) E else Q (.bl false) st3) E) E) E := by
  unfold eChain; rw [wp_bind]
  refine Res.wp_ext fun d st1 => ?_
  rw [wp_bind]; refine Res.wp_ext fun e st2 => ?_
  rw [wp_bind]; refine Res.wp_ext fun z st3 => ?_
  cases z with
  | bl b => cases b <;> simp [wp_ok, wp_bind]
  | _ => simp [wp_bad]
theorem wp_eM {T : String} {g : D → List D → Store → Res D} {fo : DenE} {fa : DenA} : (eM T g fo fa env st).wp Q E = (fo env st).wp (fun d st1 => tyChk T st1 d = true ∧ (fa env st1).wp (fun ds st2 => (g d ds st2).wp Q E) E) E := by
  unfold eM; rw [wp_bind]
  congr 1; funext d st1
  split <;> rename_i h <;> simp [h, wp_bind, wp_bad]
theorem wp_oNone : (oNone env st).wp QO E = QO none st := id rfl
theorem wp_oSome {f : DenE} : (oSome f env st).wp QO E = (f env st).wp (fun d st1 => ∃ i, d = .int i ∧ QO (some i) st1) E := by
  unfold oSome; rw [wp_bind]
  congr 1; funext d st1
  cases d <;> simp [wp_ok, wp_bad]
theorem wp_eSl {mk : List D → Store → Res D} {fa : DenE} {fl fh : DenO} : (eSl mk fa fl fh env st).wp Q E = (fa env st).wp (fun d st1 => (fl env st1).wp (fun l st2 => (fh env st2).wp (fun h st3 => (slD mk d l h st3).wp Q E) E) E) E := by
  unfold eSl; rw [wp_bind]; exact Res.wp_ext fun d st1 => by rw [wp_bind]; exact Res.wp_ext fun d st1 => by rw [wp_bind]
theorem wp_eFrz {f : DenE} : (eFrz f env st).wp Q E = (f env st).wp (fun d st1 => (frzC d st1).wp Q E) E := by unfold eFrz; rw [wp_bind]
theorem wp_eLc {mk : List D → Store → Res D} {it : DenI} {g : DenG} {t : DenT} {e : DenE} {vs : List Nat} : (eLc mk it g t e vs env st).wp Q E = (it env st).wp (fun items st1 => (compL g t e (wipeD env vs) items [] st1).wp (fun ds st2 => (mk ds st2).wp Q E) E) E := by
  unfold eLc; rw [wp_bind]; exact Res.wp_ext fun d st1 => by rw [wp_bind]
theorem wp_iL {f : DenE} : (iL f env st).wp QL E = (f env st).wp (fun d st1 => ∃ ds, (d = .lst ds ∨ d = .ro ds) ∧ QL ds st1) E := by
  unfold iL; rw [wp_bind]
  congr 1; funext d st1
  cases d <;> simp [wp_ok, wp_bad]
theorem wp_iT {f : DenE} : (iT f env st).wp QL E = (f env st).wp (fun d st1 => ∃ ds, d = .tup ds ∧ QL ds st1) E := by
  unfold iT; rw [wp_bind]
  congr 1; funext d st1
  cases d <;> simp [wp_ok, wp_bad]
theorem wp_iS {f : DenE} : (iS f env st).wp QL E = (f env st).wp (fun d st1 => ∃ z, d = .str z ∧ QL (signs z) st1) E := by
  unfold iS; rw [wp_bind]
  congr 1; funext d st1
  cases d <;> simp [wp_ok, wp_bad]
theorem wp_iR1 {f : DenA} : (iR1 f env st).wp QL E = (f env st).wp (fun ds st1 => ∃ j, ds = [.int j] ∧ -(2 ^ 62) ≤ j ∧ j < 2 ^ 62 ∧ QL (rngD 0 j.toNat) st1) E := by
  unfold iR1; rw [wp_bind]
  congr 1; funext ds st1
  match ds with
  | [.int j] =>
    show (if -(2 ^ 62) ≤ j ∧ j < 2 ^ 62 then Res.ok (rngD 0 j.toNat) st1 else Res.bad).wp QL E = _
    by_cases h : -(2 ^ 62) ≤ j ∧ j < 2 ^ 62
    · rw [if_pos h, wp_ok]
      exact propext ⟨fun q => ⟨j, rfl, h.1, h.2, q⟩, fun ⟨j', e, _, _, q⟩ => by cases e; exact q⟩
    · rw [if_neg h, wp_bad]
      refine propext ⟨False.elim, fun ⟨j', e, h1, h2, _⟩ => ?_⟩
      cases e; exact h ⟨h1, h2⟩
  | [] => simp [wp_bad]
  | [.non] => simp [wp_bad]
  | [.bl _] => simp [wp_bad]
  | [.str _] => simp [wp_bad]
  | [.lst _] => simp [wp_bad]
  | [.tup _] => simp [wp_bad]
  | [.dct _] => simp [wp_bad]
  | [.ins _ _] => simp [wp_bad]
  | [.ro _] => simp [wp_bad]
  | [.cell _] => simp [wp_bad]
  | [.cls _] => simp [wp_bad]
  | [.ty _] => simp [wp_bad]
  | [.err _ _] => simp [wp_bad]
  | _ :: _ :: _ => simp [wp_bad]
/-! statements -/
def gwp (o : Option (Env × Store)) (N : Env → Store → Prop) (_u : Ph N := ()) : Prop := match o with
  | some (e, s) => N e s
  | none => False
theorem gwp_N {i : Nat} {d : D} : gwp (gN i d env st) N = N (env.set i (some d)) st := id rfl
theorem gwp_nil : gwp (gsNil [] env st) N = N env st := id rfl
theorem gwp_cons {g : DenG} {gs : DenGs} {d : D} {ds : List D} : gwp (gsCons g gs (d :: ds) env st) N = gwp (g d env st) (fun e s => gwp (gs ds e s) N) := by
  unfold gsCons
  cases h : g d env st with
  | none => simp only [h]; rfl
  | some z => obtain ⟨e, s⟩ := z; simp only [h]; rfl
theorem gwp_T {gs : DenGs} {n : Nat} {ds : List D} (h : ds.length = n) : gwp (gT gs n (.tup ds) env st) N = gwp (gs ds env st) N := by
  simp only [gT, h, if_true]
theorem gwp_sub {d : D} {fo fi : DenE} : gwp (gSubD fo fi d env st) N = (fo env st).wp (fun o st1 => (fi env st1).wp (fun i st2 => ∃ s, setD o i d st2 = some s ∧ N env s) NX) NX := by
  unfold gSubD
  cases fo env st with
  | ok o st1 =>
    simp only [Res.wp]
    cases fi env st1 with
    | ok i st2 =>
      simp only
      cases setD o i d st2 <;> simp [gwp]
    | exc x s => rfl
    | bad => rfl
  | exc x s => rfl
  | bad => rfl
theorem wp_sNext : (sNext env st).wp N P = N env st := id rfl
theorem wp_sRet {f : DenE} : (sRet f env st).wp N P = (f env st).wp (fun d st1 => P (.ret d st1)) (fun x st1 => P (.exc x env st1)) := by
  unfold sRet; rw [wp_andS]; rfl
theorem wp_sRetN : (sRetN env st).wp N P = P (.ret .non st) := id rfl
theorem wp_sExpr {f : DenE} : (sExpr f env st).wp N P = (f env st).wp (fun _ st1 => N env st1) (fun x st1 => P (.exc x env st1)) := by
  unfold sExpr; rw [wp_andS]; rfl
theorem wp_sIf {t : DenT} {f g : DenS} : (sIf t f g env st).wp N P = (t env st).wp (fun b st1 => if b then (f env st1).wp N P else (g env st1).wp N P) (fun x st1 => P (.exc x env st1)) := by
  unfold sIf; rw [wp_andS]; exact Res.wp_ext fun d st1 => by rw [wp_ites]
theorem wp_sAsg {f : DenE} {g : DenG} : (sAsg f g env st).wp N P = (f env st).wp (fun d st1 => gwp (g d env st1) N) (fun x st1 => P (.exc x env st1)) := by
  unfold sAsg; rw [wp_andS]
  congr 1; funext d st1
  cases g d env st1 with
  | none => rfl
  | some z => rfl
def par2 (ds : List D) (k : D → D → Prop) (_u : Ph k := ()) : Prop := ∃ a b, ds = [a, b] ∧ k a b
theorem par2_ok {a b : D} {k : D → D → Prop} : par2 [a, b] k = k a b := propext ⟨fun ⟨a', b', e, q⟩ => by cases e; exact q, fun q => ⟨a, b, rfl, q⟩⟩
theorem wp_sPar {i j : Nat} {f : DenA} : (sPar i j f env st).wp N P = (f env st).wp (fun ds st1 => par2 ds fun a b => N ((env.set i (some a)).set j (some b)) st1) (fun x st1 => P (.exc x env st1)) := by
  unfold sPar par2; rw [wp_andS]
  congr 1; funext ds st1
  match ds with
  | [a, b] => exact propext ⟨fun q => ⟨a, b, rfl, q⟩, fun ⟨a', b', e, q⟩ => by cases e; exact q⟩
  | [] => simp [wp_sbad]
  | [a] => simp [wp_sbad]
  | _ :: _ :: _ :: _ => simp [wp_sbad]
theorem wp_sFor {it : DenI} {g : DenG} {b : DenS} : (sFor it g b env st).wp N P = (it env st).wp (fun items st1 => (forD g b items env st1).wp N P) (fun x st1 => P (.exc x env st1)) := by
  unfold sFor; rw [wp_andS]
end
section
variable {env : Env} {st : Store} {d : D} {i j : Int}
theorem le_size {n : Nat} (h : n ≤ 1000) : n ≤ sizeLine := by rw [sizeLine_eq]; omega
theorem tyChk_str {x : Str} : tyChk "str" st (.str x) = true := id rfl
theorem ix_str {z : Str} {c : Nat} (hz : z.length ≤ sizeLine) (e : L2.atI z.cps.toList i = some c) : ixD (.str z) (.int i) st = .ok (.str (SX.S [c])) st := by
  simp only [ixD, hz, if_true, e]
theorem strsOf_map : ∀ xs : List Str, strsOf (xs.map D.str) = some xs
  | [] => rfl
  | x :: xs => by simp only [List.map_cons, strsOf, strsOf_map xs, Option.map_some]
theorem add_ll {a b : List D} (h : a.length + b.length ≤ sizeLine) : addD (.lst a) (.lst b) st = .ok (.lst (a ++ b)) st := by simp only [addD, asL, h, if_true]
theorem add_ss {a b : Str} (h : a.length + b.length ≤ sizeLine) : addD (.str a) (.str b) st = .ok (.str (a ++ b)) st := by simp only [addD, h, if_true]
theorem add_tt {a b : List D} (h : a.length + b.length ≤ sizeLine) : addD (.tup a) (.tup b) st = .ok (.tup (a ++ b)) st := by simp only [addD, h, if_true]
theorem sl_str {mk : List D → Store → Res D} {z : Str} {lo hi : Option Int} (h : z.length ≤ sizeLine) : slD mk (.str z) lo hi st = .ok (.str (cutS z lo hi)) st := by simp only [slD, h, if_true]
theorem sl_tup {mk : List D → Store → Res D} {a : List D} {lo hi : Option Int} : slD mk (.tup a) lo hi st = .ok (.tup (cutD a lo hi)) st := id rfl
theorem okL_ok {a : List D} : okL a st = .ok (.lst a) st := id rfl
theorem list_tup {mk : List D → Store → Res D} {a : List D} : listD mk [.tup a] st = mk a st := id rfl
theorem max_ii : max2D [.int i, .int j] st = .ok (.int (if j > i then j else i)) st := id rfl
theorem min_ii : min2D [.int i, .int j] st = .ok (.int (if j < i then j else i)) st := id rfl
theorem abs_i : absD [.int i] st = .ok (.int (if i < 0 then -i else i)) st := id rfl
theorem join_str {a : Str} {ys : List Str} (h : (ys.map (·.length)).sum + ys.length * a.length ≤ 16777216) : joinD (.str a) [.lst (ys.map D.str)] st = .ok (.str (Txt.join a ys)) st := by
  simp only [joinD, asR, asL, strsOf_map, h, if_true]
theorem len_nodup {α : Type} [DecidableEq α] : ∀ {l m : List α}, l.Nodup → (∀ x ∈ l, x ∈ m) → l.length ≤ m.length
  | [], m, _, _ => Nat.zero_le _
  | x :: l, m, nd, h => by
    have hx : x ∈ m := h x (List.mem_cons_self ..)
    have nd' := List.nodup_cons.mp nd
    have ih := len_nodup (m := m.erase x) nd'.2 fun y hy => by
      have : y ≠ x := fun e => nd'.1 (e ▸ hy)
      exact (List.mem_erase_of_ne this).mpr (h y (List.mem_cons_of_mem _ hy))
    have h1 := List.length_erase_of_mem hx
    have h2 := List.length_pos_of_mem hx
    simp only [List.length_cons]
    omega
theorem joinL_one : ∀ cs : List Nat, TL.joinL [] (cs.map fun c => [c]) = cs
  | [] => rfl
  | [c] => rfl
  | c :: d :: r => by
    show [c] ++ ([] ++ TL.joinL [] ((d :: r).map fun c => [c])) = _
    rw [joinL_one (d :: r)]; rfl
end
section
variable {env : Env} {st : Store} {E : Xc → Store → Prop}
theorem Res.eq_of_wp {α : Type} {r : Res α} {a : α} (h : r.wp (fun d s => d = a ∧ s = st) NX) : r = .ok a st := by
  obtain ⟨d, s, e, rfl, rfl⟩ := Res.of_wp h
  exact e
theorem wp_compOn {α : Type} {i : Nat} {test : DenT} {elt : DenE} {Q : List D → Store → Prop} (ι : α → D) (t : α → Bool) (e : α → D) (xs : List α) (hl : xs.length ≤ sizeLine)
    (ht : ∀ x ∈ xs, (test (env.set i (some (ι x))) st).wp (fun b s => b = t x ∧ s = st) NX) (he : ∀ x ∈ xs, t x = true → (elt (env.set i (some (ι x))) st).wp (fun d s => d = e x ∧ s = st) NX)
    (q : Q ((xs.filter t).map e) st) : (compL (gN i) test elt env (xs.map ι) [] st).wp Q E := by
  have main : ∀ (ys : List α) (acc : List D), (∀ x ∈ ys, x ∈ xs) → acc.length + ys.length ≤ sizeLine → compL (gN i) test elt env (ys.map ι) acc st = .ok (acc ++ (ys.filter t).map e) st := by
    intro ys
    induction ys with
    | nil => intro acc _ _; simp [compL]
    | cons y ys ih =>
      intro acc hy hl
      simp only [List.length_cons] at hl
      have h1 := Res.eq_of_wp (ht y (hy y (List.mem_cons_self ..)))
      simp only [List.map_cons, compL, gN, h1, Res.noX, Res.bind]
      cases hb : t y with
      | false =>
        simp only [Bool.false_eq_true, if_false]
        rw [List.filter_cons_of_neg (by simp [hb])]
        exact ih acc (fun x hx => hy x (List.mem_cons_of_mem _ hx)) (by omega)
      | true =>
        have h2 := Res.eq_of_wp (he y (hy y (List.mem_cons_self ..)) hb)
        have h3 : acc.length < sizeLine := by omega
        simp only [if_true, h2, h3]
        rw [List.filter_cons_of_pos (by simp [hb]), ih (acc ++ [e y]) (fun x hx => hy x (List.mem_cons_of_mem _ hx)) (by simp only [List.length_append, List.length_singleton]; omega)]
        simp
  have := main xs [] (fun _ h => h) (by simpa using hl)
  rw [List.nil_append] at this
  exact Res.wp_eq this q
theorem filter_yes {α : Type} (xs : List α) : xs.filter (fun _ => true) = xs := List.filter_eq_self.mpr fun _ _ => rfl
end
theorem atI_zero {α : Type} {x : α} {xs : List α} : L2.atI (x :: xs) 0 = some x := by
  simp only [L2.atI, L2.ixN]
  rw [if_pos (by omega), if_pos (by simp only [List.length_cons]; omega)]; rfl
theorem atI_last {α : Type} {x : α} {xs : List α} : L2.atI (xs ++ [x]) (-1) = some x := by
  simp only [L2.atI, L2.ixN]
  rw [if_neg (by omega), if_pos (by simp only [List.length_append, List.length_singleton]; omega)]
  simp only [Option.bind_some, List.length_append, List.length_singleton]
  have : (-1 + ((xs.length + 1 : Nat) : Int)).toNat = xs.length := by omega
  rw [this]; simp
/-- a list of texts -/
theorem strs_shaped : ∀ {us : List Str}, (∀ x ∈ us, PyData.canLay0 (.str x) = true) → PyData.canLayAll0 (us.map .str) = true ∧ PyData.depthAll (us.map .str) = 0
  | [], _ => by simp [PyData.canLayAll0, PyData.depthAll]
  | u :: us, h => by
    obtain ⟨h1, h2⟩ := strs_shaped (us := us) fun x hx => h x (List.mem_cons_of_mem _ hx)
    simp only [List.map_cons, PyData.canLayAll0, PyData.depthAll, h1, h2, h u (List.mem_cons_self ..), PyData.depth, Bool.and_self, Nat.max_self, and_self]
theorem notIn_strs {st : Store} {used : D} {us : List Str} {x : Str} (hu : toPy st used = some (.list (us.map .str))) (hx : PyData.canLay0 (.str x) = true) (hus : ∀ x ∈ us, PyData.canLay0 (.str x) = true) : notInD (.str x) used st = .ok (.bl (!us.contains x)) st := by
  obtain ⟨h1, h2⟩ := strs_shaped hus
  have e1 : SeqAt.shaped (.str x) = true := by simp only [SeqAt.shaped, hx, PyData.depth]; rfl
  have e2 : SeqAt.shaped (.list (us.map .str)) = true := by simp only [SeqAt.shaped, PyData.canLay0, h1, PyData.depth, h2]; rfl
  have e3 : ((us.map PyData.str).any fun z => PyData.eqv z (.str x)) = us.contains x := by
    rw [List.any_map, List.contains_eq_any_beq]
    congr 1; funext y
    show (y == x) = (x == y)
    exact BEq.comm
  have e4 : inB (.str x) used st = some (us.contains x) := by
    cases used with
    | str z => simp [toPyC] at hu
    | _ => simp only [inB, hu, toPyC, e1, e2, Bool.and_self, if_true, e3]
  simp only [notInD, e4]
/-! ### bounded plain data -/
def Fd (m k : Nat) (d : D) : Prop := lf d = true ∧ mz d ≤ m ∧ (pyD d).depth ≤ k
theorem Fd.fine {m k : Nat} {d : D} (h : Fd m k d) (hm : m ≤ 100000 := by decide) (hk : k ≤ 60 := by decide) : fine d = true := by
  obtain ⟨h1, h2, h3⟩ := h
  simp only [Den.fine, h1, Bool.true_and, Bool.and_eq_true, decide_eq_true_eq]
  exact ⟨by omega, by omega⟩
theorem Fd.mono {m k m' k' : Nat} {d : D} (h : Fd m k d) (hm : m ≤ m' := by decide) (hk : k ≤ k' := by decide) : Fd m' k' d := ⟨h.1, Nat.le_trans h.2.1 hm, Nat.le_trans h.2.2 hk⟩
theorem Fd.all {m k : Nat} : ∀ {ds : List D}, (∀ d ∈ ds, Fd m k d) → lfs ds = true ∧ mzs ds ≤ ds.length * (m + 1) ∧ PyData.depthAll (pyDs ds) ≤ k
  | [], _ => by simp [lfs, mzs, pyDs, PyData.depthAll]
  | d :: ds, h => by
    obtain ⟨h1, h2, h3⟩ := Fd.all (ds := ds) fun x hx => h x (List.mem_cons_of_mem _ hx)
    obtain ⟨g1, g2, g3⟩ := h d (List.mem_cons_self ..)
    simp only [lfs, mzs, pyDs, PyData.depthAll, h1, g1, List.length_cons, Bool.and_self, true_and]
    have : (ds.length + 1) * (m + 1) = ds.length * (m + 1) + (m + 1) := Nat.succ_mul _ _
    omega
theorem Fd.tup {m k n : Nat} {ds : List D} (h : ∀ d ∈ ds, Fd m k d) (hl : ds.length ≤ n) : Fd (n * (m + 1)) (k + 1) (.tup ds) := by
  obtain ⟨h1, h2, h3⟩ := Fd.all h
  have := Nat.mul_le_mul_right (m + 1) hl
  exact ⟨by simp only [lf, h1], by simp only [mz]; omega, by simp only [pyD, PyData.depth]; omega⟩
theorem Fd.lst {m k n : Nat} {ds : List D} (h : ∀ d ∈ ds, Fd m k d) (hl : ds.length ≤ n) : Fd (n * (m + 1)) (k + 1) (.lst ds) := by
  obtain ⟨h1, h2, h3⟩ := Fd.all h
  have := Nat.mul_le_mul_right (m + 1) hl
  exact ⟨by simp only [lf, h1], by simp only [mz]; omega, by simp only [pyD, PyData.depth]; omega⟩
theorem Fd.int {i : Int} (h : i.natAbs < 10 ^ 150) : Fd 500 0 (.int i) := ⟨by simp only [lf]; exact decide_eq_true h, by simp [mz], by simp [pyD, PyData.depth]⟩
/-- a text of signs below a million, so many at the most -/
def Sf (n : Nat) (z : Str) : Prop := (∀ c ∈ z.cps.toList, c < 1000000) ∧ z.cps.toList.length ≤ n
theorem Sf.fd {n : Nat} {z : Str} (h : Sf n z) : Fd n 0 (.str z) := by
  refine ⟨?_, ?_, by simp [pyD, PyData.depth]⟩
  · simp only [lf, strFit, List.all_eq_true, decide_eq_true_eq]
    exact fun c hc => Nat.lt_trans (h.1 c hc) (by decide)
  · simp only [mz]; exact h.2
theorem Sf.app {n m : Nat} {a b : Str} (ha : Sf n a) (hb : Sf m b) : Sf (n + m) (a ++ b) := by
  have e : (a ++ b).cps.toList = a.cps.toList ++ b.cps.toList := TL.tl_append a b
  refine ⟨?_, ?_⟩
  · rw [e]; intro c hc
    rcases List.mem_append.mp hc with h | h
    · exact ha.1 c h
    · exact hb.1 c h
  · rw [e, List.length_append]; have := ha.2; have := hb.2; omega
theorem Sf.cut {n : Nat} {a : Str} (ha : Sf n a) (lo hi : Option Int) : Sf n (cutS a lo hi) := by
  unfold cutS
  refine ⟨?_, ?_⟩
  · intro c hc
    exact ha.1 c (List.mem_of_mem_drop (List.mem_of_mem_take hc))
  · have := ha.2
    simp only [List.length_take, List.length_drop]; omega
theorem Sf.mono {n m : Nat} {a : Str} (h : Sf n a) (hm : n ≤ m := by decide) : Sf m a := ⟨h.1, Nat.le_trans h.2 hm⟩
theorem Sf.len {n : Nat} {z : Str} (h : Sf n z) (hn : n ≤ 1000 := by decide) : z.length ≤ sizeLine := le_size (Nat.le_trans h.2 hn)
theorem inD_one {st : Store} {c : Nat} {z : Str} : inD (.str ⟨#[c]⟩) (.str z) st = .ok (.bl (decide (c ∈ z.cps.toList))) st := id rfl
theorem bools_map {α : Type} (f : α → Bool) : ∀ xs : List α, bools (xs.map fun x => D.bl (f x)) = some (xs.map f)
  | [] => rfl
  | x :: xs => by simp only [List.map_cons, bools, bools_map f xs, Option.map_some]
theorem all_bools {α : Type} {f : α → Bool} {xs : List α} {st : Store} : allD (fun bs => bs.all id) [.lst (xs.map fun x => D.bl (f x))] st = .ok (.bl (xs.all f)) st := by
  simp only [allD, asR, asL, bools_map, List.all_map]; rfl
theorem strFit_lay {x : Str} (h : strFit x = true) : PyData.canLay0 (.str x) = true := by
  have e : PyData.canLay0 (.str x) = x.cps.all fun c => decide (c < 1114112) := rfl
  rw [e, ← Array.all_toList]; exact h
theorem toPyCs_strs {cel : Nat → Option PyData} : ∀ us : List Str, toPyCs cel (us.map D.str) = some (us.map .str)
  | [] => rfl
  | u :: us => by simp only [List.map_cons, toPyCs, toPyC, toPyCs_strs us]
theorem ne_ii {st : Store} {i j : Int} : neD (.int i) (.int j) st = .ok (.bl (!(i == j))) st := id rfl
theorem eq_ii {st : Store} {i j : Int} : eqD (.int i) (.int j) st = .ok (.bl (i == j)) st := id rfl
theorem eq_ss {st : Store} {x y : Str} : eqD (.str x) (.str y) st = .ok (.bl (x == y)) st := id rfl
end Den

namespace Den
open PySem PySem.Spec PyProof.Rows L2

/-! ### objects: fields -/
def insC : Cell → Option (Nat × List (Str × D))
  | .ins c fs => some (c, fs)
  | .fz (.ins c fs) => some (c, fs)
  | _ => none
def insOf (st : Store) : D → Option (Nat × List (Str × D))
  | .ins c fs => some (c, fs)
  | .cell n => (st[n]?).bind insC
  | _ => none
section
variable {K : PySem.W.Frag} {G : Nat → Addr} {F : Hp} {ph : List Addr} {st : Store} {H : Hp}
theorem insOf_ok {d : D} {v : V} {c : Nat} {fs : List (Str × D)} (r : RelS K G F ph st H) (rv : R K G F ph d v) (e : insOf st d = some (c, fs)) :
    ∃ a dx ws, v = .ref a ∧ H a = some (.ins (G c) dx ws) ∧ Rf K G F ph fs ws := by
  unfold insOf at e
  split at e
  · cases e
    simp only [R] at rv
    obtain ⟨a, dx, ws, rfl, h2, h3⟩ := rv
    exact ⟨a, dx, ws, rfl, r.sub _ _ h2, h3⟩
  · rename_i n
    obtain ⟨ce, e1, e2⟩ := Option.bind_eq_some_iff.mp e
    simp only [R] at rv
    obtain ⟨a, rfl, h2⟩ := rv
    have hc := r.cells _ _ _ e1 h2
    unfold insC at e2
    split at e2
    · cases e2
      obtain ⟨z, dx, ws, h3, h4⟩ := hc
      exact ⟨a, dx, ws, rfl, h3, h4⟩
    · cases e2
      obtain ⟨z, h4⟩ := hc
      simp only [R] at h4
      obtain ⟨a', dx, ws, h5, h6, h7⟩ := h4
      cases h5
      exact ⟨a, dx, ws, rfl, r.sub _ _ h6, h7⟩
    · cases e2
  · cases e
theorem Rf.look {f : Str} {d : D} : ∀ {fs : List (Str × D)} {ws : List (Str × V)}, Rf K G F ph fs ws → fs.lookup f = some d → ∃ v, ws.lookup f = some v ∧ R K G F ph d v
  | [], ws, h, e => by cases e
  | (g, x) :: fs, ws, h, e => by
    simp only [Rf] at h
    obtain ⟨v, ws', rfl, h1, h2⟩ := h
    simp only [List.lookup] at e ⊢
    split at e
    · cases e; exact ⟨v, rfl, h1⟩
    · exact Rf.look h2 e
theorem Rf.lack {f : Str} : ∀ {fs : List (Str × D)} {ws : List (Str × V)}, Rf K G F ph fs ws → fs.lookup f = none → ws.lookup f = none
  | [], ws, h, e => by simp only [Rf] at h; subst h; rfl
  | (g, x) :: fs, ws, h, e => by
    simp only [Rf] at h
    obtain ⟨v, ws', rfl, h1, h2⟩ := h
    simp only [List.lookup] at e ⊢
    split at e
    · cases e
    · exact Rf.lack h2 e
def putD (f : Str) (v : D) : List (Str × D) → List (Str × D)
  | [] => [(f, v)]
  | (g, x) :: r => if g = f then (g, v) :: r else (g, x) :: putD f v r
theorem Rf.putF {f : Str} {d : D} {v : V} (hd : R K G F ph d v) : ∀ {fs : List (Str × D)} {ws : List (Str × V)}, Rf K G F ph fs ws → Rf K G F ph (putD f d fs) (L2.putF f v ws)
  | [], ws, h => by simp only [Rf] at h; subst h; simp only [putD, L2.putF, Rf]; exact ⟨v, [], rfl, hd, rfl⟩
  | (g, x) :: fs, ws, h => by
    simp only [Rf] at h
    obtain ⟨u, ws', rfl, h1, h2⟩ := h
    simp only [putD, L2.putF]
    split
    · simp only [Rf]; exact ⟨v, ws', rfl, hd, h2⟩
    · simp only [Rf]; exact ⟨u, _, rfl, h1, Rf.putF hd h2⟩
theorem Rf.len : ∀ {fs : List (Str × D)} {ws : List (Str × V)}, Rf K G F ph fs ws → ws.length = fs.length
  | [], ws, h => by simp only [Rf] at h; subst h; rfl
  | (g, x) :: fs, ws, h => by
    simp only [Rf] at h
    obtain ⟨u, ws', rfl, h1, h2⟩ := h
    simp only [List.length_cons, Rf.len h2]
end
structure FldT (K : PySem.W.Frag) (G : Nat → Addr) (f : Str) (ok : Nat → Bool) : Prop where
  at_ : ∀ c, ok c = true → Cls K (G c) ∧ NoAttr K (G c) f
def eFld (f : Str) (ok : Nat → Bool) (fo : DenE) : DenE := fun env st => (fo env st).bind fun d st1 => match insOf st1 d with
  | some (c, fs) => if ok c then match fs.lookup f with
      | some x => .ok x st1
      | none => .bad
    else .bad
  | none => .bad
section
variable {X : Cx} {G : Nat → Addr} {W : WX}
theorem de_fld {f : Str} {ok : Nat → Bool} {o : Expr} {fo : DenE} {pos : Pos} (T : FldT X.K G f ok) (ho : DE X G W o fo) (hb : attributeBase o f X.env (eval o X.env) = eval o X.env := by rfl) : DE X G W (.Attribute o f pos) (eFld f ok fo) := by
  refine peImp (pe_fld ho hb) fun σ H Q ⟨F, ph, env, st, r, w⟩ => ⟨F, ph, env, st, r, ?_⟩
  refine want.bind (k := fun d st1 => match insOf st1 d with
    | some (c, fs) => if ok c then match fs.lookup f with
        | some x => .ok x st1
        | none => .bad
      else .bad
    | none => .bad) w fun d st1 F1 p1 v H1 e r1 rv w1 => ?_
  split at w1
  · rename_i c fs hi
    split at w1
    · rename_i hok
      split at w1
      · rename_i x hx
        obtain ⟨a, dx, ws, rfl, h2, h3⟩ := insOf_ok r1.s rv hi
        obtain ⟨v, h4, h5⟩ := h3.look hx
        exact ⟨a, G c, dx, ws, v, rfl, h2, (T.at_ c hok).1, (T.at_ c hok).2, h4, w1.fin r1 h5⟩
      · exact w1.elim
    · exact w1.elim
  · exact w1.elim
/-- o.f = value, of an object that may still change -/
def sFldD (f : Str) (ok : Nat → Bool) (fo fv : DenE) : DenS := fun env st => (fv env st).andS env fun y st1 => (fo env st1).andS env fun x st2 => match x with
  | .cell n => match st2[n]? with
    | some (.ins c fs) => if ok c && decide (fs.length < 1000) then .next env (st2.set n (.ins c (putD f y fs))) else .bad
    | _ => .bad
  | _ => .bad
theorem ds_fld {f : Str} {ok : Nat → Bool} {o v : Expr} {fo fv : DenE} {pos pos' : Pos} (T : FldT X.K G f ok) (ho : DE X G W o fo) (hv : DE X G W v fv)
    (hs : swapsWith v (some (.Attribute o f pos')) pos.line X.env = pure false := by rfl) : DS X G W (.Assign [.Attribute o f pos'] v pos) (sFldD f ok fo fv) := by
  refine psImp (ps_fld ho hv hs) fun E σ H ⟨F, ph, env, st, r, w⟩ => ⟨F, ph, env, st, r, ?_⟩
  refine wantS.bind (k := fun y st1 => (fo env st1).andS env fun x st2 => match x with
    | .cell n => match st2[n]? with
      | some (.ins c fs) => if ok c && decide (fs.length < 1000) then .next env (st2.set n (.ins c (putD f y fs))) else .bad
      | _ => .bad
    | _ => .bad) w fun y st1 F1 p1 v1 H1 e1 r1 rv1 w1 => ⟨F1, p1, env, st1, r1, ?_⟩
  refine wantS.bind (k := fun x st2 => match x with
    | .cell n => match st2[n]? with
      | some (.ins c fs) => if ok c && decide (fs.length < 1000) then .next env (st2.set n (.ins c (putD f y fs))) else .bad
      | _ => .bad
    | _ => .bad) w1 fun x st2 F2 p2 v2 H2 e2 r2 rv2 w2 => ?_
  split at w2
  · rename_i n
    split at w2
    · rename_i c fs hn
      split at w2
      · rename_i hok
        rw [Bool.and_eq_true, decide_eq_true_eq] at hok
        simp only [R] at rv2
        obtain ⟨a, rfl, h2⟩ := rv2
        obtain ⟨z, dx, ws, h3, h4⟩ := r2.s.cells _ _ _ hn h2
        have ry := R.mono e2.x _ _ rv1
        refine ⟨a, G c, dx, ws, rfl, h3, (T.at_ c hok.1).1, (T.at_ c hok.1).2, by rw [h4.len]; exact hok.2, ?_⟩
        obtain ⟨ex, rs'⟩ := r2.s.put (o := .ins (G c) dx (L2.putF f v1 ws)) (c := .ins c (putD f y fs)) h2 z ⟨z, dx, _, upd_same, h4.putF ry⟩
        exact w2 F2 p2 σ _ ex ⟨rs', r2.e⟩
      · exact w2.elim
    · exact w2.elim
  · exact w2.elim
end
/-! ### calls: what is called, how it is written -/
/-- f of n values by place and those named ks does h -/
def CallG (X : Cx) (G : Nat → Addr) (W : WX) (f : Value) (n : Nat) (ks : List Str) (h : List D → List D → Store → Res D) : Prop :=
  ∀ (pins : List (Addr × Obj)) (s : Shared) (σ : L2.St) (H : Hp) (us ws : List Value) (vs zs : List V) (Q : VK) (env : Env) (F : Hp) (ph : List Addr) (st : Store) (ds es : List D), L2.Inv X pins σ H s → Vals vs us → Vals zs ws → us.length = n → ws.length = ks.length →
    Rel X.K G F ph σ env st H → Rs X.K G F ph ds vs → Rs X.K G F ph es zs → want X.K G (R X.K G) W σ env Q F ph H (h ds es st) → wpAny (model X.prog X.w) X.A (call f us (ks.zip ws)) (EP X pins σ Q) X.xe s
/-- how so many values by place, and those named ks, come to the parameters -/
structure Bd (K : PySem.W.Frag) (G : Nat → Addr) (fd : FuncData) (ps : List Str) (n : Nat) (ks : List Str) (arr : List D → List D → List D) : Prop where
  to : ∀ (s : Shared) (us ws : List Value) (vs zs : List V) (F : Hp) (ph : List Addr) (ds es : List D), K.In s.heap → Vals vs us → Vals zs ws → us.length = n → ws.length = ks.length → Rs K G F ph ds vs → Rs K G F ph es zs →
    ∃ us' vs', BindsTo s fd ⟨us, ks.zip ws⟩ (ps.zip us') ∧ Vals vs' us' ∧ vs'.length = ps.length ∧ Rs K G F ph (arr ds es) vs'
theorem bd_all {K : PySem.W.Frag} {G : Nat → Addr} {fd : FuncData} {ps : List Str} {n : Nat} (hb : Binds K fd ps []) (hn : ps.length = n) : Bd K G fd ps n [] (fun ds _ => ds) := by
  refine ⟨fun s us ws vs zs F ph ds es X rv rz l1 l2 rd re => ⟨us, vs, ?_, rv, by rw [rv.length]; omega, rd⟩⟩
  have := hb s us X (by rw [List.append_nil]; omega)
  rw [List.append_nil] at this
  exact this
theorem bd_kbn {K : PySem.W.Frag} {G : Nat → Addr} {fd : FuncData} {ps ks : List Str} {n : Nat} {g : List Value → List Value → List Value} {gV : List V → List V → List V} {arr : List D → List D → List D} (hb : KBn K fd ps n ks g gV)
    (hr : ∀ (F : Hp) (ph : List Addr) (ds es : List D) (vs zs : List V), vs.length = n → zs.length = ks.length → Rs K G F ph ds vs → Rs K G F ph es zs → (gV vs zs).length = ps.length ∧ Rs K G F ph (arr ds es) (gV vs zs)) : Bd K G fd ps n ks arr := by
  refine ⟨fun s us ws vs zs F ph ds es X rv rz l1 l2 rd re => ?_⟩
  obtain ⟨q1, q2⟩ := hr F ph ds es vs zs (by rw [rv.length]; exact l1) (by rw [rz.length]; exact l2) rd re
  exact ⟨_, _, hb.to s us ws X l1 l2, hb.rel rv rz, q1, q2⟩
section
variable {X : Cx} {G : Nat → Addr} {W : WX} {k : Nat} {f : Addr} {fd : FuncData} {ps : List Str} {g : Fn}
theorem cg_fn {n : Nat} {ks : List Str} {arr : List D → List D → List D} (Fn : FnG X.prog X.w X.K X.mg X.base G k f fd ps g) (gd : X.A.guards = some []) (hr : Room k X.A) (tk : Takes X W) (hb : Bd X.K G fd ps n ks arr) :
    CallG X G W (.ref f) n ks (fun ds es st => g (arr ds es) st) := by
  intro pins s σ H us ws vs zs Q env F ph st ds es I rv rz l1 l2 rel rd re w
  obtain ⟨us', vs', b1, b2, b3, b4⟩ := hb.to s us ws vs zs F ph ds es I.kIn rv rz l1 l2 rd re
  exact run_fng Fn gd hr tk b1 I b2 b3 rel b4 w
/-! keywords -/
def DK (X : Cx) (G : Nat → Addr) (W : WX) (kws : List Keyword) (f : DenA) : Prop := PK X kws (rd X.K G (Rs X.K G) W f)
theorem dk_nil : DK X G W [] aNil := ⟨fun pos pins s σ H Q I ⟨F, ph, env, st, r, w⟩ => pk_nil.run pos pins s σ H Q I (w.fin r (by simp only [Rs]))⟩
theorem dk_cons {e : Expr} {kws : List Keyword} {nm : Option Str} {kpos : Pos} {f : DenE} {g : DenA} (ha : DE X G W e f) (hr : DK X G W kws g) : DK X G W (⟨nm, e, kpos⟩ :: kws) (aCons f g) := by
  refine ⟨fun pos pins s σ H Q I ⟨F, ph, env, st, r, w⟩ => (pk_cons ha hr).run pos pins s σ H Q I ⟨F, ph, env, st, r, ?_⟩⟩
  refine want.bind (k := fun d st1 => (g env st1).bind fun ds st2 => .ok (d :: ds) st2) w fun d st1 F1 p1 v H1 e1 r1 rv w1 => ⟨F1, p1, env, st1, r1, ?_⟩
  refine want.bind (k := fun ds st2 => .ok (d :: ds) st2) w1 fun ds st2 F2 p2 vs H2 e2 r2 rvs w2 => ?_
  exact w2.fin r2 (by simp only [Rs]; exact ⟨v, vs, rfl, R.mono e2.x _ _ rv, rvs⟩)
/-! the written call -/
def CW (X : Cx) (G : Nat → Addr) (W : WX) (args : List Expr) (kws : List Keyword) (pos : Pos) (n : Nat) (ks : List Str) (fa fk : DenA) : Prop :=
  ∀ (f : Value) (first : List Value) (pins : List (Addr × Obj)) (s : Shared) (σ : L2.St) (H : Hp) (Q : VK) (env : Env) (F : Hp) (ph : List Addr) (st : Store) (h : List D → List D → Store → Res D), PySem.W.keepIn X.K f = true → L2.Inv X pins σ H s →
    Rel X.K G F ph σ env st H → want X.K G (R X.K G) W σ env Q F ph H ((fa env st).bind fun ds st1 => (fk env st1).bind fun es st2 => h ds es st2) →
    (∀ (us ws : List Value) (vs zs : List V) (s2 : Shared) (H2 F2 : Hp) (p2 : List Addr) (st2 : Store) (ds es : List D), L2.Inv X pins σ H2 s2 → Ex F ph H F2 p2 H2 → Rel X.K G F2 p2 σ env st2 H2 → Vals vs us → Vals zs ws → Rs X.K G F2 p2 ds vs → Rs X.K G F2 p2 es zs →
      us.length = n → ws.length = ks.length → want X.K G (R X.K G) W σ env Q F2 p2 H2 (h ds es st2) → wpAny (model X.prog X.w) X.A (call f (first ++ us) (ks.zip ws)) (EP X pins σ Q) X.xe s2) →
    wpAny (model X.prog X.w) X.A (callWith pos f first (backTo pos (starEach args X.env)) (backToKw pos (keywordEach kws X.env))) (EP X pins σ Q) X.xe s
theorem cw_0 {pos : Pos} : CW X G W [] [] pos 0 [] aNil aNil := by
  intro f first pins s σ H Q env F ph st h hk I r w nx
  refine PySem.W.callWith_K0 I.kIn hk ?_
  have := nx [] [] [] [] s H F ph st [] [] I (Ex.refl _ _ _) r .nil .nil (by simp only [Rs]) (by simp only [Rs]) rfl rfl w
  exact this
theorem cw_n {e : Expr} {es : List Expr} {pos : Pos} {n : Nat} {fa : DenA} (ha : DA X G W (e :: es) fa) (hlen : ∀ env st ds st', fa env st = .ok ds st' → ds.length = n)
    (he : starEach (e :: es) X.env = (false, eval e X.env) :: starEach es X.env := by rfl) (hpl : (backTo pos (starEach es X.env)).any (·.1) = false := by rfl) : CW X G W (e :: es) [] pos n [] fa aNil := by
  intro f first pins s σ H Q env F ph st h hk I r w nx
  have key : rd X.K G (Rs X.K G) W fa σ H fun vs H1 => ∃ F1 p1 st1 ds, Ex F ph H F1 p1 H1 ∧ Rel X.K G F1 p1 σ env st1 H1 ∧ Rs X.K G F1 p1 ds vs ∧ ds.length = n ∧ want X.K G (R X.K G) W σ env Q F1 p1 H1 (h ds [] st1) := by
    refine ⟨F, ph, env, st, r, ?_⟩
    cases q : fa env st with
    | ok ds st1 => rw [q] at w; exact fun F1 p1 vs H1 e1 r1 rv => ⟨F1, p1, st1, ds, e1, r1, rv, hlen _ _ _ _ q, want.mono e1 w⟩
    | exc xx st1 => rw [q] at w; exact w
    | bad => rw [q] at w; exact w
  refine PySem.W.callWith_K (h₀ := X.base) I.ok.mod.kin hk (thn (ha.run pos pins s σ H _ I key) fun us s1 ⟨vs, H1, I1, rv, F1, p1, st1, ds, e1, r1, rds, hl, w1⟩ => ⟨I1.kIn, ?_⟩) he hpl
  exact nx us [] vs [] s1 H1 F1 p1 st1 ds [] I1 e1 r1 rv .nil rds (by simp only [Rs]) (by rw [← rv.length, rds.len]; exact hl) rfl w1
theorem kkey {kws : List Keyword} {m : Nat} {fk : DenA} (hlen : ∀ env st ds st', fk env st = .ok ds st' → ds.length = m) {σ : L2.St} {H : Hp} {Q : VK} {env : Env} {F : Hp} {ph : List Addr} {st : Store} {h : List D → Store → Res D} (r : Rel X.K G F ph σ env st H)
    (w : want X.K G (R X.K G) W σ env Q F ph H ((fk env st).bind h)) : rd X.K G (Rs X.K G) W fk σ H fun vs H1 => ∃ F1 p1 st1 ds, Ex F ph H F1 p1 H1 ∧ Rel X.K G F1 p1 σ env st1 H1 ∧ Rs X.K G F1 p1 ds vs ∧ ds.length = m ∧ want X.K G (R X.K G) W σ env Q F1 p1 H1 (h ds st1) := by
  refine ⟨F, ph, env, st, r, ?_⟩
  cases q : fk env st with
  | ok ds st1 => rw [q] at w; exact fun F1 p1 vs H1 e1 r1 rv => ⟨F1, p1, st1, ds, e1, r1, rv, hlen _ _ _ _ q, want.mono e1 w⟩
  | exc xx st1 => rw [q] at w; exact w
  | bad => rw [q] at w; exact w
theorem cw_k {kws : List Keyword} {pos : Pos} {ks : List Str} {fk : DenA} (hkw : DK X G W kws fk) (hlen : ∀ env st ds st', fk env st = .ok ds st' → ds.length = ks.length)
    (hall : (backToKw pos (keywordEach kws X.env)).all (·.1.isSome) = true := by rfl) (hks : (backToKw pos (keywordEach kws X.env)).filterMap (·.1) = ks := by rfl)
    (hpl : ((backTo pos (starEach [] X.env)).any (·.1) || (backToKw pos (keywordEach kws X.env)).any (·.1.isNone)) = false := by rfl) : CW X G W [] kws pos 0 ks aNil fk := by
  intro f first pins s σ H Q env F ph st h hk I r w nx
  refine PySem.W.callWith_KW0 (h₀ := X.base) I.ok.mod.kin hk hall ?_ hpl
  refine thn (hkw.run pos pins s σ H _ I (kkey (kws := kws) (h := fun es st => h [] es st) hlen r w)) fun ws s2 ⟨zs, H2, I2, rz, F1, p1, st1, ds, e1, r1, rds, hl, w1⟩ => ⟨I2.kIn, ?_⟩
  rw [hks]
  have := nx [] ws [] zs s2 H2 F1 p1 st1 [] ds I2 e1 r1 .nil rz (by simp only [Rs]) rds rfl (by rw [← rz.length, rds.len]; exact hl) w1
  exact this
theorem cw_nk {e : Expr} {es : List Expr} {kws : List Keyword} {pos : Pos} {n : Nat} {ks : List Str} {fa fk : DenA} (ha : DA X G W (e :: es) fa) (hlena : ∀ env st ds st', fa env st = .ok ds st' → ds.length = n) (hkw : DK X G W kws fk) (hlen : ∀ env st ds st', fk env st = .ok ds st' → ds.length = ks.length)
    (hall : (backToKw pos (keywordEach kws X.env)).all (·.1.isSome) = true := by rfl) (hks : (backToKw pos (keywordEach kws X.env)).filterMap (·.1) = ks := by rfl)
    (he : starEach (e :: es) X.env = (false, eval e X.env) :: starEach es X.env := by rfl) (hpl : ((backTo pos (starEach (e :: es) X.env)).any (·.1) || (backToKw pos (keywordEach kws X.env)).any (·.1.isNone)) = false := by rfl) : CW X G W (e :: es) kws pos n ks fa fk := by
  intro f first pins s σ H Q env F ph st h hk I r w nx
  refine PySem.W.callWith_KW (h₀ := X.base) I.ok.mod.kin hk hall (thn (ha.run pos pins s σ H _ I (kkey (kws := kws) hlena r w)) fun us s1 ⟨vs, H1, I1, rv, F1, p1, st1, ds, e1, r1, rds, hl, w1⟩ => ?_) hpl he
  refine thn (hkw.run pos pins s1 σ H1 _ I1 (kkey (kws := kws) (h := fun es st => h ds es st) hlen r1 w1)) fun ws s2 ⟨zs, H2, I2, rz, F2, p2, st2, es2, e2, r2, res, hl2, w2⟩ => ⟨I2.kIn, ?_⟩
  rw [hks]
  exact nx us ws vs zs s2 H2 F2 p2 st2 ds es2 I2 (e1.trans e2) r2 rv rz (Rs.mono e2.x _ _ rds) res (by rw [← rv.length, rds.len]; exact hl) (by rw [← rz.length, res.len]; exact hl2) w2
/-- x(..) of a name of the program -/
def eCall (h : List D → List D → Store → Res D) (fa fk : DenA) : DenE := fun env st => (fa env st).bind fun ds st1 => (fk env st1).bind fun es st2 => h ds es st2
theorem de_callG {x : Str} {args : List Expr} {kws : List Keyword} {p pos : Pos} {n : Nat} {ks : List Str} {fa fk : DenA} {h : List D → List D → Store → Res D} {f : Addr} (T : CallG X G W (.ref f) n ks h) (cw : CW X G W args kws pos n ks fa fk)
    (hm : X.mg x = some (.ref f)) (hk : PySem.W.keepIn X.K (.ref f) = true) (hg : Gl X x := by rfl) (hdb : (x == ("__debug__" : Str)) = false := by decide) : DE X G W (.Call (.Name x p) args kws pos) (eCall h fa fk) := by
  refine ⟨fun pins s σ H Q I ⟨F, ph, env, st, r, w⟩ => ?_⟩
  refine wpAny_Call_Name_kw (ld_glob I hg hm ?_ hdb)
  exact cw _ [] pins s σ H Q env F ph st h hk I r w fun us ws vs zs s2 H2 F2 p2 st2 ds es I2 e2 r2 rv rz rds res l1 l2 w2 => T pins s2 σ H2 us ws vs zs Q env F2 p2 st2 ds es I2 rv rz l1 l2 r2 rds res w2
/-- o.m(..) of an object of the program -/
def eMeth (m : Str) (disp : Nat → Option (List D → List D → Store → Res D)) (fo : DenE) (fa fk : DenA) : DenE := fun env st => (fo env st).bind fun d st1 => match insOf st1 d with
  | some (c, fs) => match disp c, fs.lookup m with
    | some h, none => (fa env st1).bind fun ds st2 => (fk env st2).bind fun es st3 => h (d :: ds) es st3
    | _, _ => .bad
  | none => .bad
structure MetT (X : Cx) (G : Nat → Addr) (W : WX) (m : Str) (n : Nat) (ks : List Str) (disp : Nat → Option (List D → List D → Store → Res D)) : Prop where
  at_ : ∀ c h, disp c = some h → ∃ f, Cls X.K (G c) ∧ Meth X.K (G c) m f ∧ CallG X G W (.ref f) (n + 1) ks h
theorem de_meth {o : Expr} {m : Str} {args : List Expr} {kws : List Keyword} {apos pos : Pos} {n : Nat} {ks : List Str} {fo : DenE} {fa fk : DenA} {disp : Nat → Option (List D → List D → Store → Res D)} {pl : Sem Bool} (ho : DE X G W o fo) (T : MetT X G W m n ks disp) (cw : CW X G W args kws pos n ks fa fk)
    (ht : eval (.Call (.Attribute o m apos) args kws pos) X.env = (do
      let ov ← eval o X.env
      standAt apos.atName
      let (f, first) ← holding [ov] (getMethod ov m pl)
      callWith pos f first (backTo pos (starEach args X.env)) (backToKw pos (keywordEach kws X.env))) := by rfl) : DE X G W (.Call (.Attribute o m apos) args kws pos) (eMeth m disp fo fa fk) := by
  refine ⟨fun pins s σ H Q I ⟨F, ph, env, st, r, w⟩ => ?_⟩
  refine PySem.W.methodCall_KW (pl := pl) (thn (ho.run pins s σ H (fun v H1 => ∃ F1 p1 st1 d c fs h, Rel X.K G F1 p1 σ env st1 H1 ∧ R X.K G F1 p1 d v ∧ insOf st1 d = some (c, fs) ∧ disp c = some h ∧ fs.lookup m = none ∧
      want X.K G (R X.K G) W σ env Q F1 p1 H1 ((fa env st1).bind fun ds st2 => (fk env st2).bind fun es st3 => h (d :: ds) es st3)) I ⟨F, ph, env, st, r, ?_⟩) fun u s1 ⟨x, H1, I1, rx, F1, p1, st1, d, c, fs, h, r1, rd, hi, hd, hl, w1⟩ => ?_) ht
  · refine want.bind (k := fun d st1 => match insOf st1 d with
      | some (c, fs) => match disp c, fs.lookup m with
        | some h, none => (fa env st1).bind fun ds st2 => (fk env st2).bind fun es st3 => h (d :: ds) es st3
        | _, _ => .bad
      | none => .bad) w fun d st1 F1 p1 v H1 e1 r1 rv w1 => ?_
    split at w1
    · rename_i c fs hi
      split at w1
      · rename_i h hd hl
        exact ⟨F1, p1, st1, d, c, fs, h, r1, rv, hi, hd, hl, w1⟩
      · exact w1.elim
    · exact w1.elim
  · obtain ⟨a, dx, ws, rfl, h2, h3⟩ := insOf_ok r1.s rd hi
    obtain rfl : u = Value.ref a := rx
    obtain ⟨f, hc, hm, hcall⟩ := T.at_ c h hd
    refine getmeth_ok I1 h2 hc hm (h3.lack hl) ?_
    exact cw _ [.ref a] pins s1 σ H1 Q env F1 p1 st1 (fun ds es st => h (d :: ds) es st) hm.kp I1 r1 w1 fun us ws vs zs s2 H2 F2 p2 st2 ds es I2 e2 r2 rv rz rds res l1 l2 w2 =>
      hcall pins s2 σ H2 (.ref a :: us) ws (.ref a :: vs) zs Q env F2 p2 st2 (d :: ds) es I2 (.cons rfl rv) rz (by simp only [List.length_cons, l1]) l2 r2 (by simp only [Rs]; exact ⟨_, _, rfl, R.mono e2.x _ _ rd, rds⟩) res w2
end
/-! ### objects made -/
open Classical in
/-- c(..): a new object, __init__ at work on it; it does not change any more -/
noncomputable def newI (c : Nat) (h : List D → List D → Store → Res D) (ds es : List D) (st : Store) : Res D :=
  match h (.cell st.length :: ds) es (st ++ [.ins c []]) with
  | .ok .non st' => match st'[st.length]? with
    | some (.ins c' fs) => if c' = c ∧ loF st.length fs = true ∧ KeepLo st st' then .ok (.ins c fs) (st'.take st.length) else .bad
    | _ => .bad
  | .ok _ _ => .bad
  | .exc x st' => if loF st.length x.fs = true ∧ KeepLo st st' then .exc x (st'.take st.length) else .bad
  | .bad => .bad
theorem under_guards {A : Around} {C : Addr} {us : List Value} {kw : List (Str × Value)} (h : A.guards = some []) : (A.under (.builtin "type.__call__" ⟨.ref C :: us, kw⟩)).guards = some [] := by
  have e : guardIds.contains "type.__call__" = false := by decide
  have e2 : (Code.builtin "type.__call__" ⟨Value.ref C :: us, kw⟩).guards = [] := if_neg (by show ¬ guardIds.contains "type.__call__" = true; rw [e]; decide)
  show pushGuards (Code.builtin "type.__call__" ⟨Value.ref C :: us, kw⟩).guards A.guards = some []
  rw [e2, h]; rfl
section
variable {X : Cx} {G : Nat → Addr} {W : WX} {k c n : Nat} {f : Addr} {fd : FuncData} {ps ks : List Str} {g : Fn} {arr : List D → List D → List D}
theorem cg_new {nw : List D → List D → Store → Res D} (M : Mk X.K (G c) f) (Fn : FnG X.prog X.w X.K X.mg X.base G k f fd ps g) (gd : X.A.guards = some []) (hr : Room (k + 1) X.A) (tk : Takes X W) (hb : Bd X.K G fd ps (n + 1) ks arr)
    (fin : ∀ (σ : L2.St) (env : Env) (F : Hp) (ph : List Addr) (st : Store) (H H1 : Hp) (Q : VK) (x : Addr) (ds es : List D), Rel X.K G F ph σ env st H → H x = none → Ex F ph H F (ph ++ [x]) H1 → ph.length = st.length → want X.K G (R X.K G) W σ env Q F ph H (nw ds es st) →
      wantF X.K G (fun c d H' => W c d σ H') (fun v H2 => v = .non ∧ Q (.ref x) H2) F (ph ++ [x]) H1 (g (arr (.cell st.length :: ds) es) (st ++ [.ins c []]))) : CallG X G W (.ref (G c)) n ks nw := by
  intro pins s σ H us ws vs zs Q env F ph st ds es I rv rz l1 l2 rel rd re w
  have I2 := Inv.made (C := G c) I
  have hx : H (s.heap.objs.size + 1) = none := I.hok.fresh (Nat.le_succ _)
  have hdx : H s.heap.objs.size = none := I.hok.fresh (Nat.le_refl _)
  obtain ⟨d1, d2⟩ := rel.s.fresh hdx
  obtain ⟨x1, x2⟩ := rel.s.fresh hx
  have r1 := rel.s.outside (o := .own (s.heap.objs.size + 1)) d1 d2 (fun _ z => by rw [hdx] at z; cases z) (fun _ _ z => by rw [hdx] at z; cases z)
  have e1 : Ex F ph H F ph (upd H s.heap.objs.size (.own (s.heap.objs.size + 1))) := ⟨Ext.refl _ _, fun a o q _ => .inl (by rw [upd_ne (ne_of_none q hdx)]; exact q), fun _ z => .inl z, fun _ o q => .inl ⟨o, q⟩⟩
  have hx1 : (upd H s.heap.objs.size (.own (s.heap.objs.size + 1))) (s.heap.objs.size + 1) = none := by rw [upd_ne (Nat.succ_ne_self _)]; exact hx
  obtain ⟨e2, r2⟩ := r1.layCell (o := .ins (G c) s.heap.objs.size []) (c := .ins c []) hx1 ⟨x1, s.heap.objs.size, [], upd_same, by simp only [Rf]⟩
  have e12 := e1.trans e2
  have rself : R X.K G F (ph ++ [s.heap.objs.size + 1]) (.cell st.length) (.ref (s.heap.objs.size + 1)) := by
    simp only [R]
    exact ⟨_, rfl, by rw [← rel.s.len]; simp⟩
  have rds2 : Rs X.K G F (ph ++ [s.heap.objs.size + 1]) (.cell st.length :: ds) (.ref (s.heap.objs.size + 1) :: vs) := by
    simp only [Rs]
    exact ⟨_, _, rfl, rself, Rs.mono e12.x _ _ rd⟩
  obtain ⟨us', vs', b1, b2, b3, b4⟩ := hb.to { s with heap := _ } (.ref (s.heap.objs.size + 1) :: us) ws (.ref (s.heap.objs.size + 1) :: vs) zs F (ph ++ [s.heap.objs.size + 1]) (.cell st.length :: ds) es I2.kIn (.cons rfl rv) rz (by simp only [List.length_cons, l1]) l2 rds2 (Rs.mono e12.x _ _ re)
  have sp : spD X.K G g vs' _ (fun v H2 => v = .non ∧ Q (.ref (s.heap.objs.size + 1)) H2) (fun c d H' => W c d σ H') := ⟨F, _, _, _, r2, b4, fin σ env F ph st H _ Q _ ds es rel hx e12 rel.s.len w⟩
  refine wpAny_call (make_map (f := f) I.kIn M.makes M.init (beq_iff_eq.mp M.fn) (codeAny_mono (Fn.run _ X.stack _ _ ⟨.ref (s.heap.objs.size + 1) :: us, ks.zip ws⟩ us' vs' _ _ (under_guards gd) (hr.make (G c) us (ks.zip ws)) (I2.env0.make (G c) us (ks.zip ws)) b1 b2 b3 sp) fun r s' hq => ?_))
  cases r with
  | error e => exact tk e s' (XE.of_call I2 (fun _ _ _ q => q) hq)
  | ok fl =>
    cases fl with
    | ret u =>
      obtain ⟨v, H', I3, rv', ev, q3⟩ := I2.after hq
      cases ev
      exact ⟨rv', ⟨V.ref (s.heap.objs.size + 1), H', I3, rfl, q3⟩⟩
    | next => exact hq.elim
    | brk => exact hq.elim
    | cont => exact hq.elim
theorem cg_make (M : Mk X.K (G c) f) (Fn : FnG X.prog X.w X.K X.mg X.base G k f fd ps g) (gd : X.A.guards = some []) (hr : Room (k + 1) X.A) (tk : Takes X W) (hb : Bd X.K G fd ps (n + 1) ks arr) : CallG X G W (.ref (G c)) n ks (newI c fun ds es st => g (arr ds es) st) := by
  refine cg_new M Fn gd hr tk hb fun σ env F ph st H H1 Q x ds es rel hx e12 hl w => ?_
  unfold newI at w
  cases hg : g (arr (.cell st.length :: ds) es) (st ++ [.ins c []]) with
  | ok d st' =>
    intro F' ph' v H' ex r' rv
    simp only [hg] at w
    cases d with
    | non =>
      simp only [R] at rv
      refine ⟨rv, ?_⟩
      simp only at w
      split at w
      · rename_i c' fs hs
        split at w
        · rename_i hc
          obtain ⟨rfl, h2, h3⟩ := hc
          have hp : ph'[st.length]? = some x := ex.x.ph _ _ (by rw [← hl]; simp)
          obtain ⟨z, dx, wsf, h4, h5⟩ := r'.cells _ _ _ hs hp
          have e3 := ex_cut (e12.trans ex)
          rw [hl] at e3
          have r3 := r'.cut (h3.all rel.s)
          have h6 := Rf.cut' _ _ h2 h5
          have hnm : x ∉ ph'.take st.length := by
            intro hm
            obtain ⟨i, hi, e⟩ := List.mem_iff_getElem.mp hm
            rw [List.length_take] at hi
            rw [List.getElem_take] at e
            obtain ⟨hl', e'⟩ := List.getElem?_eq_some_iff.mp hp
            have := (List.getElem_inj r'.nd).mp (e.trans e'.symm)
            omega
          obtain ⟨e4, r4⟩ := r3.adopt z hnm h4
          have e5 : Ex F ph H (upd F' x (.ins (G c') dx wsf)) (ph'.take st.length) H' := by
            refine ⟨e3.x.trans e4, e3.keep, e3.new, fun a o q => ?_⟩
            by_cases ea : a = x
            · subst ea; exact .inr (.inl hx)
            · rw [upd_ne ea] at q; exact e3.fnew a o q
          exact w _ _ _ _ e5 ⟨r4, rel.e.mono e5.x⟩ (by simp only [R]; exact ⟨x, dx, wsf, rfl, upd_same, Rf.mono e4 _ _ h6⟩)
        · exact w.elim
      · exact w.elim
    | _ => exact w.elim
  | exc xx st' =>
    intro F' ph' dd H' ex r' xo
    simp only [hg] at w
    split at w
    · rename_i hc
      have e3 := ex_cut (e12.trans ex)
      rw [hl] at e3
      refine w F' _ dd H' e3 ⟨r'.cut (hc.2.all rel.s), rel.e.mono e3.x⟩ ?_
      rcases xo with q | ⟨d, wsx, q1, q2, q3⟩
      · exact .inl q
      · exact .inr ⟨d, wsx, q1, q2, Rf.cut' _ _ hc.1 q3⟩
    · exact w.elim
  | bad => simp only [hg] at w; exact w
end
/-! ### C.m(..): a def of a class, by the class's name -/
section
variable {X : Cx} {G : Nat → Addr} {W : WX}
theorem de_cmeth {x m : Str} {C f : Addr} {mc : Value} {args : List Expr} {kws : List Keyword} {p apos pos : Pos} {n : Nat} {ks : List Str} {fa fk : DenA} {h : List D → List D → Store → Res D} {pl : Sem Bool} (T : CallG X G W (.ref f) n ks h) (cw : CW X G W args kws pos n ks fa fk)
    (hm : X.mg x = some (.ref C)) (r : ClX.CRead X.K C mc) (kv : PySem.W.findCls X.K (.ref C) mc m = some (.val (.ref f))) (hk : PySem.W.keepIn X.K (.ref f) = true) (hg : Gl X x := by rfl) (hdb : (x == ("__debug__" : Str)) = false := by decide)
    (ht : eval (.Call (.Attribute (.Name x p) m apos) args kws pos) X.env = (do
      let ov ← eval (.Name x p) X.env
      standAt apos.atName
      let (f, first) ← holding [ov] (getMethod ov m pl)
      callWith pos f first (backTo pos (starEach args X.env)) (backToKw pos (keywordEach kws X.env))) := by rfl) : DE X G W (.Call (.Attribute (.Name x p) m apos) args kws pos) (eCall h fa fk) := by
  refine ⟨fun pins s σ H Q I ⟨F, ph, env, st, rl, w⟩ => ?_⟩
  refine PySem.W.methodCall_KW (pl := pl) (ld_glob I hg hm ?_ hdb) ht
  refine PySem.W.method_cls I.kIn r.ga (ClX.getcval_ok (v := .ref f) I r ⟨kv, rfl⟩ fun s' I' => ?_)
  exact cw _ [] pins s' σ H Q env F ph st h hk I' rl w fun us ws vs zs s2 H2 F2 p2 st2 ds es I2 e2 r2 rv rz rds res l1 l2 w2 => T pins s2 σ H2 us ws vs zs Q env F2 p2 st2 ds es I2 rv rz l1 l2 r2 rds res w2
end
/-! ### an expression that changes nothing, seen with all lists as they stand -/
mutual
def thaw (st : Store) : D → D
  | .lst ds => .lst (thawS st ds)
  | .tup ds => .tup (thawS st ds)
  | .ro ds => .ro (thawS st ds)
  | .dct kvs => .dct (thawK st kvs)
  | .ins c fs => .ins c (thawF st fs)
  | .cell n => match (st[n]?).bind asC with
    | some ds => .lst ds
    | none => .cell n
  | .non => .non
  | .bl b => .bl b
  | .int i => .int i
  | .str x => .str x
  | .cls c => .cls c
  | .ty n => .ty n
  | .err c fs => .err c fs
def thawS (st : Store) : List D → List D
  | [] => []
  | d :: ds => thaw st d :: thawS st ds
def thawK (st : Store) : List (Key × D) → List (Key × D)
  | [] => []
  | (k, d) :: ds => (k, thaw st d) :: thawK st ds
def thawF (st : Store) : List (Str × D) → List (Str × D)
  | [] => []
  | (k, d) :: ds => (k, thaw st d) :: thawF st ds
end
def flat : D → Bool
  | .non => true
  | .bl _ => true
  | .int _ => true
  | .str _ => true
  | _ => false
def flatF : List (Str × D) → Bool
  | [] => true
  | (_, d) :: fs => flat d && flatF fs
def thawE (st : Store) (env : Env) : Env := env.map fun o => o.bind fun d => if (thaw st d).lo 0 then some (thaw st d) else none
/-- f, in a world where nothing may change -/
def eHide (f : DenE) : DenE := fun env st => match f (thawE st env) [] with
  | .ok d _ => if flat d then .ok d st else .bad
  | .exc x _ => if flatF x.fs then .exc x st else .bad
  | .bad => .bad
section
variable {K : PySem.W.Frag} {G : Nat → Addr} {F F' : Hp} {ph : List Addr} {st : Store} {H : Hp}
theorem flat_R {d : D} {v : V} {F2 : Hp} {p2 : List Addr} (h : flat d = true) (r : R K G F ph d v) : R K G F2 p2 d v := by
  cases d <;> first | (simp only [R] at r ⊢; exact r) | (exact absurd h (by simp [flat]))
theorem flat_Rf {F2 : Hp} {p2 : List Addr} : ∀ {fs : List (Str × D)} {ws : List (Str × V)}, flatF fs = true → Rf K G F ph fs ws → Rf K G F2 p2 fs ws
  | [], ws, _, r => by simp only [Rf] at r ⊢; exact r
  | (k, d) :: fs, ws, h, r => by
    simp only [flatF, Bool.and_eq_true] at h
    simp only [Rf] at r ⊢
    obtain ⟨v, ws', e, r1, r2⟩ := r
    exact ⟨v, ws', e, flat_R h.1 r1, flat_Rf h.2 r2⟩
/-- all that stands, but exceptions' dicts -/
def full (F H : Hp) : Hp := fun a => match H a with
  | some (.xd _) => F a
  | some (.tbl _) => none
  | o => o
theorem full_sub (rs : RelS K G F ph st H) {a : Addr} {o : HO} (h : full F H a = some o) : H a = some o := by
  unfold full at h
  split at h
  · exact rs.sub a o h
  · cases h
  · exact h
theorem full_nt {a : Addr} (nF : ∀ a ps, F a ≠ some (.tbl ps)) (ps : Array Value) : full F H a ≠ some (.tbl ps) := fun h => by
  unfold full at h
  split at h
  · exact nF a ps h
  · cases h
  · rename_i _ q; exact q ps h
theorem full_of (rs : RelS K G F ph st H) {a : Addr} {o : HO} (h : F a = some o) : full F H a = some o := by
  unfold full
  split
  · exact h
  · rename_i ps q; rw [rs.sub a o h] at q; cases q; exact absurd h (rs.tb.nF a ps)
  · exact rs.sub a o h
theorem full_nx {a : Addr} {o : HO} (h : H a = some o) (hn : ∀ fs, o ≠ .xd fs) (hn2 : ∀ ps, o ≠ .tbl ps) : full F H a = some o := by
  unfold full
  split
  · rename_i fs e; rw [h] at e; cases e; exact absurd rfl (hn fs)
  · rename_i fs e; rw [h] at e; cases e; exact absurd rfl (hn2 fs)
  · exact h
theorem Rs.mono0 (rs : RelS K G F ph st H) (ds : List D) (vs : List V) (h : loS 0 ds = true) (r : Rs K G F ph ds vs) : Rs K G (full F H) [] ds vs := by
  have r1 := Rs.cut' (n := 0) ds vs h r
  rw [List.take_zero] at r1
  exact Rs.mono ⟨fun a o q => full_of rs q, fun n a q => q⟩ ds vs r1
mutual
theorem thaw_R (rs : RelS K G F ph st H) : ∀ (d : D) (v : V), (thaw st d).lo 0 = true → R K G F ph d v → R K G (full F H) [] (thaw st d) v
  | .non, v, _, r => by simp only [thaw, R] at r ⊢; exact r
  | .bl _, v, _, r => by simp only [thaw, R] at r ⊢; exact r
  | .int _, v, _, r => by simp only [thaw, R] at r ⊢; exact r
  | .str _, v, _, r => by simp only [thaw, R] at r ⊢; exact r
  | .cls _, v, _, r => by simp only [thaw, R] at r ⊢; exact r
  | .ty _, v, _, r => by simp only [thaw, R] at r ⊢; exact r
  | .err c fs, v, h, r => by
    simp only [thaw, R, D.lo] at r h ⊢
    obtain ⟨a, d, e, h1, h2⟩ := r
    refine ⟨a, d, e, full_of rs h1, ?_⟩
    rcases h2 with q | ⟨dd, ws, q1, q2, q3⟩
    · exact .inl q
    · have r1 := Rf.cut' (n := 0) fs ws h q3
      rw [List.take_zero] at r1
      exact .inr ⟨dd, ws, q1, full_of rs q2, Rf.mono ⟨fun a o q => full_of rs q, fun n a q => q⟩ fs ws r1⟩
  | .lst ds, v, h, r => by
    simp only [thaw, R, D.lo] at r h ⊢
    obtain ⟨a, vs, e, h1, h2⟩ := r
    exact ⟨a, vs, e, full_of rs h1, thaw_Rs rs ds vs h h2⟩
  | .tup ds, v, h, r => by
    simp only [thaw, R, D.lo] at r h ⊢
    obtain ⟨a, vs, e, h1, h2⟩ := r
    exact ⟨a, vs, e, full_of rs h1, thaw_Rs rs ds vs h h2⟩
  | .ro ds, v, h, r => by
    simp only [thaw, R, D.lo] at r h ⊢
    obtain ⟨a, vs, e, h1, h2⟩ := r
    exact ⟨a, vs, e, Same.seq (fun b o q => full_of rs q) h1, thaw_Rs rs ds vs h h2⟩
  | .dct ds, v, h, r => by
    simp only [thaw, R, D.lo] at r h ⊢
    obtain ⟨a, vs, e, h1, h2⟩ := r
    exact ⟨a, vs, e, full_of rs h1, thaw_Rk rs ds vs h h2⟩
  | .ins c ds, v, h, r => by
    simp only [thaw, R, D.lo] at r h ⊢
    obtain ⟨a, dx, vs, e, h1, h2⟩ := r
    exact ⟨a, dx, vs, e, full_of rs h1, thaw_Rf rs ds vs h h2⟩
  | .cell n, v, h, r => by
    simp only [R] at r
    obtain ⟨a, rfl, h1⟩ := r
    simp only [thaw] at h ⊢
    cases hc : (st[n]?).bind asC with
    | none => rw [hc] at h; simp [D.lo] at h
    | some ds =>
      rw [hc] at h
      simp only [D.lo] at h ⊢
      obtain ⟨ce, e1, e2⟩ := Option.bind_eq_some_iff.mp hc
      have hk := rs.cells _ _ _ e1 h1
      unfold asC at e2
      split at e2
      · cases e2
        obtain ⟨z, vs, h3, h4⟩ := hk
        simp only [R]
        exact ⟨a, vs, rfl, full_nx h3 (fun fs q => by cases q) (fun fs q => by cases q), Rs.mono0 rs ds vs h h4⟩
      · cases e2
        obtain ⟨z, h4⟩ := hk
        simp only [R] at h4 ⊢
        obtain ⟨a', vs, h5, h6, h7⟩ := h4
        cases h5
        exact ⟨a, vs, rfl, full_of rs h6, Rs.mono0 rs ds vs h h7⟩
      · cases e2
theorem thaw_Rs (rs : RelS K G F ph st H) : ∀ (ds : List D) (vs : List V), loS 0 (thawS st ds) = true → Rs K G F ph ds vs → Rs K G (full F H) [] (thawS st ds) vs
  | [], vs, _, r => by simp only [thawS, Rs] at r ⊢; exact r
  | d :: ds, vs, h, r => by
    simp only [thawS, Rs, loS, Bool.and_eq_true] at r h ⊢
    obtain ⟨v, ws, e, h1, h2⟩ := r
    exact ⟨v, ws, e, thaw_R rs d v h.1 h1, thaw_Rs rs ds ws h.2 h2⟩
theorem thaw_Rk (rs : RelS K G F ph st H) : ∀ (ds : List (Key × D)) (vs : List (Key × V)), loK 0 (thawK st ds) = true → Rk K G F ph ds vs → Rk K G (full F H) [] (thawK st ds) vs
  | [], vs, _, r => by simp only [thawK, Rk] at r ⊢; exact r
  | (k, d) :: ds, vs, h, r => by
    simp only [thawK, Rk, loK, Bool.and_eq_true] at r h ⊢
    obtain ⟨v, ws, e, h1, h2⟩ := r
    exact ⟨v, ws, e, thaw_R rs d v h.1 h1, thaw_Rk rs ds ws h.2 h2⟩
theorem thaw_Rf (rs : RelS K G F ph st H) : ∀ (ds : List (Str × D)) (vs : List (Str × V)), loF 0 (thawF st ds) = true → Rf K G F ph ds vs → Rf K G (full F H) [] (thawF st ds) vs
  | [], vs, _, r => by simp only [thawF, Rf] at r ⊢; exact r
  | (k, d) :: ds, vs, h, r => by
    simp only [thawF, Rf, loF, Bool.and_eq_true] at r h ⊢
    obtain ⟨v, ws, e, h1, h2⟩ := r
    exact ⟨v, ws, e, thaw_R rs d v h.1 h1, thaw_Rf rs ds ws h.2 h2⟩
end
theorem RelS.grow (rs : RelS K G F ph st H) {F' H' : Hp} (h : ∀ a o, H a = some o → (∀ ps, o ≠ .tbl ps) → H' a = some o) (tb : Tb K G F' H') : RelS K G F ph st H' := by
  refine ⟨fun a o q => h a o (rs.sub a o q) fun ps z => rs.tb.nF a ps (z ▸ q), rs.len, rs.nd, fun n c a q1 q2 => ?_, ⟨rs.tb.nF, tb.at_, tb.only⟩⟩
  have c0 := rs.cells n c a q1 q2
  cases c with
  | lst ds => obtain ⟨z, vs, x, r⟩ := c0; exact ⟨z, vs, h _ _ x (fun _ z => by cases z), r⟩
  | ins k fs => obtain ⟨z, dx, ws, x, r⟩ := c0; exact ⟨z, dx, ws, h _ _ x (fun _ z => by cases z), r⟩
  | dct kvs => obtain ⟨z, ws, x, r⟩ := c0; exact ⟨z, ws, h _ _ x (fun _ z => by cases z), r⟩
  | fz d => exact c0
end
section
variable {X : Cx} {G : Nat → Addr} {W : WX}
theorem de_hide {e : Expr} {f : DenE} (h : DE X G W e f) : DE X G W e (eHide f) := by
  refine peImp h fun σ H Q ⟨F, ph, env, st, r, w⟩ => ⟨full F H, [], thawE st env, [], ⟨⟨fun a o q => full_sub r.s q, rfl, List.nodup_nil, fun n c a q => by simp at q, ⟨fun a ps => full_nt r.s.tb.nF ps, r.s.tb.at_, r.s.tb.only⟩⟩, ⟨by rw [r.e.len]; simp [thawE], fun i d q => ?_⟩⟩, ?_⟩
  · unfold thawE at q
    rw [List.getElem?_map] at q
    obtain ⟨o, e1, e2⟩ := Option.map_eq_some_iff.mp q
    cases o with
    | none => cases e2
    | some d0 =>
      simp only [Option.bind_some] at e2
      split at e2
      · rename_i hlo
        cases e2
        obtain ⟨v, e3, e4⟩ := r.e.get i d0 e1
        exact ⟨v, e3, thaw_R r.s d0 v hlo e4⟩
      · cases e2
  · unfold eHide at w
    cases hf : f (thawE st env) [] with
    | ok d st' =>
      simp only [hf] at w
      split at w
      · rename_i hfl
        intro F' ph' v H' ex r' rv
        have kp : ∀ a o, H a = some o → H' a = some o ∨ ∃ ps more, o = .tbl ps ∧ H' a = some (.tbl more) := fun a o q => ex.keep a o q (by simp)
        have grow : ∀ a o, H a = some o → (∀ ps, o ≠ .tbl ps) → H' a = some o := fun a o q n => (kp a o q).elim id fun ⟨ps, _, z, _⟩ => absurd z (n ps)
        exact w F ph v H' ⟨Ext.refl _ _, fun a o q _ => kp a o q, fun a z => .inl z, fun a o q => .inl ⟨o, q⟩⟩ ⟨r.s.grow grow r'.s.tb, r.e⟩ (flat_R hfl rv)
      · exact w.elim
    | exc x st' =>
      simp only [hf] at w
      split at w
      · rename_i hfl
        intro F' ph' dd H' ex r' xo
        have kp : ∀ a o, H a = some o → H' a = some o ∨ ∃ ps more, o = .tbl ps ∧ H' a = some (.tbl more) := fun a o q => ex.keep a o q (by simp)
        have grow : ∀ a o, H a = some o → (∀ ps, o ≠ .tbl ps) → H' a = some o := fun a o q n => (kp a o q).elim id fun ⟨ps, _, z, _⟩ => absurd z (n ps)
        rcases xo with ⟨q1, q2⟩ | ⟨d, ws, q1, q2, q3⟩
        · exact w F ph dd H' ⟨Ext.refl _ _, fun a o q _ => kp a o q, fun a z => .inl z, fun a o q => .inl ⟨o, q⟩⟩ ⟨r.s.grow grow r'.s.tb, r.e⟩ (.inl ⟨q1, q2⟩)
        · have hH' : H' d = some (.xd ws) := r'.s.sub _ _ q2
          cases hF : F d with
          | some o =>
            have : o = .xd ws := by
              have h1 := grow _ _ (r.s.sub _ _ hF) fun ps z => r.s.tb.nF _ ps (z ▸ hF)
              rw [hH'] at h1; cases h1; rfl
            subst this
            exact w F ph dd H' ⟨Ext.refl _ _, fun a o q _ => kp a o q, fun a z => .inl z, fun a o q => .inl ⟨o, q⟩⟩ ⟨r.s.grow grow r'.s.tb, r.e⟩ (.inr ⟨d, ws, q1, hF, flat_Rf hfl q3⟩)
          | none =>
            have hn : H d = none := by
              rcases ex.fnew _ _ q2 with ⟨u, z⟩ | z | z
              · have h1 := full_sub r.s z
                have h2 := grow _ _ h1 fun ps q => full_nt r.s.tb.nF ps (q ▸ z)
                rw [hH'] at h2; cases h2
                unfold full at z
                rw [h1] at z
                simp only [hF] at z
                cases z
              · exact z
              · simp at z
            have hm : d ∉ ph := (r.s.fresh hn).2
            obtain ⟨e4, r4⟩ := (r.s.grow grow r'.s.tb).adopt hF hm hH'
            refine w _ ph dd H' ⟨e4, fun a o q _ => kp a o q, fun a z => .inl z, fun a o q => ?_⟩ ⟨r4, r.e.mono e4⟩ (.inr ⟨d, ws, q1, upd_same, flat_Rf hfl q3⟩)
            by_cases ea : a = d
            · subst ea; exact .inr (.inl hn)
            · rw [upd_ne ea] at q; exact .inl ⟨o, q⟩
      · exact w.elim
    | bad => simp only [hf] at w; exact w
end
end Den

namespace Den
open PySem PySem.Spec PyProof.Rows L2

/-! ### min of texts -/
def ltAt (zs : List Str) (i j : Nat) : Bool := decide ((zs.getD i "").cps.toList < (zs.getD j "").cps.toList)
def minStr (zs : List Str) : Str := zs.getD (argBest (ltAt zs) (zs.length - 1)) ""
def minSD (ds : List D) (st : Store) : Res D := match ds with
  | [d] => match asR st d with
    | some xs => match strsOf xs with
      | some zs => if zs.isEmpty then .bad else .ok (.str (minStr zs)) st
      | none => .bad
    | none => .bad
  | _ => .bad
theorem argBest_le (bt : Nat → Nat → Bool) : ∀ k, argBest bt k ≤ k
  | 0 => Nat.le_refl _
  | k + 1 => by
    unfold argBest
    split
    · exact Nat.le_refl _
    · exact Nat.le_succ_of_le (argBest_le bt k)
theorem min_strL {prog : Program} {w : World} {A : Around} {E : Value → Shared → Prop} {s : Shared} {l : Addr} {its : List Value} {zs : List Str} {Q : Value → Shared → Prop} (hh : A.handled = none) (hl : s.heap.IsList l its.toArray) (rv : Vals (zs.map V.str) its) (hne : zs ≠ [])
    (h : ∀ h' tk t', (∀ b o, s.heap.get? b = some o → h'.get? b = some o) → Q (.str (minStr zs) t') { s with heap := h', toks := tk }) : wpAny (model prog w) A (call (.builtin "min") [.ref l]) Q E s := by
  have hlt : l < s.heap.objs.size := by obtain ⟨_, e, _⟩ := hl; exact Heap.lt_size e
  have lz : zs.length = its.length := by rw [← rv.length, List.length_map]
  have at_ : ∀ (i : Nat) (v : Value), its.toArray[i]? = some v → ∃ t, v = .str (zs.getD i "") t := by
    intro i v hv
    have hv' : its[i]? = some v := by simpa using hv
    have hi : i < its.length := (List.getElem?_eq_some_iff.mp hv').1
    obtain ⟨u, hu, ru⟩ := rv.get (i := i) (x := .str (zs.getD i "")) (by rw [List.getElem?_map, List.getElem?_eq_getElem (by omega)]; simp [List.getD, List.getElem?_eq_getElem (show i < zs.length by omega)])
    rw [hv'] at hu; cases hu
    exact ru
  refine call_min_walk (wpAny_pyIter_list hl ?_)
  refine ⟨_, _, _, _, _, _, ltAt zs, rfl, Walks.list (A := A.in1) hh s.heap.objs.size l (Nat.ne_of_lt hlt) its.toArray, ⟨⟨_, Heap.get?_push_size _ rfl, rfl, rfl⟩, hl.push _⟩, fun b hb => ?_, ?_, ?_, fun v h' tk hP hk => ?_⟩
  · show b < (s.heap.push _).objs.size
    rw [Heap.size_push]
    rcases List.mem_cons.mp hb with e | hb
    · rw [e]; exact Nat.lt_succ_self _
    · rw [List.mem_singleton.mp hb]; exact Nat.lt_succ_of_lt hlt
  · have := List.length_pos_iff.mpr hne
    simp only [List.size_toArray]; omega
  · intro i j vi vj s' Q' E' hi hj hq
    obtain ⟨t, rfl⟩ := at_ i vi hi
    obtain ⟨u, rfl⟩ := at_ j vj hj
    exact PySem.P.lt_str hq
  · obtain ⟨t, rfl⟩ := at_ _ v hP
    have e : (zs.getD (argBest (ltAt zs) (its.toArray.size - 1)) "") = minStr zs := by
      unfold minStr; rw [List.size_toArray, lz]
    rw [e]
    refine h h' tk t fun b o q => hk b o (fun hm => ?_) (Heap.get?_push_of_some _ q)
    rw [List.mem_singleton.mp hm] at q
    exact absurd (Heap.lt_size q) (Nat.lt_irrefl _)
section
variable {X : Cx} {G : Nat → Addr} {W : WX}
theorem cd_minS (hc : X.calm = true) : CallD X G W (.builtin "min") minSD := by
  intro pins s σ H xs us Q I rs ⟨σ', env, F, ph, st, ds, r, rv, w⟩
  unfold minSD at w
  split at w
  · obtain ⟨v, rfl, r1⟩ := rv.inv1
    split at w
    · rename_i ys hy
      split at w
      · rename_i zs hz
        split at w
        · exact w.elim
        · rename_i hne
          obtain ⟨p, vs, rfl, h2, h3⟩ := asR_ok r.s r1 hy
          cases strsOf_ok h3 hz
          obtain ⟨its, rv', hl, _⟩ := I.list h2
          rw [Vals.ref1 rs]
          exact min_strL (I.ok.hd hc) hl.isList rv' (by simpa using hne) fun h' tk t' hk => ⟨.str _, H, I.kept hk, ⟨_, rfl⟩, w.fin r (by simp only [R])⟩
      · exact w.elim
    · exact w.elim
  · exact w.elim
end
end Den

namespace Den
open PySem PySem.Spec PyProof.Rows L2
open AutoSeq1 (wpAny_loadPart')

/-! ### enumerate of a tuple -/
theorem enum_newT (l : Addr) (items : Array Value) (n : Nat) (dct : Option Addr) (sl : Array (Option Value)) :
    Meets (Builtin.«enumerate.__new__» ⟨[.type "enumerate", .ref l], []⟩) (fun _ R s => s.heap.get? l = some { cls := .type "tuple", dict := dct, data := .seq items n, slots := sl } ∧
      R (.ok (.ret (.ref (s.heap.push { cls := .type "tuple_iterator", data := .fields #[.ref l, .int 0 0] }).objs.size)))
        { s with heap := (s.heap.push { cls := .type "tuple_iterator", data := .fields #[.ref l, .int 0 0] }).push { cls := .type "enumerate", data := .fields #[.none, .bool false, .ref s.heap.objs.size, rawInt 0, .none, .none] } }) :=
  .of_wp fun prog w A R s h => by
    obtain ⟨hp, g, d, tk, os⟩ := s
    obtain ⟨hl, h⟩ := h
    have hsub := sub_enumerate
    have hT : Heap.IsTuple (Shared.heap ⟨hp, g, d, tk, os⟩) l items := ⟨_, hl, rfl, n, rfl⟩
    wp_walk using wpAny_loadPart' hl
    refine wpAny_stack_any fun st => wpAny_pure ?_
    split
    · rename_i c _ _ _ _ _
      cases (c == Value.type "enumerate") <;> (wp_walk using wpAny_loadPart' hl, wpAny_pyIter_tuple hT; exact ⟨_, rfl, h⟩)
    · wp_walk using wpAny_loadPart' hl, wpAny_pyIter_tuple hT
      exact ⟨_, rfl, h⟩
theorem call_enumT {prog : Program} {w : World} {A : Around} {E : Value → Shared → Prop} {s : Shared} {l : Addr} {items : Array Value} {Q : Value → Shared → Prop} (hT : s.heap.IsTuple l items)
    (h : ∀ h', IsEnum h' (s.heap.objs.size + 1) s.heap.objs.size 0 .none → h'.IsTupleIter s.heap.objs.size l 0 → h'.objs.size = s.heap.objs.size + 2 → (∀ b o, s.heap.get? b = some o → h'.get? b = some o) → Q (.ref (s.heap.objs.size + 1)) { s with heap := h' }) :
    wpAny (model prog w) A (call (.type "enumerate") [.ref l]) Q E s := by
  obtain ⟨⟨c, dct, dt, sl⟩, hl, hc, n, hd⟩ := hT
  obtain rfl : c = .type "tuple" := hc
  obtain rfl : dt = .seq items n := hd
  refine callType_new F.called_enumerate (by decide) (F.typeCall_enumerate_1 _) (F.newCall_enumerate_1 _) (fun obj => F.args_object_init_2 obj _) F.entry_enumerate_new (enum_newT l items n dct sl) ⟨hl, ?_⟩
  have hz : (s.heap.push { cls := .type "tuple_iterator", data := .fields #[.ref l, .int 0 0] }).objs.size = s.heap.objs.size + 1 := Heap.size_push ..
  show _ ∧ _
  rw [hz]
  have he : IsEnum ((s.heap.push { cls := .type "tuple_iterator", data := .fields #[.ref l, .int 0 0] }).push { cls := .type "enumerate", data := .fields #[.none, .bool false, .ref s.heap.objs.size, rawInt 0, .none, .none] }) (s.heap.objs.size + 1) s.heap.objs.size 0 .none := by
    have q := Heap.get?_push_size (s.heap.push { cls := .type "tuple_iterator", data := .fields #[.ref l, .int 0 0] }) (o := { cls := .type "enumerate", data := .fields #[.none, .bool false, .ref s.heap.objs.size, rawInt 0, .none, .none] }) rfl
    rw [hz] at q; exact q
  refine ⟨⟨_, he, rfl⟩, h _ he ⟨_, Heap.get?_push_of_some _ (Heap.get?_push_size _ rfl), rfl, rfl⟩ (by rw [Heap.size_push, hz]) fun b o x => Heap.get?_push_of_some _ (Heap.get?_push_of_some _ x)⟩
theorem next_enumT_end {prog : Program} {w : World} {A : Around} {E : Value → Shared → Prop} {s : Shared} {e it l : Addr} {i : Nat} {items : Array Value} {old : Value} {Q : Option Value → Shared → Prop} (hh : A.handled = none) (he : IsEnum s.heap e it i old) (hit : s.heap.IsTupleIter it l i) (hl : s.heap.IsTuple l items) (hx : items[i]? = none)
    (hQ : ∀ h', Heap.ExtBut it s.heap h' → Q none { s with heap := h' }) : wpAny (model prog w) A (pyNext (.ref e)) Q E s := by
  have hty : s.TypeIs (.ref e) "enumerate" := ⟨_, he, rfl⟩
  unfold pyNext
  refine wpAny_bind (wpAny_attempt (wpAny_callSpecial?_slot (name := Str.ofString "__next__") hty F.slot_enumerate_next (wpAny_call_entry F.slot_enumerate_next hty F.entry_enumerate_next ?_ (F.args_enumerate_next_1 _))))
  show wpAny _ _ (field (.ref e) 2 >>= _) _ _ _
  refine wpAny_bind (wpAny_field he rfl (x := .ref it) rfl (wpAny_bind (wpAny_nextOf_tuple_end hh hit hl hx fun h' x he' hx' => ?_)))
  obtain ⟨o, ho, hc⟩ := hx'
  exact wpAny_bind (wpAny_isInstance (T := "StopIteration") (b := true) ⟨o, ho, hc⟩ isSubtype_stop (wpAny_pure (hQ _ he')))
/-- the tuple at a, each item in a new pair -/
def IteT (K : PySem.W.Frag) (a : Addr) : It :=
  ⟨fun i H => ∃ (xs : List V) (x : V), SqT K H a xs ∧ xs[i]? = some x, fun i H v H' => ∃ T x, v = .ref T ∧ H T = none ∧ H' = upd H T (.tup [.int (i : Nat), x]) ∧ ∀ xs, SqT K H a xs → xs[i]? = some x, fun i H => ∃ xs : List V, SqT K H a xs ∧ xs.length ≤ i⟩
theorem turn_enumT {P : Program} {w : World} {K : PySem.W.Frag} {elts : List Expr} {kk : Nat} {tpos : Pos} (a e it : Addr) :
    Turn P w K (.Tuple elts kk tpos) (IteT K a) [e, it] e (fun i h => (∃ old, IsEnum h e it ((i : Nat) : Int) old) ∧ h.IsTupleIter it a i ∧ e ≠ it) where
  mem := by simp
  obj := fun i h st b hb => by
    obtain ⟨⟨old, he⟩, ⟨o, ho, hc, hd⟩, _⟩ := st
    rcases (show b = e ∨ b = it by simpa using hb) with z | z
    · rw [z]; exact ⟨_, he, fun v q => nomatch q⟩
    · rw [z]; exact ⟨o, ho, fun v q => by rw [hd] at q; cases q⟩
  keep := fun i h h' st k => let ⟨⟨old, he⟩, hi, hne⟩ := st; ⟨⟨old, k e (by simp) _ he⟩, hi.at fun o q => k it (by simp) o q, hne⟩
  item := by
    intro X hP hw hK hcl i pins s σ H E I hf st hg
    subst hP hw hK
    obtain ⟨⟨old, he⟩, hit, hne⟩ := st
    obtain ⟨xs, x, hq, hx⟩ := hg
    obtain ⟨its, rv, p, hz⟩ := I.tuple hq
    obtain ⟨u, hu, ru⟩ := rv.get hx
    have hel : e < s.heap.objs.size := Heap.lt_size he
    have hil : it < s.heap.objs.size := by obtain ⟨_, q, _⟩ := hit; exact Heap.lt_size q
    have hai : a ≠ it := fun z => by
      obtain ⟨o1, q1, c1, _⟩ := p
      obtain ⟨o2, q2, c2, _⟩ := hit
      rw [z, q2] at q1; cases q1; rw [c1] at c2; simp at c2
    have hae : e ≠ a := fun z => by
      obtain ⟨o1, q1, c1, _⟩ := p
      rw [← z, he] at q1; cases q1; simp at c1
    have hil' : i < its.toArray.size := by simpa using (List.getElem?_eq_some_iff.mp hu).1
    refine wpAny_pyNext_enum_itemD (Draws.tuple (A := X.A.in1) (I.ok.hd hcl) it a hai its.toArray) he ⟨hit, p⟩ hil' hne (by simp [hne, hae]) fun y h' tk hy ho hit' hT hsz hk => ?_
    obtain rfl : y = u := by
      have e1 : its[i]? = some y := by simpa using hy
      rw [hu] at e1; cases e1; rfl
    refine ⟨_, rfl, wpAny_letOwnedTupleGo_enum (s := { s with heap := h', toks := tk + 1 }) ho fun h'' he' sb => ?_⟩
    have hT2 : h''.get? s.heap.objs.size = some { cls := .type "tuple", data := .seq #[.int i tk, y] } := (sb.2 _ (Nat.ne_of_gt hel)).trans hT
    have new : ObjOk X.prog X.w (upd H s.heap.objs.size (.tup [.int (i : Nat), x])) h'' s.heap.objs.size (.tup [.int (i : Nat), x]) :=
      ⟨by show 2 ≤ sizeLine; decide, [.int i tk, y], .cons ⟨_, rfl⟩ (.cons ru .nil), ⟨_, hT2, rfl, _, rfl⟩⟩
    have I1 : Inv X pins σ (upd H s.heap.objs.size (.tup [.int (i : Nat), x])) { s with heap := h'', toks := tk + 1 } :=
      I.turnedNew (ch := [e, it]) (fun b ob hb q => (sb.2 b (fun z => hb (by simp [z]))).trans (hk b ob (fun z => hb (by simp [z])) (fun z => hb (by simp [z])) q)) hf (Nat.le_refl _) new
    refine ⟨.ref s.heap.objs.size, _, I1, rfl, ⟨_, x, rfl, I.hok.fresh (Nat.le_refl _), rfl, fun ys hy => by rw [I.tuple_inj hy hq]; exact hx⟩, ⟨⟨y, ?_⟩, hit'.1.at fun o q => (sb.2 it (Ne.symm hne)).trans q, hne⟩, fun b hb => ?_⟩
    · rw [show ((i + 1 : Nat) : Int) = (i : Int) + 1 by omega]; exact he'
    · have hb' : b < s.heap.objs.size := by
        rcases (show b = e ∨ b = it by simpa using hb) with z | z
        · rw [z]; exact hel
        · rw [z]; exact hil
      rw [upd_ne (Nat.ne_of_lt hb')]; exact (hf b hb).1
  done := by
    intro X hP hw hK hcl i pins s σ H E I hf st hg
    subst hP hw hK
    obtain ⟨⟨old, he⟩, hit, hne⟩ := st
    obtain ⟨xs, hq, hx⟩ := hg
    obtain ⟨its, rv, p, hz⟩ := I.tuple hq
    obtain ⟨f0, f1, f2, f3, f4, f5⟩ := hf it (by simp)
    have hl := rv.length
    exact next_enumT_end (I.ok.hd hcl) he hit p (by simp; omega) fun h' eb => ⟨rfl, I.turned (t' := s.toks) (fun b o hb q => eb b o hb q) f0 f1 f3 f4 f5⟩
  self := fun A i s Q E st h => let ⟨⟨_, he⟩, _⟩ := st; wpAny_pyIter_enum he h
section
variable {X : Cx} {G : Nat → Addr} {W : WX}
def iEnumA (K : PySem.W.Frag) (ta : TA) : TI := fun σ H R => ta σ H fun vs H1 => ∃ a xs, vs = [.ref a] ∧ ((SqL K H1 a xs ∧ R (Ite K a) H1) ∨ (SqT K H1 a xs ∧ R (IteT K a) H1))
theorem pi_enumA {e : Expr} {ta : TA} {p pos tpos : Pos} {elts : List Expr} {kk : Nat} (hg : Gl X "enumerate") (hm : X.mg "enumerate" = none) (ha : PA X [e] ta) (hs : starEach [e] X.env = [(false, eval e X.env)] := by rfl) :
    PI X (.Tuple elts kk tpos) (.Call (.Name "enumerate" p) [e] [] pos) (iEnumA X.K ta) := by
  refine ⟨fun pins s σ H R I h => Call_ (ld_blt I hg hm boot_enumerate (PyProof.Rows.callWith_type1 (thn (ha.run pos pins s σ H _ I h) fun us s1 ⟨vs, H1, I1, r1, q1⟩ => ?_) hs rfl))⟩
  obtain ⟨a, xs, ex, q⟩ := q1
  subst ex
  cases r1 with
  | cons r rr =>
    cases rr
    cases r
    have fp : ∀ b ∈ [s1.heap.objs.size + 1, s1.heap.objs.size], s1.heap.objs.size ≤ b := fun b hb => by
      rcases (show b = s1.heap.objs.size + 1 ∨ b = s1.heap.objs.size by simpa using hb) with z | z <;> rw [z]
      · exact Nat.le_add_right _ _
      · exact Nat.le_refl _
    rcases q with ⟨hq, q⟩ | ⟨hq, q⟩
    · obtain ⟨its, rv, p', hz⟩ := I1.list hq
      refine call_enumerate_list p'.isList fun h' he hit hsz hk => wpAny_pyIter_enum he ?_
      have I2 : Inv X pins σ H1 { s1 with heap := h' } := I1.kept (t' := s1.toks) hk
      exact ⟨s1.heap.objs.size + 1, [s1.heap.objs.size + 1, s1.heap.objs.size], _, _, H1, rfl, I2, turn_enum a (s1.heap.objs.size + 1) s1.heap.objs.size, ⟨⟨.none, he⟩, hit, Nat.succ_ne_self _⟩, fun b hb => I1.fpOk (fp b hb) (I1.hok.fresh (fp b hb)), q⟩
    · obtain ⟨its, rv, p', hz⟩ := I1.tuple hq
      refine call_enumT p' fun h' he hit hsz hk => wpAny_pyIter_enum he ?_
      have I2 : Inv X pins σ H1 { s1 with heap := h' } := I1.kept (t' := s1.toks) hk
      exact ⟨s1.heap.objs.size + 1, [s1.heap.objs.size + 1, s1.heap.objs.size], _, _, H1, rfl, I2, turn_enumT a (s1.heap.objs.size + 1) s1.heap.objs.size, ⟨⟨.none, he⟩, hit, Nat.succ_ne_self _⟩, fun b hb => I1.fpOk (fp b hb) (I1.hok.fresh (fp b hb)), q⟩
def iEA (f : DenA) : DenI := fun env st => (f env st).bind fun ds st1 => match ds with
  | [.lst a] => .ok (enumD 0 a) st1
  | [.ro a] => .ok (enumD 0 a) st1
  | [.tup a] => .ok (enumD 0 a) st1
  | _ => .bad
theorem walkET {K : PySem.W.Frag} {F : Hp} {ph : List Addr} {a : Addr} {ds : List D} {vs : List V} (h : F a = some (.tup vs)) (rs : Rs K G F ph ds vs) : WalkD K G F ph (enumD 0 ds) (IteT K a) := by
  unfold WalkD
  rw [enumD_len, ← rs.len]
  have wk : Walk (IteT K a) vs.length (fun H => SqT K H a vs) (YPair (fun i => some (.int (i : Nat))) (fun i => vs[i]?)) := by
    refine ⟨fun i _ hi q => ⟨vs, vs[i], q, by simp [hi]⟩, fun _ q => ⟨vs, q, Nat.le_refl _⟩, fun i H v H' _ q y => ?_⟩
    obtain ⟨T, x, h1, h2, h3, h4⟩ := y
    exact ⟨T, .int (i : Nat), x, h1, h2, h3, rfl, h4 vs q⟩
  refine wk.mono (fun H sub => SqT.of (sub _ _ h)) fun i H v H' hi sub y => ?_
  obtain ⟨T, x, z, h1, h2, h3, h4, h5⟩ := y
  cases h4
  obtain ⟨d, e1, e2⟩ := rs.get' h5
  refine yPair (d := .int (i : Nat)) (e := d) sub ?_ h1 h2 h3 (by simp only [R]) e2
  rw [enumD_get, e1]; simp
theorem di_enumA {e : Expr} {f : DenA} {p pos tpos : Pos} {elts : List Expr} {kk : Nat} (hm : X.mg "enumerate" = none) (ha : DA X G W [e] f) (hg : Gl X "enumerate" := by rfl) (hs : starEach [e] X.env = [(false, eval e X.env)] := by rfl) :
    DI X G W (.Tuple elts kk tpos) (.Call (.Name "enumerate" p) [e] [] pos) (iEA f) := by
  refine piImp (pi_enumA hg hm ha hs) fun σ H Q ⟨F, ph, env, st, r, w⟩ => ⟨F, ph, env, st, r, w.bind fun ds st1 F1 p1 vs H1 e1 r1 rv w1 => ?_⟩
  split at w1
  · obtain ⟨v, rfl, q⟩ := rv.inv1
    simp only [R] at q
    obtain ⟨a, us, rfl, h2, h3⟩ := q
    exact ⟨a, us, rfl, .inl ⟨SqL.of (r1.s.sub _ _ h2), w1.fin r1 (walkE (SqL.of h2) h3)⟩⟩
  · obtain ⟨v, rfl, q⟩ := rv.inv1
    simp only [R] at q
    obtain ⟨a, us, rfl, h2, h3⟩ := q
    exact ⟨a, us, rfl, .inl ⟨Same.seq r1.s.sub h2, w1.fin r1 (walkE h2 h3)⟩⟩
  · obtain ⟨v, rfl, q⟩ := rv.inv1
    simp only [R] at q
    obtain ⟨a, us, rfl, h2, h3⟩ := q
    exact ⟨a, us, rfl, .inr ⟨SqT.of (r1.s.sub _ _ h2), w1.fin r1 (walkET h2 h3)⟩⟩
  · exact w1.elim
end
end Den

namespace Den
open PySem PySem.Spec PyProof.Rows L2

/-! ### methods that the interpreter calls -/
structure SpT (X : Cx) (G : Nat → Addr) (name : Str) (k n : Nat) (disp : Nat → Option Fn) : Prop where
  at_ : ∀ c g, disp c = some g → ∃ f fd ps, PySem.W.findIn X.K (.ref (G c)) name = some (some (.ref f)) ∧ PySem.W.isFn X.K (.ref f) = true ∧ FnG X.prog X.w X.K X.mg X.base G k f fd ps g ∧ Binds X.K fd ps [] ∧ ps.length = n
section
variable {X : Cx} {G : Nat → Addr} {W : WX} {k : Nat}
theorem run_spec {A : Around} {f : Addr} {fd : FuncData} {ps : List Str} {g : Fn} {pins : List (Addr × Obj)} {σ : L2.St} {env : Env} {F : Hp} {ph : List Addr} {st : Store} {H : Hp} {s : Shared} {Q : VK} {us : List Value} {vs : List V} {ds : List D} (Fn : FnG X.prog X.w X.K X.mg X.base G k f fd ps g) (gd : A.guards = some []) (fr : A.frames = X.A.frames) (hr : Room k A) (tk : Takes X W)
    (hb : Binds X.K fd ps []) (I : L2.Inv X pins σ H s) (r : Vals vs us) (hl : vs.length = ps.length) (rel : Rel X.K G F ph σ env st H) (rds : Rs X.K G F ph ds vs) (h : want X.K G (R X.K G) W σ env Q F ph H (g ds st)) :
    wpAny (model X.prog X.w) A (call (.ref f) us) (EP X pins σ Q) X.xe s := by
  have sp : spD X.K G g vs H Q (fun c d H' => W c d σ H') := by
    refine ⟨F, ph, ds, st, rel.s, rds, ?_⟩
    cases e : g ds st with
    | ok d st' => rw [e] at h; exact fun F' ph' v H' ex r' rv => h F' ph' v H' ex ⟨r', rel.e.mono ex.x⟩ rv
    | exc xx st' => rw [e] at h; exact fun F' ph' dd H' ex r' xo => h F' ph' dd H' ex ⟨r', rel.e.mono ex.x⟩ xo
    | bad => rw [e] at h; exact h
  have e0 : Env0 X.prog X.w X.K X.mg X.base A X.stack s H := by
    have e := I.env0
    exact ⟨by rw [fr]; exact e.frames, e.mod, e.bs, e.bsz, e.funs, e.frf, e.hok, e.bare⟩
  have hbi := hb s us I.kIn (by rw [List.append_nil, ← r.length]; exact hl)
  rw [List.append_nil] at hbi
  refine wpAny_call (codeAny_mono (Fn.run A X.stack s H ⟨us, []⟩ us vs Q _ gd hr e0 hbi r hl sp) fun res s' hq => ?_)
  cases res with
  | error e => exact tk e s' (XE.of_call I (fun _ _ _ q => q) hq)
  | ok fl =>
    cases fl with
    | ret u => exact I.after hq
    | next => exact hq.elim
    | brk => exact hq.elim
    | cont => exact hq.elim
theorem inst_at {pins : List (Addr × Obj)} {σ : L2.St} {H : Hp} {s : Shared} {a C dx : Addr} {fs : List (Str × V)} (I : L2.Inv X pins σ H s) (h : H a = some (.ins C dx fs)) : ∃ od, PySem.W.InstAt s.heap a (PySem.W.instObj C dx) C (some od) := by
  obtain ⟨mA, J, _⟩ := ins_get I.hok h
  obtain ⟨od, J, _⟩ := J.look
  exact ⟨od, J⟩
theorem takes_no : Takes X (fun _ _ _ _ => False) := fun _ _ ⟨_, _, _, _, _, _, _, _, _, _, _, _, _, _, _, _, w⟩ => w.elim
theorem rel_blank {K : PySem.W.Frag} {F : Hp} {ph : List Addr} {st : Store} {H : Hp} (σ : L2.St) (h : RelS K G F ph st H) : Rel K G F ph σ (List.replicate σ.length none) st H :=
  ⟨h, by simp, fun i d q => by
    rw [List.getElem?_replicate] at q
    split at q <;> cases q⟩
/-- a method that lets no exception out, called by the interpreter in the place of A -/
theorem run_quiet {A : Around} {name : Str} {n : Nat} {disp : Nat → Option Fn} {g : Fn} {c : Nat} {pins : List (Addr × Obj)} {σ : L2.St} {F : Hp} {ph : List Addr} {st st' : Store} {H : Hp} {s : Shared} {us : List Value} {vs : List V} {ds : List D} {d : D} (T : SpT X G name k n disp) (hd : disp c = some g) (gd : A.guards = some []) (fr : A.frames = X.A.frames) (hr : Room k A)
    (I : L2.Inv X pins σ H s) (r : Vals vs us) (hl : vs.length = n) (rel : RelS X.K G F ph st H) (rds : Rs X.K G F ph ds vs) (hg : g ds st = .ok d st') :
    ∃ f, PySem.W.findIn X.K (.ref (G c)) name = some (some (.ref f)) ∧ PySem.W.isFn X.K (.ref f) = true ∧ wpAny (model X.prog X.w) A (call (.ref f) us) (EP X pins σ fun v H' => ∃ F' ph', Ex F ph H F' ph' H' ∧ RelS X.K G F' ph' st' H' ∧ R X.K G F' ph' d v) X.xe s := by
  obtain ⟨f, fd, ps, h1, h2, Fn, hb, h3⟩ := T.at_ c g hd
  refine ⟨f, h1, h2, run_spec (W := fun _ _ _ _ => False) Fn gd fr hr takes_no hb I r (by omega) (rel_blank σ rel) rds ?_⟩
  rw [hg]
  exact fun F' ph' v H' ex r' rv => ⟨F', ph', ex, r'.s, rv⟩
/-- len(o) -/
def lenDO (disp : Nat → Option Fn) (ds : List D) (st : Store) : Res D := match ds with
  | [d] => match insOf st d with
    | some (c, _) => match disp c with
      | some g => match g [d] st with
        | .ok (.int n) st' => if 0 ≤ n ∧ n < 2 ^ 63 then .ok (.int n) st' else .bad
        | _ => .bad
      | none => .bad
    | none => lenD [d] st
  | _ => .bad
/-- repr(o), str(o) of an object with its own text -/
def txtO (disp : Nat → Option Fn) (els : List D → Store → Res D) (ds : List D) (st : Store) : Res D := match ds with
  | [d] => match insOf st d with
    | some (c, _) => match disp c with
      | some g => match g [d] st with
        | .ok (.str x) st' => .ok (.str x) st'
        | _ => .bad
      | none => .bad
    | none => els [d] st
  | _ => .bad
theorem cd_reprO {disp : Nat → Option Fn} {els : List D → Store → Res D} (T : SpT X G "__repr__" k 1 disp) (gd : X.A.guards = some []) (hr : Room (k + 1) X.A) (he : CallD X G W (.builtin "repr") els) : CallD X G W (.builtin "repr") (txtO disp els) := by
  intro pins s σ H xs us Q I rs ⟨σ', env, F, ph, st, ds, r, rv, w⟩
  unfold txtO at w
  split at w
  · rename_i d
    split at w
    · rename_i c fs hi
      split at w
      · rename_i g hg
        split at w
        · rename_i x st' hgo
          obtain ⟨v, rfl, r1⟩ := rv.inv1
          obtain ⟨a, dx, ws, rfl, h2, h3⟩ := insOf_ok r.s r1 hi
          obtain ⟨od, J⟩ := inst_at I h2
          obtain ⟨m, hF⟩ := I.fr
          obtain ⟨f, f1, f2, f3⟩ := run_quiet (A := X.A.in1) T hg gd rfl hr.in1 I (us := [.ref a]) (vs := [.ref a]) (.cons rfl .nil) rfl r.s rv hgo
          rw [Vals.ref1 rs]
          refine PySem.W.repr_K hr.in1.units0 hF I.ok.mod.kin J f1 f2 (wpAny_mono f3 (fun u s' q => ?_) fun _ _ e => e)
          obtain ⟨v, H', I', rv', F', ph', ex, r', rd⟩ := q
          simp only [R] at rd
          subst rd
          obtain ⟨t, rfl⟩ := rv'
          exact ⟨.str x, H', I', ⟨_, rfl⟩, w F' ph' _ H' ex ⟨r', r.e.mono ex.x⟩ (by simp only [R])⟩
        · exact w.elim
      · exact w.elim
    · exact he pins s σ H xs us Q I rs ⟨σ', env, F, ph, st, [d], r, rv, w⟩
  · exact w.elim
theorem cd_strO {disp : Nat → Option Fn} {els : List D → Store → Res D} (T : SpT X G "__str__" k 1 disp) (gd : X.A.guards = some []) (hr : Room (k + 2) X.A) (he : CallD X G W (.type "str") els) : CallD X G W (.type "str") (txtO disp els) := by
  intro pins s σ H xs us Q I rs ⟨σ', env, F, ph, st, ds, r, rv, w⟩
  unfold txtO at w
  split at w
  · rename_i d
    split at w
    · rename_i c fs hi
      split at w
      · rename_i g hg
        split at w
        · rename_i x st' hgo
          obtain ⟨v, rfl, r1⟩ := rv.inv1
          obtain ⟨a, dx, ws, rfl, h2, h3⟩ := insOf_ok r.s r1 hi
          obtain ⟨od, J⟩ := inst_at I h2
          obtain ⟨f, f1, f2, f3⟩ := run_quiet (A := X.A.in1.in1) T hg gd rfl hr.in1.in1 I (us := [.ref a]) (vs := [.ref a]) (.cons rfl .nil) rfl r.s rv hgo
          rw [Vals.ref1 rs]
          refine PySem.W.kso_call hr.in1.in1.units0 I.kIn J f1 f2 (wpAny_mono f3 (fun u s' q => ?_) fun _ _ e => e)
          obtain ⟨v, H', I', rv', F', ph', ex, r', rd⟩ := q
          simp only [R] at rd
          subst rd
          obtain ⟨t, rfl⟩ := rv'
          exact ⟨.str x, H', I', ⟨_, rfl⟩, w F' ph' _ H' ex ⟨r', r.e.mono ex.x⟩ (by simp only [R])⟩
        · exact w.elim
      · exact w.elim
    · exact he pins s σ H xs us Q I rs ⟨σ', env, F, ph, st, [d], r, rv, w⟩
  · exact w.elim
/-! ### isinstance against two types at once -/
def isi3 (S T : String) (ds : List D) (st : Store) : Res D := match ds with
  | [d, .tup [.ty a, .ty b]] => if a == S && b == T then match tnOf st d with
      | some t => match isaB S t, isaB T t with
        | some x, some y => .ok (.bl (x || y)) st
        | _, _ => .bad
      | none => .bad
    else .bad
  | _ => .bad
theorem cd_isi3 {S T : String} (hS : ["bool", "int", "str", "list", "tuple", "dict"].contains S = true := by decide +kernel) (hT : ["bool", "int", "str", "list", "tuple", "dict"].contains T = true := by decide +kernel) : CallD X G W (.builtin "isinstance") (isi3 S T) := by
  intro pins s σ H xs us Q I rs ⟨σ', env, F, ph, st, ds, r, rv, w⟩
  unfold isi3 at w
  split at w
  · rename_i d a b
    split at w
    · rename_i hab
      rw [Bool.and_eq_true, beq_iff_eq, beq_iff_eq] at hab
      obtain ⟨rfl, rfl⟩ := hab
      split at w
      · rename_i t ht
        split at w
        · rename_i x y hx hy
          obtain ⟨v, cv, rfl, r1, r2⟩ := rv.inv2
          simp only [R] at r2
          obtain ⟨tp, cs, rfl, h2, h3⟩ := r2
          simp only [Rs, R] at h3
          obtain ⟨_, _, rfl, rfl, _, _, rfl, rfl, rfl⟩ := h3
          cases t with
          | cl c => simp only [isaB] at hx; cases hx
          | ty n =>
            have k1 := isaB_kit (K := X.K) hS hx
            have k2 := isaB_kit (K := X.K) hT hy
            refine call_isiT pins s σ H _ us Q I rs ⟨v, tp, [.ty a, .ty b], .type n, [.type a, .type b], x || y, rfl, r.s.sub _ _ h2, .cons (.ty a) (.cons (.ty b) .nil), tn_ok r.s r1 ht (fun c z => by cases z), ?_, w.fin r (by simp only [R])⟩
            simp only [PySem.W.kitAny, k1, k2]
            cases x <;> cases y <;> rfl
        · exact w.elim
      · exact w.elim
    · exact w.elim
  · exact w.elim
end
end Den

namespace Den
open PySem PySem.Spec PyProof.Rows L2
section
variable {X : Cx} {G : Nat → Addr} {W : WX} {k : Nat}
/-! ### list.index of texts -/
def posOf (x : Str) : List Str → Option Nat
  | [] => none
  | y :: ys => if y == x then some 0 else (posOf x ys).map (· + 1)
theorem posOf_some {x : Str} : ∀ {zs : List Str} {j : Nat}, posOf x zs = some j → zs[j]? = some x ∧ ∀ (m : Nat) z, m < j → zs[m]? = some z → (z == x) = false
  | [], j, h => by cases h
  | y :: ys, j, h => by
    unfold posOf at h
    split at h
    · rename_i e
      cases h
      exact ⟨by rw [eq_of_beq e]; rfl, fun m z hm => by omega⟩
    · rename_i e
      obtain ⟨i, h1, rfl⟩ := Option.map_eq_some_iff.mp h
      obtain ⟨h2, h3⟩ := posOf_some h1
      refine ⟨by simpa using h2, fun m z hm hz => ?_⟩
      cases m with
      | zero => simp only [List.getElem?_cons_zero, Option.some.injEq] at hz; subst hz; simpa using e
      | succ m => exact h3 m z (by omega) (by simpa using hz)
def indexD (d : D) (ds : List D) (st : Store) : Res D := match ds with
  | [.str x] => match asR st d with
    | some xs => match strsOf xs with
      | some zs => match posOf x zs with
        | some j => .ok (.int (j : Nat)) st
        | none => .bad
      | none => .bad
    | none => .bad
  | _ => .bad
theorem md_index : MtD X G W "list.index" indexD := by
  intro pins s σ H x xs v us Q I rx rs ⟨σ', env, F, ph, st, d, ds, r, rd, rds, w⟩
  unfold indexD at w
  split at w
  · rename_i y
    obtain ⟨yv, rfl, ry⟩ := rds.inv1
    simp only [R] at ry
    subst ry
    split at w
    · rename_i ys hy
      split at w
      · rename_i zs hz
        split at w
        · rename_i j hj
          obtain ⟨p, vs, rfl, h2, h3⟩ := asR_ok r.s rd hy
          cases strsOf_ok h3 hz
          obtain ⟨h4, h5⟩ := posOf_some hj
          refine mt_index pins s σ H _ _ v us Q I rx rs ⟨p, zs.map V.str, .str y, j, .str y, rfl, rfl, h2, rfl, ?_, by rw [List.getElem?_map, h4]; rfl, ?_, fun m z' hm hz' => ?_, w.fin r (by simp only [R])⟩
          · simp [flatV]
          · simp [eqV]
          · rw [List.getElem?_map] at hz'
            obtain ⟨z, e1, rfl⟩ := Option.map_eq_some_iff.mp hz'
            have := h5 m z hm e1
            simpa [eqV] using this
        · exact w.elim
      · exact w.elim
    · exact w.elim
  · exact w.elim
/-! ### str of an int, of a text -/
def strD (ds : List D) (st : Store) : Res D := match ds with
  | [.int i] => if i.natAbs.log2 < 1920 then .ok (.str (toString i)) st else .bad
  | [.str x] => .ok (.str x) st
  | [.non] => .ok (.str "None") st
  | _ => .bad
theorem cd_str : CallD X G W (.type "str") strD := by
  intro pins s σ H xs us Q I rs ⟨σ', env, F, ph, st, ds, r, rv, w⟩
  unfold strD at w
  split at w
  · split at w
    · rename_i hi
      obtain ⟨v, rfl, r1⟩ := rv.inv1
      simp only [R] at r1; subst r1
      exact call_str_int pins s σ H _ us Q I rs ⟨_, rfl, hi, w.fin r (by simp only [R])⟩
    · exact w.elim
  · obtain ⟨v, rfl, r1⟩ := rv.inv1
    simp only [R] at r1; subst r1
    exact SkE.call_str_str pins s σ H _ us Q I rs ⟨_, rfl, w.fin r (by simp only [R])⟩
  · obtain ⟨v, rfl, r1⟩ := rv.inv1
    simp only [R] at r1; subst r1
    obtain ⟨u, rfl, r2⟩ := vals1 rs
    cases r2
    exact PySem.P.str_of_none ⟨.str "None", H, I.tok _, ⟨_, rfl⟩, w.fin r (by simp only [R])⟩
  · exact w.elim
end
end Den

namespace Den
open PySem PySem.Spec PyProof.Rows L2
/-- what stands in a class -/
def clsB (s : Stmt) : List Stmt := match s with | .ClassDef (body := bb) .. => bb | _ => []
section
variable {K : PySem.W.Frag} {G : Nat → Addr} {x qual : Str} {f : Addr} {fd : FuncData} {ps : List Str}
theorem funD_mk {st : Stmt} {kws : List (Str × V)} {oc : Value} {od an : Option Addr} {osl : Array (Option Value)} {dD : Addr} {doc pm cdv ct : Value} (l : K.lookup f = some ⟨oc, od, .func (PySem.W.fnOf x qual (defArgs st) (defBody st) (defScope st) .none (.ref dD) doc pm an cdv ct), osl⟩)
    (c : PySem.W.codeIn K cdv qual = true) (k : PySem.W.keepIn K (.ref f) = true) (h : ∀ q ∈ kws, ∃ u, PySem.W.nsIn K dD q.1 = some (some u) ∧ RelV q.2 u) : FunD K x qual (defArgs st) (defBody st) (defScope st) [] kws f (PySem.W.fnOf x qual (defArgs st) (defBody st) (defScope st) .none (.ref dD) doc pm an cdv ct) :=
  ⟨⟨oc, od, .none, .ref dD, doc, pm, an, cdv, ct, osl, rfl, l, c, .inl ⟨rfl, rfl⟩, .inr ⟨dD, rfl, h⟩⟩, k⟩
/-- keyword-only parameters: es those that are written, dms those that lack -/
theorem bd_kw {params : Arguments} {body : List Stmt} {scope : Scope} {kws : List (Str × V)} (F : FunD K x qual params body scope [] kws f fd) (n : Nat) (ks : List Str) (ms : List (Str × V)) (dms : List D) (hk : kws ≠ []) (hms : ∀ q ∈ ms, q ∈ kws)
    (hd : ∀ (F : Hp) (ph : List Addr), Rs K G F ph dms (ms.map (·.2))) (hn : n + (ks.length + ms.length) = ps.length)
    (h : ∀ (D : Addr) (doc pm : Value) (an : Option Addr) (cdv ct : Value) (us mv ws : List Value), us.length = n → mv.length = ms.length → ws.length = ks.length →
      KwChain D ((ms.map (·.1)).zip mv) (bindArgs (PySem.W.fnOf x qual params body scope .none (.ref D) doc pm an cdv ct) ⟨us, ks.zip ws⟩) (ps.zip (us ++ (ws ++ mv)))) : Bd K G fd ps n ks (fun ds es => ds ++ (es ++ dms)) := by
  obtain ⟨mv, hb⟩ := F.kbinds0 (ps := ps) n ks ms (fun us mv ws => us ++ (ws ++ mv)) hk hms (fun a b c => a.append (c.append b)) h
  refine bd_kbn hb fun F ph ds es vs zs l1 l2 rd re => ⟨?_, rd.app (re.app (hd F ph))⟩
  simp only [List.length_append, List.length_map, l1, l2]; omega
end
section
variable {X : Cx} {G : Nat → Addr} {W : WX}
/-- a statement that is never reached -/
theorem ds_never {s : Stmt} : DS X G W s sBad := ⟨fun _ _ _ _ _ _ ⟨_, _, _, _, _, w⟩ => w.elim⟩
/-- no class known -/
theorem disp2 {P : Nat → (List D → List D → Store → Res D) → Prop} {a b : Nat} {h h' : List D → List D → Store → Res D} {c : Nat} {g : List D → List D → Store → Res D} (e : (if c = a then some h else if c = b then some h' else none) = some g) (ha : P a h) (hb : P b h') : P c g := by
  split at e
  · rename_i z; cases e; rw [z]; exact ha
  · split at e
    · rename_i z; cases e; rw [z]; exact hb
    · cases e
theorem disp1 {P : Nat → (List D → List D → Store → Res D) → Prop} {a : Nat} {h : List D → List D → Store → Res D} {c : Nat} {g : List D → List D → Store → Res D} (e : (if c = a then some h else none) = some g) (ha : P a h) : P c g := by
  split at e
  · rename_i z; cases e; rw [z]; exact ha
  · cases e
theorem fld2 {P : Nat → Prop} {a b : Nat} {c : Nat} (e : (c == a || c == b) = true) (ha : P a) (hb : P b) : P c := by
  rw [Bool.or_eq_true, beq_iff_eq, beq_iff_eq] at e
  rcases e with z | z <;> rw [z]
  · exact ha
  · exact hb
end
section
variable {X : Cx} {G : Nat → Addr} {W : WX} {k n : Nat} {m f name : Str} {ks : List Str} {a b : Nat}
abbrev MAt (X : Cx) (G : Nat → Addr) (W : WX) (m : Str) (n : Nat) (ks : List Str) (c : Nat) (h : List D → List D → Store → Res D) : Prop := ∃ f, Cls X.K (G c) ∧ Meth X.K (G c) m f ∧ CallG X G W (.ref f) (n + 1) ks h
theorem met1 {h : List D → List D → Store → Res D} (ha : MAt X G W m n ks a h) : MetT X G W m n ks (fun c => if c = a then some h else none) :=
  ⟨fun c g e => disp1 (P := fun c h => MAt X G W m n ks c h) e ha⟩
theorem met2 {h h' : List D → List D → Store → Res D} (ha : MAt X G W m n ks a h) (hb : MAt X G W m n ks b h') : MetT X G W m n ks (fun c => if c = a then some h else if c = b then some h' else none) :=
  ⟨fun c g e => disp2 (P := fun c h => MAt X G W m n ks c h) e ha hb⟩
theorem fldT1 {K : PySem.W.Frag} (ha : Cls K (G a) ∧ NoAttr K (G a) f) : FldT K G f (fun c => c == a) := ⟨fun c e => by rw [beq_iff_eq.mp e]; exact ha⟩
theorem fldT2 {K : PySem.W.Frag} (ha : Cls K (G a) ∧ NoAttr K (G a) f) (hb : Cls K (G b) ∧ NoAttr K (G b) f) : FldT K G f (fun c => c == a || c == b) := ⟨fun c e => fld2 (P := fun c => Cls K (G c) ∧ NoAttr K (G c) f) e ha hb⟩
abbrev SAt (X : Cx) (G : Nat → Addr) (name : Str) (k n : Nat) (c : Nat) (g : Fn) : Prop := ∃ f fd ps, PySem.W.findIn X.K (.ref (G c)) name = some (some (.ref f)) ∧ PySem.W.isFn X.K (.ref f) = true ∧ FnG X.prog X.w X.K X.mg X.base G k f fd ps g ∧ Binds X.K fd ps [] ∧ ps.length = n
theorem spT2 {g g' : Fn} (ha : SAt X G name k n a g) (hb : SAt X G name k n b g') : SpT X G name k n (fun c => if c = a then some g else if c = b then some g' else none) := ⟨fun c g'' e => by
  split at e
  · rename_i z; cases e; rw [z]; exact ha
  · split at e
    · rename_i z; cases e; rw [z]; exact hb
    · cases e⟩
theorem FnG.mono {P : Program} {w : World} {K : PySem.W.Frag} {mg : Str → Option Value} {base : Heap} {j : Nat} {fa : Addr} {fd : FuncData} {ps : List Str} {g : Fn} (F : FnG P w K mg base G j fa fd ps g) (h : j ≤ k) : FnG P w K mg base G k fa fd ps g :=
  ⟨fun A outer s H args us vs Q E gd hr => F.run A outer s H args us vs Q E gd (hr.mono h)⟩
/-! ### in place -/
def iaddD (d e : D) (st : Store) : Res D := match d, e with
  | .int i, .int j => .ok (.int (i + j)) st
  | _, _ => .bad
def imulD (d e : D) (st : Store) : Res D := match d, e with
  | .int i, .int j => if mulOk i j then .ok (.int (i * j)) st else .bad
  | _, _ => .bad
end
end Den

namespace Den
open PySem PySem.Spec PyProof.Rows L2
section
variable {env : Env} {st : Store} {Q : D → Store → Prop} {QL : List D → Store → Prop} {E : Xc → Store → Prop} {N : Env → Store → Prop} {P : SRes → Prop}
theorem wp_eFld {f : Str} {ok : Nat → Bool} {fo : DenE} : (eFld f ok fo env st).wp Q E = (fo env st).wp (fun d st1 => ∃ c fs x, insOf st1 d = some (c, fs) ∧ ok c = true ∧ fs.lookup f = some x ∧ Q x st1) E := by
  unfold eFld; rw [wp_bind]
  congr 1; funext d st1
  cases h : insOf st1 d with
  | none => simp [wp_bad]
  | some z =>
    obtain ⟨c, fs⟩ := z
    simp only [Option.some.injEq, Prod.mk.injEq]
    cases ho : ok c with
    | false =>
      refine propext ⟨fun q => by simp [wp_bad] at q, fun ⟨c', fs', x, ⟨e1, e2⟩, h1, _⟩ => ?_⟩
      rw [← e1, ho] at h1; cases h1
    | true =>
      simp only [if_true]
      cases hl : fs.lookup f with
      | none =>
        refine propext ⟨fun q => by simp [wp_bad] at q, fun ⟨c', fs', x, ⟨e1, e2⟩, _, h2, _⟩ => ?_⟩
        rw [← e2, hl] at h2; cases h2
      | some x =>
        refine propext ⟨fun q => ⟨c, fs, x, ⟨rfl, rfl⟩, ho, hl, q⟩, fun ⟨c', fs', x', ⟨e1, e2⟩, _, h2, q⟩ => ?_⟩
        rw [← e2, hl] at h2; cases h2; exact q
theorem wp_eCall {h : List D → List D → Store → Res D} {fa fk : DenA} : (eCall h fa fk env st).wp Q E = (fa env st).wp (fun ds st1 => (fk env st1).wp (fun es st2 => (h ds es st2).wp Q E) E) E := by
  unfold eCall; rw [wp_bind]; exact Res.wp_ext fun d st1 => by rw [wp_bind]
theorem wp_eMeth {m : Str} {disp : Nat → Option (List D → List D → Store → Res D)} {fo : DenE} {fa fk : DenA} : (eMeth m disp fo fa fk env st).wp Q E = (fo env st).wp (fun d st1 => ∃ c fs h, insOf st1 d = some (c, fs) ∧ disp c = some h ∧ fs.lookup m = none ∧ (fa env st1).wp (fun ds st2 => (fk env st2).wp (fun es st3 => (h (d :: ds) es st3).wp Q E) E) E) E := by
  unfold eMeth; rw [wp_bind]
  congr 1; funext d st1
  cases h : insOf st1 d with
  | none => simp [wp_bad]
  | some z =>
    obtain ⟨c, fs⟩ := z
    simp only [Option.some.injEq, Prod.mk.injEq]
    cases hd : disp c with
    | none =>
      refine propext ⟨fun q => by simp [wp_bad] at q, fun ⟨c', fs', g, ⟨e1, e2⟩, h1, _⟩ => ?_⟩
      rw [← e1, hd] at h1; cases h1
    | some g =>
      cases hl : fs.lookup m with
      | some x =>
        refine propext ⟨fun q => by simp [wp_bad] at q, fun ⟨c', fs', g', ⟨e1, e2⟩, _, h2, _⟩ => ?_⟩
        rw [← e2, hl] at h2; cases h2
      | none =>
        have ew : ((fa env st1).bind fun ds st2 => (fk env st2).bind fun es st3 => g (d :: ds) es st3).wp Q E = (fa env st1).wp (fun ds st2 => (fk env st2).wp (fun es st3 => (g (d :: ds) es st3).wp Q E) E) E := by
          rw [wp_bind]; exact Res.wp_ext fun d st1 => by rw [wp_bind]
        simp only [ew]
        refine propext ⟨fun q => ⟨c, fs, g, ⟨rfl, rfl⟩, hd, hl, q⟩, fun ⟨c', fs', g', ⟨e1, e2⟩, h1, _, q⟩ => ?_⟩
        rw [← e1, hd] at h1; cases h1; exact q
theorem wp_eHide {f : DenE} {d : D} {st' : Store} (h : f (thawE st env) [] = .ok d st') (hf : flat d = true) : (eHide f env st).wp Q E = Q d st := by
  simp only [eHide, h, hf, if_true, wp_ok]
theorem wp_sFldD {f : Str} {ok : Nat → Bool} {fo fv : DenE} : (sFldD f ok fo fv env st).wp N P = (fv env st).wp (fun y st1 => (fo env st1).wp (fun x st2 => ∃ n c fs, x = .cell n ∧ st2[n]? = some (.ins c fs) ∧ ok c = true ∧ fs.length < 1000 ∧ N env (st2.set n (.ins c (putD f y fs)))) (fun x st1 => P (.exc x env st1))) (fun x st1 => P (.exc x env st1)) := by
  unfold sFldD; rw [wp_andS]
  congr 1; funext y st1; rw [wp_andS]
  congr 1; funext x st2
  cases x with
  | cell n =>
    cases h : st2[n]? with
    | none => simp [wp_sbad, h]
    | some c0 =>
      cases c0 with
      | ins c fs =>
        simp only [h]
        by_cases ho : (ok c && decide (fs.length < 1000)) = true
        · rw [if_pos ho, wp_next]
          rw [Bool.and_eq_true, decide_eq_true_eq] at ho
          refine propext ⟨fun q => ⟨n, c, fs, rfl, h, ho.1, ho.2, q⟩, fun ⟨n', c', fs', e, h', _, _, q⟩ => ?_⟩
          cases e; rw [h] at h'; cases h'; exact q
        · rw [if_neg ho, wp_sbad]
          rw [Bool.and_eq_true, decide_eq_true_eq] at ho
          refine propext ⟨False.elim, fun ⟨n', c', fs', e, h', h1, h2, q⟩ => ?_⟩
          cases e; rw [h] at h'; cases h'; exact ho ⟨h1, h2⟩
      | lst ds => simp [wp_sbad, h]
      | dct ds => simp [wp_sbad, h]
      | fz ds => simp [wp_sbad, h]
  | _ => simp [wp_sbad]
theorem wp_iEA {f : DenA} : (iEA f env st).wp QL E = (f env st).wp (fun ds st1 => ∃ d a, ds = [d] ∧ (d = .lst a ∨ d = .ro a ∨ d = .tup a) ∧ QL (enumD 0 a) st1) E := by
  unfold iEA; rw [wp_bind]
  congr 1; funext ds st1
  match ds with
  | [d] => cases d <;> simp [wp_ok, wp_bad]
  | [] => simp [wp_bad]
  | _ :: _ :: _ => simp [wp_bad]
theorem okC_ok {a : List D} : okC a st = .ok (.cell st.length) (st ++ [.lst a]) := id rfl
end
end Den

namespace Den
open PySem PySem.Spec PyProof.Rows L2
inductive PhP (_k : Prop) : Type where
  | mk
/-! ### stores -/
theorem KeepLo.refl {st : Store} : KeepLo st st := fun _ _ _ h => .inl h
theorem KeepLo.app {st cs : Store} : KeepLo st (st ++ cs) := fun n c h q => .inl (by rw [List.getElem?_append_left h] at q; exact q)
theorem KeepLo.appR {st st' cs : Store} (hl : st'.length = st.length) (k : KeepLo st st') : KeepLo st (st' ++ cs) := fun n c h q => k n c h (by rw [List.getElem?_append_left (by omega)] at q; exact q)
theorem KeepLo.set {st st' : Store} {p : Nat} {c : Cell} (k : KeepLo st st') (h : Cell.lo st.length c = true) : KeepLo st (st'.set p c) := fun n c' hn q => by
  by_cases e : p = n
  · subst e
    rcases Nat.lt_or_ge p st'.length with z | z
    · rw [List.getElem?_set_self z] at q; cases q; exact .inr h
    · rw [List.getElem?_eq_none (by simpa using z)] at q; cases q
  · rw [List.getElem?_set_ne e] at q; exact k n c' hn q
theorem KeepLo.of_set {C st' : Store} {p : Nat} {c c' : Cell} (k : KeepLo C st') (hp : st'[p]? = some c') (h : Cell.lo C.length c' = true) : KeepLo (C.set p c) st' := fun n x hn q => by
  rw [List.length_set] at hn ⊢
  by_cases e : p = n
  · subst e; rw [hp] at q; cases q; exact .inr h
  · rw [List.getElem?_set_ne e]; exact k n x hn q
section
variable {st st' cs : Store} {d : D} {Q : D → Store → Prop} {E : Xc → Store → Prop}
theorem wp_outD_app (h : d.lo st.length = true) : (outD true st d (st ++ cs)).wp Q E = Q d st := by
  unfold outD
  by_cases hc : (st ++ cs).length = st.length
  · have : cs = [] := by
      rw [List.length_append] at hc; exact List.length_eq_zero_iff.mp (by omega)
    subst this
    simp [Res.wp]
  · rw [if_neg (by simpa using hc), if_pos ⟨h, KeepLo.app⟩]
    simp [Res.wp]
theorem wp_outD_appR (hl : st'.length = st.length) (k : KeepLo st st') (h : d.lo st.length = true) : (outD true st d (st' ++ cs)).wp Q E = Q d st' := by
  unfold outD
  by_cases hc : (st' ++ cs).length = st.length
  · have : cs = [] := by
      rw [List.length_append] at hc; exact List.length_eq_zero_iff.mp (by omega)
    subst this
    rw [if_pos (by simp [hl])]; simp [Res.wp]
  · rw [if_neg (by simpa using hc), if_pos ⟨h, k.appR hl⟩]
    simp only [Res.wp, ← hl]; rw [List.take_left']; rfl
theorem wp_outD_nil (h : d.lo 0 = true) : (outD true [] d st).wp Q E = Q d [] := by
  have := wp_outD_app (st := []) (cs := st) (d := d) (Q := Q) (E := E) h
  simpa using this
theorem wp_outD_st : (outD true st d st).wp Q E = Q d st := wp_outD_same rfl
theorem get_app0 {c : Cell} {cs : Store} : (st ++ c :: cs)[st.length]? = some c := by rw [List.getElem?_append_right (Nat.le_refl _)]; simp
theorem get_app1 {c c1 : Cell} {cs : Store} : (st ++ c :: c1 :: cs)[st.length + 1]? = some c1 := by rw [List.getElem?_append_right (Nat.le_add_right _ _)]; simp
theorem get_app2 {c c1 c2 : Cell} {cs : Store} : (st ++ c :: c1 :: c2 :: cs)[st.length + 2]? = some c2 := by rw [List.getElem?_append_right (Nat.le_add_right _ _)]; simp
theorem get_app3 {c c1 c2 c3 : Cell} {cs : Store} : (st ++ c :: c1 :: c2 :: c3 :: cs)[st.length + 3]? = some c3 := by rw [List.getElem?_append_right (Nat.le_add_right _ _)]; simp
theorem set_app0 {c c' : Cell} {cs : Store} : (st ++ c :: cs).set st.length c' = st ++ c' :: cs := by rw [List.set_append_right _ _ (Nat.le_refl _)]; simp
theorem set_app1 {c c1 c' : Cell} {cs : Store} : (st ++ c :: c1 :: cs).set (st.length + 1) c' = st ++ c :: c' :: cs := by rw [List.set_append_right _ _ (Nat.le_add_right _ _)]; simp
theorem set_app2 {c c1 c2 c' : Cell} {cs : Store} : (st ++ c :: c1 :: c2 :: cs).set (st.length + 2) c' = st ++ c :: c1 :: c' :: cs := by rw [List.set_append_right _ _ (Nat.le_add_right _ _)]; simp
theorem set_app3 {c c1 c2 c3 c' : Cell} {cs : Store} : (st ++ c :: c1 :: c2 :: c3 :: cs).set (st.length + 3) c' = st ++ c :: c1 :: c2 :: c' :: cs := by rw [List.set_append_right _ _ (Nat.le_add_right _ _)]; simp
theorem app_app {c : Cell} {cs : Store} : (st ++ cs) ++ [c] = st ++ (cs ++ [c]) := List.append_assoc ..
end
/-! ### arithmetic, with bounds that omega knows -/
section
variable {i j : Int} {st : Store}
theorem bits_of {i : Int} (h : i.natAbs < 10 ^ 150 * 10 ^ 150) : (Builtin.Int.intBits i : Int) ≤ 1000000 := by
  have h2 : i.natAbs < 2 ^ 1000000 := Nat.lt_of_lt_of_le h (by
    have : 10 ^ 150 * 10 ^ 150 ≤ 2 ^ 1000 := by decide +kernel
    exact Nat.le_trans this (Nat.pow_le_pow_right (by decide) (by decide)))
  unfold Builtin.Int.intBits
  by_cases z : i.natAbs = 0
  · have : i = 0 := by omega
    subst this; decide
  · have := (Nat.log2_lt z).mpr h2
    split <;> omega
theorem mulOk_big {i j : Int} (h : i.natAbs < 10 ^ 150 * 10 ^ 150) (h' : j.natAbs < 10 ^ 150 * 10 ^ 150) : mulOk i j = true := by
  have a := bits_of h
  have b := bits_of h'
  unfold mulOk
  exact decide_eq_true (by omega)
theorem divOk_big {j : Int} (h : 0 < j) (h' : j.natAbs < 10 ^ 150 * 10 ^ 150) : divOk j = true := by
  unfold divOk
  rw [Bool.and_eq_true]
  refine ⟨decide_eq_true h, decide_eq_true ?_⟩
  have h2 : j.natAbs < 2 ^ 9000 := Nat.lt_of_lt_of_le h' (by
    have : 10 ^ 150 * 10 ^ 150 ≤ 2 ^ 1000 := by decide +kernel
    exact Nat.le_trans this (Nat.pow_le_pow_right (by decide) (by decide)))
  exact (Nat.log2_lt (by omega)).mpr h2
theorem mul_ib (h : i.natAbs < 10 ^ 150 * 10 ^ 150) (h' : j.natAbs < 10 ^ 150 * 10 ^ 150) : mulD (.int i) (.int j) st = .ok (.int (i * j)) st := mul_ii (mulOk_big h h')
theorem fdiv_ib (h : 0 < j) (h' : j.natAbs < 10 ^ 150 * 10 ^ 150) : fdivD (.int i) (.int j) st = .ok (.int (i / j)) st := fdiv_ii (divOk_big h h')
theorem divmod_ib (h : 0 < j) (h' : j.natAbs < 10 ^ 150 * 10 ^ 150) : divmodD [.int i, .int j] st = .ok (.tup [.int (i / j), .int (i % j)]) st := divmod_ii (divOk_big h h')
theorem pow_ib (h : 0 ≤ j) (h1 : j ≤ 1000) (h2 : i.natAbs < 2 ^ 64) : powD (.int i) (.int j) st = .ok (.int (i ^ j.toNat)) st := pow_ii ⟨h, by omega, h2⟩
end
/-! ### places -/
def ofO {α : Type} (o : Option α) (st : Store) : Res α := match o with
  | some d => .ok d st
  | none => .bad
section
variable {α : Type} {st : Store} {Q : α → Store → Prop} {E : Xc → Store → Prop} {d : α} {o : Option α}
theorem ofO_some : ofO (some d) st = .ok d st := id rfl
theorem wp_ofO : (ofO o st).wp Q E = ∃ d, o = some d ∧ Q d st := by
  cases o with
  | none => simp [ofO, Res.wp]
  | some d => simp [ofO, Res.wp]
end
section
variable {st : Store} {i : Int} {d : D} {Q : D → Store → Prop} {E : Xc → Store → Prop}
theorem ix_lstE {xs : List D} : ixD (.lst xs) (.int i) st = ofO (L2.atI xs i) st := by
  unfold ixD ofO
  simp only [asR, asL]
  cases L2.atI xs i <;> rfl
theorem ix_roE {xs : List D} : ixD (.ro xs) (.int i) st = ofO (L2.atI xs i) st := by
  unfold ixD ofO
  simp only [asR, asL]
  cases L2.atI xs i <;> rfl
theorem ix_tupE {xs : List D} : ixD (.tup xs) (.int i) st = ofO (L2.atI xs i) st := by
  unfold ixD ofO
  simp only
  cases L2.atI xs i <;> rfl
theorem wp_ixmem {xs : List D} (h0 : 0 ≤ i) (h1 : i < xs.length) (q : ∀ d ∈ xs, Q d st) : (ixD (.lst xs) (.int i) st).wp Q E := by
  obtain ⟨d, e, m⟩ := atI_nat h0 h1
  rw [ix_lst e]; exact q d m
end
section
variable {α β : Type} {x a b c e : α} {xs : List α} {i : Int}
theorem atI_0 : L2.atI (x :: xs) 0 = some x := atI_zero
theorem atI_pos {n : Nat} : L2.atI xs (n : Int) = xs[n]? := by
  unfold L2.atI L2.ixN
  rw [if_pos (Int.natCast_nonneg n)]
  by_cases h : n < xs.length
  · rw [if_pos (by omega)]; simp
  · rw [if_neg (by omega), List.getElem?_eq_none (by omega)]; rfl
theorem atI_1 : L2.atI (a :: b :: xs) 1 = some b := by
  have := atI_pos (xs := a :: b :: xs) (n := 1); simpa using this
theorem atI_2 : L2.atI (a :: b :: c :: xs) 2 = some c := by
  have := atI_pos (xs := a :: b :: c :: xs) (n := 2); simpa using this
theorem atI_3 : L2.atI (a :: b :: c :: e :: xs) 3 = some e := by
  have := atI_pos (xs := a :: b :: c :: e :: xs) (n := 3); simpa using this
theorem atI_4 {f : α} : L2.atI (a :: b :: c :: e :: f :: xs) 4 = some f := by
  have := atI_pos (xs := a :: b :: c :: e :: f :: xs) (n := 4); simpa using this
theorem atI_map (f : α → β) : L2.atI (xs.map f) i = (L2.atI xs i).map f := by
  unfold L2.atI
  simp only [List.length_map]
  cases L2.ixN xs.length i <;> simp
end

theorem tyChk_lst {xs : List D} {st : Store} : tyChk "list" st (.lst xs) = true := id rfl
section
variable {n : Nat} {ds : List D} {d : D} {fs : List (Str × D)}
theorem lo_non : D.lo n .non = true := id rfl
theorem lo_bl {b : Bool} : D.lo n (.bl b) = true := id rfl
theorem lo_int {b : Int} : D.lo n (.int b) = true := id rfl
theorem lo_str {b : Str} : D.lo n (.str b) = true := id rfl
theorem lo_lst : D.lo n (.lst ds) = loS n ds := id rfl
theorem lo_tup : D.lo n (.tup ds) = loS n ds := id rfl
theorem lo_ins {c : Nat} : D.lo n (.ins c fs) = loF n fs := id rfl
theorem loS_nil : loS n [] = true := id rfl
theorem loS_cons : loS n (d :: ds) = (D.lo n d && loS n ds) := id rfl
theorem loF_nil : loF n [] = true := id rfl
theorem loF_cons {k : Str} : loF n ((k, d) :: fs) = (D.lo n d && loF n fs) := id rfl
theorem loC_lst : Cell.lo n (.lst ds) = loS n ds := id rfl
theorem loC_ins {c : Nat} : Cell.lo n (.ins c fs) = loF n fs := id rfl
theorem loS_app {es : List D} : loS n (ds ++ es) = (loS n ds && loS n es) := by
  induction ds with
  | nil => simp [loS]
  | cons d ds ih => simp [loS, ih, Bool.and_assoc]
end
/-! ### small values -/
section
variable {st : Store} {env : Env} {i j : Int} {N : Env → Store → Prop} {P : SRes → Prop}
theorem insOf_ins {c : Nat} {fs : List (Str × D)} : insOf st (.ins c fs) = some (c, fs) := id rfl
theorem add_ll' {a b : List D} (h : a.length + b.length ≤ 1000) : addD (.lst a) (.lst b) st = .ok (.lst (a ++ b)) st := add_ll (le_size h)
theorem add_tt' {a b : List D} (h : a.length + b.length ≤ 1000) : addD (.tup a) (.tup b) st = .ok (.tup (a ++ b)) st := add_tt (le_size h)
theorem add_ss' {a b : Str} (h : a.length + b.length ≤ 1000) : addD (.str a) (.str b) st = .ok (.str (a ++ b)) st := add_ss (le_size h)
theorem mkL_ok' {xs : List D} (h : xs.length ≤ 1000) : mkL xs st = .ok (.lst xs) st := mkL_ok (le_size h)
theorem mkT_ok' {xs : List D} (h : xs.length ≤ 1000) : mkT xs st = .ok (.tup xs) st := mkT_ok (le_size h)
theorem mkC_ok' {xs : List D} (h : xs.length ≤ 1000) : mkC xs st = .ok (.cell st.length) (st ++ [.lst xs]) := mkC_ok (le_size h)
theorem len_str' {x : Str} (h : x.length ≤ 1000) : lenD [.str x] st = .ok (.int x.length) st := Den.len_str (le_size h)
theorem ne_ss {x y : Str} : neD (.str x) (.str y) st = .ok (.bl (!(x == y))) st := id rfl
theorem imul_ib (h : i.natAbs < 10 ^ 150 * 10 ^ 150) (h' : j.natAbs < 10 ^ 150 * 10 ^ 150) : imulD (.int i) (.int j) st = .ok (.int (i * j)) st := by simp only [imulD, mulOk_big h h', if_true]
theorem iadd_ii : iaddD (.int i) (.int j) st = .ok (.int (i + j)) st := id rfl
theorem wp_sAug {k : Nat} {f : DenE} {g : D → D → Store → Res D} : (sAug k f g env st).wp N P = (eVar k env st).wp (fun d st0 => (f env st0).wp (fun e st1 => (g d e st1).wp (fun z st2 => N (env.set k (some z)) st2) (fun x st1 => P (.exc x env st1))) (fun x st1 => P (.exc x env st1))) (fun x st1 => P (.exc x env st1)) := by
  unfold sAug; rw [wp_andS]; exact Res.wp_ext fun d st1 => by rw [wp_andS]; exact Res.wp_ext fun d st1 => by rw [wp_andS]; rfl
theorem isN_non : isND .non .non st = .ok (.bl true) st := id rfl
theorem isN_int : isND (.int i) .non st = .ok (.bl false) st := id rfl
theorem isN_str {x : Str} : isND (.str x) .non st = .ok (.bl false) st := id rfl
theorem isN_tup {x : List D} : isND (.tup x) .non st = .ok (.bl false) st := id rfl
theorem isN_lst {x : List D} : isND (.lst x) .non st = .ok (.bl false) st := id rfl
theorem notN_non : notND .non .non st = .ok (.bl false) st := id rfl
theorem notN_int : notND (.int i) .non st = .ok (.bl true) st := id rfl
theorem notN_str {x : Str} : notND (.str x) .non st = .ok (.bl true) st := id rfl
theorem notN_tup {x : List D} : notND (.tup x) .non st = .ok (.bl true) st := id rfl
theorem notN_lst {x : List D} : notND (.lst x) .non st = .ok (.bl true) st := id rfl
theorem isi_str_non : isi2 (isTy "str") (isaB "str") [.non, .ty "str"] st = .ok (.bl false) st := id rfl
theorem isi_str_bl {b : Bool} : isi2 (isTy "str") (isaB "str") [.bl b, .ty "str"] st = .ok (.bl false) st := id rfl
theorem isi_str_int : isi2 (isTy "str") (isaB "str") [.int i, .ty "str"] st = .ok (.bl false) st := id rfl
theorem isi_str_str {x : Str} : isi2 (isTy "str") (isaB "str") [.str x, .ty "str"] st = .ok (.bl true) st := id rfl
theorem isi_str_lst {a : List D} : isi2 (isTy "str") (isaB "str") [.lst a, .ty "str"] st = .ok (.bl false) st := id rfl
theorem isi_str_tup {a : List D} : isi2 (isTy "str") (isaB "str") [.tup a, .ty "str"] st = .ok (.bl false) st := id rfl
theorem isi_str_dct {a : List (Key × D)} : isi2 (isTy "str") (isaB "str") [.dct a, .ty "str"] st = .ok (.bl false) st := id rfl
theorem isi_int_non : isi2 (isTy "int") (isaB "int") [.non, .ty "int"] st = .ok (.bl false) st := id rfl
theorem isi_int_bl {b : Bool} : isi2 (isTy "int") (isaB "int") [.bl b, .ty "int"] st = .ok (.bl true) st := id rfl
theorem isi_int_int : isi2 (isTy "int") (isaB "int") [.int i, .ty "int"] st = .ok (.bl true) st := id rfl
theorem isi_int_str {x : Str} : isi2 (isTy "int") (isaB "int") [.str x, .ty "int"] st = .ok (.bl false) st := id rfl
theorem isi_int_lst {a : List D} : isi2 (isTy "int") (isaB "int") [.lst a, .ty "int"] st = .ok (.bl false) st := id rfl
theorem isi_int_tup {a : List D} : isi2 (isTy "int") (isaB "int") [.tup a, .ty "int"] st = .ok (.bl false) st := id rfl
theorem isi_int_dct {a : List (Key × D)} : isi2 (isTy "int") (isaB "int") [.dct a, .ty "int"] st = .ok (.bl false) st := id rfl
theorem isi_bool_non : isi2 (isTy "bool") (isaB "bool") [.non, .ty "bool"] st = .ok (.bl false) st := id rfl
theorem isi_bool_bl {b : Bool} : isi2 (isTy "bool") (isaB "bool") [.bl b, .ty "bool"] st = .ok (.bl true) st := id rfl
theorem isi_bool_int : isi2 (isTy "bool") (isaB "bool") [.int i, .ty "bool"] st = .ok (.bl false) st := id rfl
theorem isi_bool_str {x : Str} : isi2 (isTy "bool") (isaB "bool") [.str x, .ty "bool"] st = .ok (.bl false) st := id rfl
theorem isi_bool_lst {a : List D} : isi2 (isTy "bool") (isaB "bool") [.lst a, .ty "bool"] st = .ok (.bl false) st := id rfl
theorem isi_bool_tup {a : List D} : isi2 (isTy "bool") (isaB "bool") [.tup a, .ty "bool"] st = .ok (.bl false) st := id rfl
theorem isi_bool_dct {a : List (Key × D)} : isi2 (isTy "bool") (isaB "bool") [.dct a, .ty "bool"] st = .ok (.bl false) st := id rfl
theorem isi_list_non : isi2 (isTy "list") (isaB "list") [.non, .ty "list"] st = .ok (.bl false) st := id rfl
theorem isi_list_bl {b : Bool} : isi2 (isTy "list") (isaB "list") [.bl b, .ty "list"] st = .ok (.bl false) st := id rfl
theorem isi_list_int : isi2 (isTy "list") (isaB "list") [.int i, .ty "list"] st = .ok (.bl false) st := id rfl
theorem isi_list_str {x : Str} : isi2 (isTy "list") (isaB "list") [.str x, .ty "list"] st = .ok (.bl false) st := id rfl
theorem isi_list_lst {a : List D} : isi2 (isTy "list") (isaB "list") [.lst a, .ty "list"] st = .ok (.bl true) st := id rfl
theorem isi_list_tup {a : List D} : isi2 (isTy "list") (isaB "list") [.tup a, .ty "list"] st = .ok (.bl false) st := id rfl
theorem isi_list_dct {a : List (Key × D)} : isi2 (isTy "list") (isaB "list") [.dct a, .ty "list"] st = .ok (.bl false) st := id rfl
theorem isi_tuple_non : isi2 (isTy "tuple") (isaB "tuple") [.non, .ty "tuple"] st = .ok (.bl false) st := id rfl
theorem isi_tuple_bl {b : Bool} : isi2 (isTy "tuple") (isaB "tuple") [.bl b, .ty "tuple"] st = .ok (.bl false) st := id rfl
theorem isi_tuple_int : isi2 (isTy "tuple") (isaB "tuple") [.int i, .ty "tuple"] st = .ok (.bl false) st := id rfl
theorem isi_tuple_str {x : Str} : isi2 (isTy "tuple") (isaB "tuple") [.str x, .ty "tuple"] st = .ok (.bl false) st := id rfl
theorem isi_tuple_lst {a : List D} : isi2 (isTy "tuple") (isaB "tuple") [.lst a, .ty "tuple"] st = .ok (.bl false) st := id rfl
theorem isi_tuple_tup {a : List D} : isi2 (isTy "tuple") (isaB "tuple") [.tup a, .ty "tuple"] st = .ok (.bl true) st := id rfl
theorem isi_tuple_dct {a : List (Key × D)} : isi2 (isTy "tuple") (isaB "tuple") [.dct a, .ty "tuple"] st = .ok (.bl false) st := id rfl
theorem isi_dict_non : isi2 (isTy "dict") (isaB "dict") [.non, .ty "dict"] st = .ok (.bl false) st := id rfl
theorem isi_dict_bl {b : Bool} : isi2 (isTy "dict") (isaB "dict") [.bl b, .ty "dict"] st = .ok (.bl false) st := id rfl
theorem isi_dict_int : isi2 (isTy "dict") (isaB "dict") [.int i, .ty "dict"] st = .ok (.bl false) st := id rfl
theorem isi_dict_str {x : Str} : isi2 (isTy "dict") (isaB "dict") [.str x, .ty "dict"] st = .ok (.bl false) st := id rfl
theorem isi_dict_lst {a : List D} : isi2 (isTy "dict") (isaB "dict") [.lst a, .ty "dict"] st = .ok (.bl false) st := id rfl
theorem isi_dict_tup {a : List D} : isi2 (isTy "dict") (isaB "dict") [.tup a, .ty "dict"] st = .ok (.bl false) st := id rfl
theorem isi_dict_dct {a : List (Key × D)} : isi2 (isTy "dict") (isaB "dict") [.dct a, .ty "dict"] st = .ok (.bl true) st := id rfl
end
/-! ### objects -/
def insK (o : Option (Nat × List (Str × D))) (k : Nat → List (Str × D) → Prop) (_u : Ph k := ()) : Prop := match o with
  | some (c, fs) => k c fs
  | none => False
def optK {α : Type} (o : Option α) (k : α → Prop) (_u : Ph k := ()) : Prop := match o with
  | some x => k x
  | none => False
def cinK (st : Store) (d : D) (k : Nat → Nat → List (Str × D) → Prop) (_u : Ph k := ()) : Prop := match d with
  | .cell n => match st[n]? with
    | some (.ins c fs) => k n c fs
    | _ => False
  | _ => False
section
variable {st : Store} {env : Env} {Q : D → Store → Prop} {E : Xc → Store → Prop} {N : Env → Store → Prop} {P : SRes → Prop}
theorem insK_some {c : Nat} {fs : List (Str × D)} {k : Nat → List (Str × D) → Prop} : insK (some (c, fs)) k = k c fs := id rfl
theorem optK_some {α : Type} {x : α} {k : α → Prop} : optK (some x) k = k x := id rfl
theorem cinK_ok {n c : Nat} {fs : List (Str × D)} {k : Nat → Nat → List (Str × D) → Prop} (h : st[n]? = some (.ins c fs)) : cinK st (.cell n) k = k n c fs := by unfold cinK; simp only [h]
theorem cinK_app {c : Nat} {fs : List (Str × D)} {cs : Store} {k : Nat → Nat → List (Str × D) → Prop} : cinK (st ++ .ins c fs :: cs) (.cell st.length) k = k st.length c fs := cinK_ok get_app0
theorem wp_eFldK {f : Str} {ok : Nat → Bool} {fo : DenE} : (eFld f ok fo env st).wp Q E = (fo env st).wp (fun d st1 => insK (insOf st1 d) fun c fs => ok c = true ∧ optK (fs.lookup f) fun x => Q x st1) E := by
  rw [wp_eFld]
  congr 1
  funext d st1
  refine propext ⟨?_, ?_⟩
  · rintro ⟨c, fs, x, h1, h2, h3, h4⟩; rw [h1]; exact ⟨h2, by rw [h3]; exact h4⟩
  · intro h
    cases e : insOf st1 d with
    | none => rw [e] at h; exact h.elim
    | some p =>
      obtain ⟨c, fs⟩ := p
      rw [e] at h
      obtain ⟨h1, h2⟩ := h
      cases e2 : fs.lookup f with
      | none => rw [e2] at h2; exact h2.elim
      | some x => rw [e2] at h2; exact ⟨c, fs, x, rfl, h1, e2, h2⟩
theorem wp_eMethK {m : Str} {disp : Nat → Option (List D → List D → Store → Res D)} {fo : DenE} {fa fk : DenA} : (eMeth m disp fo fa fk env st).wp Q E = (fo env st).wp (fun d st1 => insK (insOf st1 d) fun c fs => optK (disp c) fun h => fs.lookup m = none ∧ (fa env st1).wp (fun ds st2 => (fk env st2).wp (fun es st3 => (h (d :: ds) es st3).wp Q E) E) E) E := by
  rw [wp_eMeth]
  congr 1
  funext d st1
  refine propext ⟨?_, ?_⟩
  · rintro ⟨c, fs, x, h1, h2, h3, h4⟩
    rw [h1]
    show optK (disp c) _
    rw [h2]; exact ⟨h3, h4⟩
  · intro h
    cases e : insOf st1 d with
    | none => rw [e] at h; exact h.elim
    | some p =>
      obtain ⟨c, fs⟩ := p
      rw [e] at h
      replace h : optK (disp c) _ := h
      cases e2 : disp c with
      | none => rw [e2] at h; exact h.elim
      | some x => rw [e2] at h; exact ⟨c, fs, x, rfl, e2, h.1, h.2⟩
theorem wp_sFldK {f : Str} {ok : Nat → Bool} {fo fv : DenE} : (sFldD f ok fo fv env st).wp N P = (fv env st).wp (fun y st1 => (fo env st1).wp (fun x st2 => cinK st2 x fun n c fs => ok c = true ∧ fs.length < 1000 ∧ N env (st2.set n (.ins c (putD f y fs)))) (fun x st1 => P (.exc x env st1))) (fun x st1 => P (.exc x env st1)) := by
  rw [wp_sFldD]
  congr 1
  funext y st1
  congr 1
  funext x st2
  refine propext ⟨?_, ?_⟩
  · rintro ⟨n, c, fs, rfl, h1, h2⟩; rw [cinK_ok h1]; exact h2
  · intro h
    unfold cinK at h
    split at h
    · split at h
      · rename_i n c fs e; exact ⟨_, c, fs, rfl, e, h⟩
      · exact h.elim
    · exact h.elim
theorem look_eq {α : Type} {a : Str} {b : α} {es : List (Str × α)} : List.lookup a ((a, b) :: es) = some b := by simp [List.lookup]
theorem look_ne {α : Type} {a k : Str} {b : α} {es : List (Str × α)} (h : (a == k) = false) : List.lookup a ((k, b) :: es) = List.lookup a es := by simp [List.lookup, h]
theorem look_nil {α : Type} {a : Str} : List.lookup a ([] : List (Str × α)) = none := id rfl
theorem put_nil {f : Str} {v : D} : putD f v [] = [(f, v)] := id rfl
theorem put_eq {f : Str} {v x : D} {r : List (Str × D)} : putD f v ((f, x) :: r) = (f, v) :: r := if_pos rfl
theorem put_ne {f g : Str} {v x : D} {r : List (Str × D)} (h : (g == f) = false) : putD f v ((g, x) :: r) = (g, x) :: putD f v r := if_neg (by simpa using h)
theorem lenDO_ins {disp : Nat → Option Fn} {c : Nat} {fs : List (Str × D)} {g : Fn} {n : Int} {d : D} {st' : Store} (hi : insOf st d = some (c, fs)) (hd : disp c = some g) (h : g [d] st = .ok (.int n) st') (h0 : 0 ≤ n) (h1 : n < 2 ^ 63) : lenDO disp [d] st = .ok (.int n) st' := by
  simp only [lenDO, hi, hd, h, h0, h1, and_self, if_true]
end
/-! ### values by their form -/
def blK (d : D) (k : Bool → Prop) (_u : Ph k := ()) : Prop := match d with
  | .bl b => k b
  | _ => False
def intK (d : D) (k : Int → Prop) (_u : Ph k := ()) : Prop := match d with
  | .int b => k b
  | _ => False
def strK (d : D) (k : Str → Prop) (_u : Ph k := ()) : Prop := match d with
  | .str b => k b
  | _ => False
def lstK (d : D) (k : List D → Prop) (_u : Ph k := ()) : Prop := match d with
  | .lst b => k b
  | .ro b => k b
  | _ => False
def tupK (d : D) (k : List D → Prop) (_u : Ph k := ()) : Prop := match d with
  | .tup b => k b
  | _ => False
def sqK (d : D) (k : List D → Prop) (_u : Ph k := ()) : Prop := match d with
  | .lst b => k b
  | .ro b => k b
  | .tup b => k b
  | _ => False
def oneK (ds : List D) (k : D → Prop) (_u : Ph k := ()) : Prop := match ds with
  | [d] => k d
  | _ => False
def twoK (ds : List D) (k : D → D → Prop) (_u : Ph k := ()) : Prop := match ds with
  | [d, e] => k d e
  | _ => False
/-- a range's end that is small -/
def rngK (j : Int) (k : Prop) (_u : PhP k := .mk) : Prop := -(2 ^ 62) ≤ j ∧ j < 2 ^ 62 ∧ k
def andK (b : Bool) (k : Prop) (_u : PhP k := .mk) : Prop := b = true ∧ k
section
variable {st : Store} {env : Env} {Q : D → Store → Prop} {QB : Bool → Store → Prop} {QL : List D → Store → Prop} {QO : Option Int → Store → Prop} {E : Xc → Store → Prop} {N : Env → Store → Prop} {P : SRes → Prop} {d : D}
theorem blK_ok {b : Bool} {k : Bool → Prop} : blK (.bl b) k = k b := id rfl
theorem intK_ok {b : Int} {k : Int → Prop} : intK (.int b) k = k b := id rfl
theorem strK_ok {b : Str} {k : Str → Prop} : strK (.str b) k = k b := id rfl
theorem lstK_lst {b : List D} {k : List D → Prop} : lstK (.lst b) k = k b := id rfl
theorem lstK_ro {b : List D} {k : List D → Prop} : lstK (.ro b) k = k b := id rfl
theorem tupK_ok {b : List D} {k : List D → Prop} : tupK (.tup b) k = k b := id rfl
theorem sqK_lst {b : List D} {k : List D → Prop} : sqK (.lst b) k = k b := id rfl
theorem sqK_ro {b : List D} {k : List D → Prop} : sqK (.ro b) k = k b := id rfl
theorem sqK_tup {b : List D} {k : List D → Prop} : sqK (.tup b) k = k b := id rfl
theorem oneK_ok {k : D → Prop} : oneK [d] k = k d := id rfl
theorem twoK_ok {e : D} {k : D → D → Prop} : twoK [d, e] k = k d e := id rfl
theorem rngK_ok {j : Int} {k : Prop} (h1 : -(2 ^ 62) ≤ j) (h2 : j < 2 ^ 62) : rngK j k = k := by simp only [rngK, h1, h2, true_and]
theorem andK_true {k : Prop} : andK true k = k := by simp [andK]
theorem blK_ex {k : Bool → Prop} : (∃ b, d = .bl b ∧ k b) = blK d k := by
  cases d <;> simp [blK]
theorem intK_ex {k : Int → Prop} : (∃ b, d = .int b ∧ k b) = intK d k := by
  cases d <;> simp [intK]
theorem strK_ex {k : Str → Prop} : (∃ b, d = .str b ∧ k b) = strK d k := by
  cases d <;> simp [strK]
theorem tupK_ex {k : List D → Prop} : (∃ b, d = .tup b ∧ k b) = tupK d k := by
  cases d <;> simp [tupK]
theorem lstK_ex {k : List D → Prop} : (∃ b, (d = .lst b ∨ d = .ro b) ∧ k b) = lstK d k := by
  cases d <;> simp [lstK]
theorem wk_tOf {f : DenE} : (tOf f env st).wp QB E = (f env st).wp (fun d st1 => blK d fun b => QB b st1) E := by rw [wp_tOf]; exact Res.wp_ext fun d st1 => blK_ex
theorem wk_eAnd {f g : DenE} : (eAnd f g env st).wp Q E = (f env st).wp (fun d st1 => blK d fun b => if b then (g env st1).wp Q E else Q (.bl false) st1) E := by rw [wp_eAnd]; exact Res.wp_ext fun d st1 => blK_ex
theorem wk_eOr {f g : DenE} : (eOr f g env st).wp Q E = (f env st).wp (fun d st1 => blK d fun b => if b then Q (.bl true) st1 else (g env st1).wp Q E) E := by rw [wp_eOr]; exact Res.wp_ext fun d st1 => blK_ex
theorem wk_eNot {f : DenE} : (eNot f env st).wp Q E = (f env st).wp (fun d st1 => blK d fun b => Q (.bl (!b)) st1) E := by rw [wp_eNot]; exact Res.wp_ext fun d st1 => blK_ex
theorem wk_eChain {g g' : D → D → Store → Res D} {fa fb fc : DenE} : (eChain g g' fa fb fc env st).wp Q E = (fa env st).wp (fun d st1 => (fb env st1).wp (fun e st2 => (g d e st2).wp (fun z st3 => blK z fun b => if b then (fc env st3).wp (fun c st4 => (g' e c st4).wp Q E) E else Q (.bl false) st3) E) E) E := by rw [wp_eChain]; exact Res.wp_ext fun d st1 => Res.wp_ext fun d st1 => Res.wp_ext fun d st1 => blK_ex
theorem wk_eM {T : String} {g : D → List D → Store → Res D} {fo : DenE} {fa : DenA} : (eM T g fo fa env st).wp Q E = (fo env st).wp (fun d st1 => andK (tyChk T st1 d) ((fa env st1).wp (fun ds st2 => (g d ds st2).wp Q E) E)) E := by rw [wp_eM]; rfl
theorem wk_oSome {f : DenE} : (oSome f env st).wp QO E = (f env st).wp (fun d st1 => intK d fun i => QO (some i) st1) E := by rw [wp_oSome]; exact Res.wp_ext fun d st1 => intK_ex
theorem wk_iL {f : DenE} : (iL f env st).wp QL E = (f env st).wp (fun d st1 => lstK d fun ds => QL ds st1) E := by rw [wp_iL]; exact Res.wp_ext fun d st1 => lstK_ex
theorem wk_iT {f : DenE} : (iT f env st).wp QL E = (f env st).wp (fun d st1 => tupK d fun ds => QL ds st1) E := by rw [wp_iT]; exact Res.wp_ext fun d st1 => tupK_ex
theorem wk_iS {f : DenE} : (iS f env st).wp QL E = (f env st).wp (fun d st1 => strK d fun z => QL (signs z) st1) E := by rw [wp_iS]; exact Res.wp_ext fun d st1 => strK_ex
theorem wk_iR1 {f : DenA} : (iR1 f env st).wp QL E = (f env st).wp (fun ds st1 => oneK ds fun d => intK d fun j => rngK j (QL (rngD 0 j.toNat) st1)) E := by
  unfold iR1
  rw [wp_bind]; congr 1; funext ds st1
  rcases ds with _ | ⟨d, _ | ⟨e, r⟩⟩
  · rfl
  · cases d with
    | int j =>
      simp only [oneK, intK, rngK, wp_ite, wp_ok, wp_bad]
      refine propext ⟨fun h => ?_, fun h => ?_⟩
      · split at h
        · rename_i hc; exact ⟨hc.1, hc.2, h⟩
        · exact h.elim
      · rw [if_pos ⟨h.1, h.2.1⟩]; exact h.2.2
    | _ => rfl
  · cases d <;> rfl
theorem wk_iR2 {f : DenA} : (iR2 f env st).wp QL E = (f env st).wp (fun ds st1 => twoK ds fun d e => intK d fun i => intK e fun j => rngK i (rngK j (QL (rngD i (j - i).toNat) st1))) E := by
  unfold iR2
  rw [wp_bind]; congr 1; funext ds st1
  rcases ds with _ | ⟨d, _ | ⟨e, _ | ⟨e', r⟩⟩⟩
  · rfl
  · cases d <;> rfl
  · cases d with
    | int i =>
      cases e with
      | int j =>
        simp only [twoK, intK, rngK, wp_ite, wp_ok, wp_bad]
        refine propext ⟨fun h => ?_, fun h => ?_⟩
        · split at h
          · rename_i hc; exact ⟨hc.1, hc.2.1, hc.2.2.1, hc.2.2.2, h⟩
          · exact h.elim
        · obtain ⟨h1, h2, h3, h4, h5⟩ := h
          rw [if_pos ⟨h1, h2, h3, h4⟩]; exact h5
      | _ => rfl
    | _ => rfl
  · cases d with
    | int i => cases e <;> rfl
    | _ => rfl
theorem wk_iEA {f : DenA} : (iEA f env st).wp QL E = (f env st).wp (fun ds st1 => oneK ds fun d => sqK d fun a => QL (enumD 0 a) st1) E := by
  rw [wp_iEA]; congr 1; funext ds st1
  refine propext ⟨?_, fun h => ?_⟩
  · rintro ⟨d, a, rfl, h | h | h, q⟩ <;> subst h <;> exact q
  · rcases ds with _ | ⟨d, _ | ⟨e, r⟩⟩
    · exact h.elim
    · cases d with
      | lst a => exact ⟨_, a, rfl, .inl rfl, h⟩
      | ro a => exact ⟨_, a, rfl, .inr (.inl rfl), h⟩
      | tup a => exact ⟨_, a, rfl, .inr (.inr rfl), h⟩
      | _ => exact h.elim
    · exact h.elim
theorem wk_gsub {fo fi : DenE} : gwp (gSubD fo fi d env st) N = (fo env st).wp (fun o st1 => (fi env st1).wp (fun i st2 => optK (setD o i d st2) fun s => N env s) NX) NX := by
  rw [gwp_sub]; congr 1; funext o st1; congr 1; funext i st2
  cases setD o i d st2 <;> simp [optK]
end
/-! ### lists that are cells -/
def lcK (o : Option Cell) (k : List D → Prop) (_u : Ph k := ()) : Prop := match o with
  | some (.lst ds) => k ds
  | _ => False
/-- .. frozen or not -/
def lfK (o : Option Cell) (k : List D → Prop) (_u : Ph k := ()) : Prop := match o with
  | some (.lst ds) => k ds
  | some (.fz (.lst ds)) => k ds
  | _ => False
def szK (n : Nat) (k : Prop) (_u : PhP k := .mk) : Prop := n < sizeLine ∧ k
section
variable {st cs : Store} {env : Env} {Q : D → Store → Prop} {E : Xc → Store → Prop} {n : Nat} {c c1 c2 c3 c' : Cell} {d : D} {i : Int}
theorem lcK_ok {ds : List D} {k : List D → Prop} : lcK (some (.lst ds)) k = k ds := id rfl
theorem lfK_ok {ds : List D} {k : List D → Prop} : lfK (some (.lst ds)) k = k ds := id rfl
theorem lfK_fz {ds : List D} {k : List D → Prop} : lfK (some (.fz (.lst ds))) k = k ds := id rfl
theorem szK_ok {n : Nat} {k : Prop} (h : n < 1000) : szK n k = k := by
  have : n < sizeLine := Nat.lt_of_lt_of_le h (le_size (Nat.le_refl _))
  simp only [szK, this, true_and]
theorem wk_append {e : D} : (appendD (.cell n) [e] st).wp Q E = lcK st[n]? fun xs => szK xs.length (Q .non (st.set n (.lst (xs ++ [e])))) := by
  cases hs : st[n]? with
  | none => simp only [appendD, lstCell, hs, lcK, wp_bad]
  | some c =>
    cases c with
    | lst xs =>
      simp only [appendD, lstCell, hs, lcK, szK, wp_ite, wp_ok, wp_bad]
      by_cases h : xs.length < sizeLine <;> simp [h]
    | _ => simp only [appendD, lstCell, hs, lcK, wp_bad]
theorem wk_reverse : (reverseD (.cell n) [] st).wp Q E = lcK st[n]? fun xs => Q .non (st.set n (.lst xs.reverse)) := by
  cases hs : st[n]? with
  | none => simp only [reverseD, lstCell, hs, lcK, wp_bad]
  | some c => cases c <;> simp only [reverseD, lstCell, hs, lcK, wp_bad, wp_ok]
theorem wk_clear : (clearD (.cell n) [] st).wp Q E = lcK st[n]? fun _ => Q .non (st.set n (.lst [])) := by
  cases hs : st[n]? with
  | none => simp only [clearD, lstCell, hs, lcK, wp_bad]
  | some c => cases c <;> simp only [clearD, lstCell, hs, lcK, wp_bad, wp_ok]
theorem wk_ixc : (ixD (.cell n) (.int i) st).wp Q E = lfK st[n]? fun xs => optK (L2.atI xs i) fun x => Q x st := by
  cases hs : st[n]? with
  | none => simp only [ixD, asR, asL, hs, lfK, Option.bind_none, wp_bad]
  | some c =>
    cases c with
    | lst xs => simp only [ixD, asR, asL, hs, lfK, Option.bind_some, asC]; cases L2.atI xs i <;> rfl
    | fz d =>
      cases d with
      | lst xs => simp only [ixD, asR, asL, hs, lfK, Option.bind_some, asC]; cases L2.atI xs i <;> rfl
      | _ => simp only [ixD, asR, asL, hs, lfK, Option.bind_some, asC, wp_bad]
    | _ => simp only [ixD, asR, asL, hs, lfK, Option.bind_some, asC, wp_bad]
def frK (o : Option Cell) (k k' : List D → Prop) (_u : Ph k := ()) (_v : Ph k' := ()) : Prop := match o with
  | some (.lst ds) => k ds
  | some (.fz (.lst ds)) => k' ds
  | _ => False
theorem frK_ok {ds : List D} {k k' : List D → Prop} : frK (some (.lst ds)) k k' = k ds := id rfl
theorem frK_fz {ds : List D} {k k' : List D → Prop} : frK (some (.fz (.lst ds))) k k' = k' ds := id rfl
theorem wk_frz : (frzC (.cell n) st).wp Q E = frK st[n]? (fun ds => Q (.lst ds) (st.set n (.fz (.lst ds)))) (fun ds => Q (.lst ds) st) := by
  cases hs : st[n]? with
  | none => simp only [frzC, hs, frK, wp_bad]
  | some c =>
    cases c with
    | fz d => cases d <;> simp only [frzC, hs, frK, wp_bad, wp_ok]
    | _ => simp only [frzC, hs, frK, wp_bad, wp_ok]
theorem wk_frzL {ds : List D} : (frzC (.lst ds) st).wp Q E = Q (.lst ds) st := id rfl
theorem wk_lenc : (lenD [.cell n] st).wp Q E = lfK st[n]? fun xs => Q (.int xs.length) st := by
  cases hs : st[n]? with
  | none => simp only [lenD, asR, asL, hs, lfK, Option.bind_none, wp_bad]
  | some c =>
    cases c with
    | fz d => cases d <;> simp only [lenD, asR, asL, hs, lfK, Option.bind_some, asC, wp_bad, wp_ok]
    | _ => simp only [lenD, asR, asL, hs, lfK, Option.bind_some, asC, wp_bad, wp_ok]
theorem wk_setc {v : D} {k : Store → Prop} : optK (setD (.cell n) (.int i) v st) k = lcK st[n]? fun xs => optK (ixN xs.length i) fun j => k (st.set n (.lst (xs.set j v))) := by
  cases hs : st[n]? with
  | none => simp only [setD, lstCell, hs, lcK, optK]
  | some c =>
    cases c with
    | lst xs => simp only [setD, lstCell, hs, lcK]; cases ixN xs.length i <;> rfl
    | _ => simp only [setD, lstCell, hs, lcK, optK]
theorem wk_tyc {k : Prop} : andK (tyChk "list" st (.cell n)) k = lfK st[n]? fun _ => k := by
  cases hs : st[n]? with
  | none => simp [tyChk, asR, asL, hs, andK, lfK]
  | some c =>
    cases c with
    | fz d => cases d <;> simp [tyChk, asR, asL, hs, andK, lfK, asC]
    | _ => simp [tyChk, asR, asL, hs, andK, lfK, asC]
theorem ixN_ok {m j : Nat} (h : j < m) : ixN m (j : Int) = some j := by
  unfold ixN; rw [if_pos (by omega), if_pos (by omega)]; simp
theorem get_at0 (h : n = st.length) : (st ++ c :: cs)[n]? = some c := by subst h; exact get_app0
theorem get_at1 (h : n = st.length + 1) : (st ++ c :: c1 :: cs)[n]? = some c1 := by subst h; exact get_app1
theorem get_at2 (h : n = st.length + 2) : (st ++ c :: c1 :: c2 :: cs)[n]? = some c2 := by subst h; exact get_app2
theorem get_at3 (h : n = st.length + 3) : (st ++ c :: c1 :: c2 :: c3 :: cs)[n]? = some c3 := by subst h; exact get_app3
theorem set_at0 (h : n = st.length) : (st ++ c :: cs).set n c' = st ++ c' :: cs := by subst h; exact set_app0
theorem set_at1 (h : n = st.length + 1) : (st ++ c :: c1 :: cs).set n c' = st ++ c :: c' :: cs := by subst h; exact set_app1
theorem set_at2 (h : n = st.length + 2) : (st ++ c :: c1 :: c2 :: cs).set n c' = st ++ c :: c1 :: c' :: cs := by subst h; exact set_app2
theorem set_at3 (h : n = st.length + 3) : (st ++ c :: c1 :: c2 :: c3 :: cs).set n c' = st ++ c :: c1 :: c2 :: c' :: cs := by subst h; exact set_app3
end
/-! ### comprehensions and loops over lists that are told by a map -/
def itemF (g : DenG) (t : DenT) (e : DenE) (env : Env) (d : D) (st : Store) : Res (Option D) := match g d env st with
  | none => .bad
  | some (env1, st1) => (t env1 st1).noX.bind fun b st2 => if b then (e env1 st2).noX.bind fun x st3 => .ok (some x) st3 else .ok none st2
section
variable {α : Type} {g : DenG} {t : DenT} {e : DenE} {env : Env} {st : Store} {QL : List D → Store → Prop} {E : Xc → Store → Prop} {ι : α → D} {xs : List α}
theorem wp_noX {α : Type} {r : Res α} {Q : α → Store → Prop} {E : Xc → Store → Prop} : r.noX.wp Q E = r.wp Q NX := by cases r <;> rfl
theorem wp_itemF {d : D} {Q : Option D → Store → Prop} : (itemF g t e env d st).wp Q E = gwp (g d env st) fun env1 st1 => (t env1 st1).wp (fun b st2 => if b then (e env1 st2).wp (fun x st3 => Q (some x) st3) NX else Q none st2) NX := by
  unfold itemF gwp
  cases g d env st with
  | none => rfl
  | some p =>
    obtain ⟨e1, s1⟩ := p
    simp only [wp_bind, wp_noX]
    congr 1
    funext b st2
    cases b
    · simp [Res.wp]
    · simp only [if_true, wp_bind, wp_noX]; exact Res.wp_ext fun d st1 => rfl
theorem compL_item : ∀ (items acc : List D) (st : Store), compL g t e env items acc st = match items with
    | [] => .ok acc st
    | d :: ds => (itemF g t e env d st).bind fun o st1 => match o with
      | none => compL g t e env ds acc st1
      | some x => if acc.length < sizeLine then compL g t e env ds (acc ++ [x]) st1 else .bad
  | [], acc, st => rfl
  | d :: ds, acc, st => by
    simp only [compL, itemF]
    cases g d env st with
    | none => rfl
    | some p =>
      obtain ⟨e1, s1⟩ := p
      simp only
      cases h : (t e1 s1).noX with
      | bad => rfl
      | exc x s => rfl
      | ok b s2 =>
        cases b
        · simp [Res.bind]
        · simp only [Res.bind, if_true]
          cases (e e1 s2).noX <;> rfl
theorem wp_compL (I : List α → List D → Store → Prop) (h0 : I [] [] st)
    (step : ∀ ys x zs acc st, xs = ys ++ x :: zs → I ys acc st → (itemF g t e env (ι x) st).wp (fun o st1 => match o with
      | none => I (ys ++ [x]) acc st1
      | some d => acc.length < sizeLine ∧ I (ys ++ [x]) (acc ++ [d]) st1) NX)
    (fin : ∀ acc st, I xs acc st → QL acc st) : (compL g t e env (xs.map ι) [] st).wp QL E := by
  have main : ∀ (zs ys : List α) acc st, xs = ys ++ zs → I ys acc st → (compL g t e env (zs.map ι) acc st).wp QL E := by
    intro zs
    induction zs with
    | nil => intro ys acc st hxs h; rw [compL_item]; exact fin acc st (by rw [hxs, List.append_nil]; exact h)
    | cons z zs ih =>
      intro ys acc st hxs h
      have s := step ys z zs acc st hxs h
      rw [compL_item]
      simp only [List.map_cons]
      cases hr : itemF g t e env (ι z) st with
      | bad => rw [hr] at s; exact s.elim
      | exc x s' => rw [hr] at s; exact s.elim
      | ok o s' =>
        rw [hr] at s
        simp only [Res.bind]
        cases o with
        | none => exact ih (ys ++ [z]) acc s' (by simp [hxs]) s
        | some d =>
          obtain ⟨s1, s2⟩ := s
          simp only [s1, if_true]
          exact ih (ys ++ [z]) (acc ++ [d]) s' (by simp [hxs]) s2
  exact main xs [] [] st rfl h0
theorem wp_compX {F : α → Option D} (h : ∀ x ∈ xs, (itemF g t e env (ι x) st).wp (fun o s => F x = o ∧ s = st) NX) (hl : xs.length ≤ 1000) (q : QL (xs.filterMap F) st) : (compL g t e env (xs.map ι) [] st).wp QL E := by
  refine wp_compL (fun ys acc s => acc = ys.filterMap F ∧ acc.length ≤ ys.length ∧ s = st) ⟨rfl, Nat.le_refl _, rfl⟩ ?_ ?_
  · rintro ys x zs acc s e ⟨rfl, h1, rfl⟩
    have hx : x ∈ xs := by rw [e]; simp
    have hn : ys.length < xs.length := by rw [e]; simp
    refine Res.wp_mono (h x hx) ?_
    rintro o s' ⟨rfl, rfl⟩
    cases hF : F x with
    | none => simp [List.filterMap_append, hF]; omega
    | some d =>
      refine ⟨Nat.lt_of_lt_of_le (m := 1000) (by omega) (le_size (Nat.le_refl _)), ?_, ?_, rfl⟩
      · simp [List.filterMap_append, hF]
      · simp; omega
  · rintro acc s ⟨rfl, _, rfl⟩; exact q
theorem filterMap_some' {β : Type} {f : α → β} : xs.filterMap (fun x => some (f x)) = xs.map f := by
  induction xs with
  | nil => rfl
  | cons x xs ih => simp [List.filterMap_cons, ih]
theorem filterMap_if {β : Type} {f : α → β} {p : α → Bool} : xs.filterMap (fun x => if p x = true then some (f x) else none) = (xs.filter p).map f := by
  induction xs with
  | nil => rfl
  | cons x xs ih =>
    cases h : p x <;> simp [List.filterMap_cons, h, ih]
theorem wp_forL {body : DenS} {N : Env → Store → Prop} {P : SRes → Prop} (I : List α → Env → Store → Prop) (h0 : I [] env st)
    (step : ∀ ys x zs env st, xs = ys ++ x :: zs → I ys env st → gwp (g (ι x) env st) fun env1 st1 => (body env1 st1).wp (I (ys ++ [x])) (fun r => match r with
      | .cont env2 st2 => I (ys ++ [x]) env2 st2
      | .brk env2 st2 => N env2 st2
      | r => P r)) (fin : ∀ env st, I xs env st → N env st) : (forD g body (xs.map ι) env st).wp N P := by
  have main : ∀ (zs ys : List α) env st, xs = ys ++ zs → I ys env st → (forD g body (zs.map ι) env st).wp N P := by
    intro zs
    induction zs with
    | nil => intro ys env st e h; exact fin env st (by rw [e, List.append_nil]; exact h)
    | cons z zs ih =>
      intro ys env st e h
      have s := step ys z zs env st e h
      simp only [List.map_cons, forD]
      cases hg : g (ι z) env st with
      | none => rw [hg] at s; exact s.elim
      | some p =>
        obtain ⟨e1, s1⟩ := p
        rw [hg] at s
        replace s : (body e1 s1).wp _ _ := s
        simp only
        cases hb : body e1 s1 with
        | next e2 s2 => rw [hb] at s; exact ih (ys ++ [z]) e2 s2 (by simp [e]) s
        | cont e2 s2 => rw [hb] at s; exact ih (ys ++ [z]) e2 s2 (by simp [e]) s
        | brk e2 s2 => rw [hb] at s; exact s
        | ret d s2 => rw [hb] at s; exact s
        | exc x e2 s2 => rw [hb] at s; exact s
        | bad => rw [hb] at s; exact s
  exact main xs [] env st rfl h0
end
/-! ### written lists -/
def itK (o : Option D) (k0 : Prop) (k1 : D → Prop) (_u : PhP k0 := .mk) (_v : Ph k1 := ()) : Prop := match o with
  | none => k0
  | some x => k1 x
section
variable {g : DenG} {t : DenT} {e : DenE} {env : Env} {st : Store} {QL : List D → Store → Prop} {E : Xc → Store → Prop} {N : Env → Store → Prop} {P : SRes → Prop} {body : DenS} {d : D} {ds acc : List D}
theorem itK_none {k0 : Prop} {k1 : D → Prop} : itK none k0 k1 = k0 := id rfl
theorem itK_some {k0 : Prop} {k1 : D → Prop} : itK (some d) k0 k1 = k1 d := id rfl
theorem wp_compN : (compL g t e env [] acc st).wp QL E = QL acc st := id rfl
theorem wp_compC : (compL g t e env (d :: ds) acc st).wp QL E = (itemF g t e env d st).wp (fun o st1 => itK o ((compL g t e env ds acc st1).wp QL E) fun x => szK acc.length ((compL g t e env ds (acc ++ [x]) st1).wp QL E)) E := by
  rw [compL_item]
  simp only
  rw [wp_bind]
  refine Res.wp_ext fun o st1 => ?_
  cases o with
  | none => rfl
  | some x =>
    simp only [itK, szK, wp_ite, wp_bad]
    by_cases h : acc.length < sizeLine <;> simp [h]
theorem wp_forN : (forD g body [] env st).wp N P = N env st := id rfl
theorem wp_forC : (forD g body (d :: ds) env st).wp N P = gwp (g d env st) fun env1 st1 => (body env1 st1).wp (fun env2 st2 => (forD g body ds env2 st2).wp N P) (fun r => match r with
    | .cont env2 st2 => (forD g body ds env2 st2).wp N P
    | .brk env2 st2 => N env2 st2
    | r => P r) := by
  simp only [forD, gwp]
  cases g d env st with
  | none => rfl
  | some p =>
    obtain ⟨e1, s1⟩ := p
    simp only
    cases body e1 s1 <;> rfl
end
/-! ### the evaluation set -/
theorem ev_1 : type_of% @List.map_cons := @List.map_cons
theorem ev_2 : type_of% @List.map_nil := @List.map_nil
theorem ev_3 : type_of% @List.length_cons := @List.length_cons
theorem ev_4 : type_of% @List.length_nil := @List.length_nil
theorem ev_6 : type_of% @List.cons_append := @List.cons_append
theorem ev_7 : type_of% @List.nil_append := @List.nil_append
theorem ev_8 : type_of% @List.append_nil := @List.append_nil
theorem ev_9 : type_of% @Nat.zero_add := @Nat.zero_add
theorem ev_10 : type_of% @Nat.add_zero := @Nat.add_zero
theorem ev_11 : type_of% @List.set_cons_zero := @List.set_cons_zero
theorem ev_12 : type_of% @List.set_cons_succ := @List.set_cons_succ
theorem ev_13 : type_of% @Bool.not_true := @Bool.not_true
theorem ev_14 : type_of% @Bool.not_false := @Bool.not_false
theorem ev_15 : type_of% @Bool.false_eq_true := @Bool.false_eq_true
theorem ev_16 : type_of% @if_true := @if_true
theorem ev_17 : type_of% @if_false := @if_false
theorem ev_18 : type_of% @decide_eq_true_eq := @decide_eq_true_eq
theorem ev_19 : type_of% @D.bl.injEq := @D.bl.injEq
theorem ev_20 : type_of% @D.int.injEq := @D.int.injEq
theorem ev_21 : type_of% @D.str.injEq := @D.str.injEq
theorem ev_22 : type_of% @D.tup.injEq := @D.tup.injEq
theorem ev_23 : type_of% @D.lst.injEq := @D.lst.injEq
theorem ev_24 : type_of% @exists_eq_left' := @exists_eq_left'
theorem ev_25 : type_of% @exists_eq_left := @exists_eq_left
theorem ev_26 : type_of% @true_and := @true_and
theorem ev_27 : type_of% @and_true := @and_true
theorem ev_28 : type_of% @Option.some.injEq := @Option.some.injEq
theorem ev_29 : type_of% @List.cons.injEq := @List.cons.injEq
theorem ev_30 : type_of% @eq_self := @eq_self
theorem ev_31 : type_of% @or_false := @or_false
theorem ev_32 : type_of% @false_or := @false_or
theorem ev_33 : type_of% @false_and := @false_and
theorem ev_34 : type_of% @and_false := @and_false
theorem ev_35 : type_of% @and_self := @and_self
theorem ev_37 : type_of% @Option.map_some := @Option.map_some
theorem ev_38 : type_of% @Prod.mk.injEq := @Prod.mk.injEq
theorem ev_39 : type_of% @exists_and_left := @exists_and_left
theorem ev_40 : type_of% @exists_eq := @exists_eq
theorem ev_41 : type_of% @exists_eq' := @exists_eq'
theorem ev_42 : type_of% @exists_eq_right := @exists_eq_right
theorem ev_43 : type_of% @exists_eq_right' := @exists_eq_right'
theorem ev_44 : type_of% @Bool.or_true := @Bool.or_true
theorem ev_45 : type_of% @Bool.true_or := @Bool.true_or
theorem ev_46 : type_of% @Bool.or_false := @Bool.or_false
theorem ev_47 : type_of% @Bool.false_or := @Bool.false_or
theorem ev_48 : type_of% @Bool.or_self := @Bool.or_self
theorem ev_49 : type_of% @beq_self_eq_true := @beq_self_eq_true
theorem ev_50 : type_of% @not_true := @not_true
theorem ev_51 : type_of% @not_false_eq_true := @not_false_eq_true
theorem ev_54 : type_of% @List.getElem?_cons_zero := @List.getElem?_cons_zero
theorem ev_55 : type_of% @List.getElem?_cons_succ := @List.getElem?_cons_succ
theorem ev_56 : type_of% @List.getElem?_map := @List.getElem?_map
theorem ev_57 : type_of% @Bool.and_self := @Bool.and_self
theorem ev_58 : type_of% @Bool.and_true := @Bool.and_true
theorem ev_envOf {n : Nat} {ds : List D} : envOf n ds = ds.map some ++ List.replicate (n - ds.length) none := id rfl
theorem ev_wipe0 {env : Env} : wipeD env [] = env := id rfl
theorem ev_wipe1 {env : Env} {v : Nat} {vs : List Nat} : wipeD env (v :: vs) = (wipeD env vs).set v none := id rfl
theorem ev_rep0 {α : Type} {a : α} : List.replicate 0 a = [] := id rfl
theorem ev_rep1 {α : Type} {n : Nat} {a : α} : List.replicate (n + 1) a = a :: List.replicate n a := id rfl
end Den

namespace Den
open PySem PySem.Spec PyProof.Rows L2
/-! ### isinstance of a class of the program -/
def isaC (tab : List (Nat × Bool)) : Tn → Option Bool
  | .ty a => if tyNames.contains a then some false else none
  | .cl c => tab.lookup c
structure IsaC (K : PySem.W.Frag) (G : Nat → Addr) (c : Nat) (tab : List (Nat × Bool)) : Prop where
  ty : tyNames.all (fun a => decide (PySem.W.kitOne K (.type a) (.ref (G c)) = some false)) = true
  cl : ∀ p ∈ tab, PySem.W.kitOne K (.ref (G p.1)) (.ref (G c)) = some p.2 ∧ InsCls K (G p.1)
theorem lookup_mem {α : Type} {c : Nat} {b : α} : ∀ {tab : List (Nat × α)}, tab.lookup c = some b → (c, b) ∈ tab
  | [], h => by cases h
  | (k, v) :: r, h => by
    by_cases e : c = k
    · subst e
      simp [List.lookup] at h; subst h; exact List.mem_cons_self ..
    · have : (c == k) = false := by simpa using e
      simp only [List.lookup, this] at h
      exact List.mem_cons_of_mem _ (lookup_mem h)
theorem isa_cl {K : PySem.W.Frag} {G : Nat → Addr} {c : Nat} {tab : List (Nat × Bool)} (h : IsaC K G c tab) : Isa K G (.cls c) (isaC tab) where
  cv := fun F ph v hv => by
    simp only [R] at hv; subst hv
    refine ⟨.ref (G c), .own _, fun t b e => ?_⟩
    cases t with
    | ty a =>
      simp only [isaC] at e
      split at e
      · rename_i hm
        cases e
        have := List.all_eq_true.mp h.ty a (by simpa using hm)
        exact of_decide_eq_true this
      · cases e
    | cl n => exact (h.cl _ (lookup_mem e)).1
  ins := fun n b e => (h.cl _ (lookup_mem (show tab.lookup n = some b from e))).2
section
variable {X : Cx} {G : Nat → Addr} {W : WX}
theorem cd_isiCl {c : Nat} {tab : List (Nat × Bool)} (h : IsaC X.K G c tab) : CallD X G W (.builtin "isinstance") (isi2 (isCl c) (isaC tab)) :=
  cd_isi (isa_cl h) fun e he => by
    cases e with
    | cls n => simp only [isCl, beq_iff_eq] at he; subst he; rfl
    | _ => simp [isCl] at he
/-! ### zip, reversed -/
def lsOf : D → Option (List D)
  | .lst a => some a
  | .ro a => some a
  | _ => none
theorem lsOf_ok {K : PySem.W.Frag} {F : Hp} {ph : List Addr} {d : D} {v : V} {a : List D} (r : R K G F ph d v) (h : lsOf d = some a) : ∃ p vs, v = .ref p ∧ SqL K F p vs ∧ Rs K G F ph a vs := by
  cases d with
  | lst b =>
    cases h
    simp only [R] at r
    obtain ⟨p, vs, h1, h2, h3⟩ := r
    exact ⟨p, vs, h1, SqL.of h2, h3⟩
  | ro b =>
    cases h
    simp only [R] at r
    obtain ⟨p, vs, h1, h2, h3⟩ := r
    exact ⟨p, vs, h1, h2, h3⟩
  | _ => cases h
def zipL (a b : List D) : List D := List.zipWith (fun x y => .tup [x, y]) a b
def iZ (f : DenA) : DenI := fun env st => (f env st).bind fun ds st1 => match ds with
  | [x, y] => match lsOf x, lsOf y with
    | some a, some b => .ok (zipL a b) st1
    | _, _ => .bad
  | _ => .bad
theorem walkZ {K : PySem.W.Frag} {F : Hp} {ph : List Addr} {a b : Addr} {ds es : List D} {vs us : List V} (h : SqL K F a vs) (rs : Rs K G F ph ds vs) (h' : SqL K F b us) (rs' : Rs K G F ph es us) : WalkD K G F ph (zipL ds es) (Itz K a b) := by
  unfold WalkD
  have hl : (zipL ds es).length = min vs.length us.length := by simp [zipL, rs.len, rs'.len]
  refine (walk_zip (n := (zipL ds es).length) hl).mono (fun H sub => ⟨Same.seq sub h, Same.seq sub h'⟩) fun i H v H' hi sub y => ?_
  obtain ⟨T, x, z, h1, h2, h3, h4, h5⟩ := y
  obtain ⟨d, e1, e2⟩ := rs.get' h4
  obtain ⟨d', e1', e2'⟩ := rs'.get' h5
  refine yPair (d := d) (e := d') sub ?_ h1 h2 h3 e2 e2'
  simp [zipL, List.getElem?_zipWith, e1, e1']
theorem di_zip {e e2 : Expr} {f : DenA} {p pos tpos : Pos} {elts : List Expr} {kk : Nat} (hm : X.mg "zip" = none) (ha : DA X G W [e, e2] f) (hg : Gl X "zip" := by rfl)
    (hs : starEach [e, e2] X.env = (false, eval e X.env) :: starEach [e2] X.env := by rfl) (hpl : (backTo pos (starEach [e2] X.env)).any (·.1) = false := by rfl) :
    DI X G W (.Tuple elts kk tpos) (.Call (.Name "zip" p) [e, e2] [] pos) (iZ f) := by
  refine piImp (pi_zip hg hm ha hs hpl) fun σ H Q ⟨F, ph, env, st, r, w⟩ => ⟨F, ph, env, st, r, w.bind fun ds st1 F1 p1 vs H1 e1 r1 rv w1 => ?_⟩
  split at w1
  · obtain ⟨v, u, rfl, q, q'⟩ := rv.inv2
    split at w1
    · rename_i a b ea eb
      obtain ⟨p, xs, rfl, h2, h3⟩ := lsOf_ok q ea
      obtain ⟨p', ys, rfl, h2', h3'⟩ := lsOf_ok q' eb
      exact ⟨p, p', xs, ys, rfl, Same.seq r1.s.sub h2, Same.seq r1.s.sub h2', w1.fin r1 (walkZ h2 h3 h2' h3')⟩
    · exact w1.elim
  · exact w1.elim
def iV (f : DenE) : DenI := fun env st => (f env st).bind fun d st1 => match lsOf d with
  | some a => .ok a.reverse st1
  | none => .bad
/-! ### xs[::-1] -/
def revD (d : D) (st : Store) : Res D := match asR st d with
  | some a => .ok (.lst a.reverse) st
  | none => .bad
theorem de_revL {e : Expr} {f : DenE} {k : Nat} {p1 p2 p3 pos : Pos} (he : DE X G W e f) : DE X G W (.Subscript e (.Slice none none (some (.UnaryOp .USub (.Constant (.int 1) k p1) p2)) p3) pos) (eUn revD f) := by
  refine peImp (pe_revL he) fun σ H Q ⟨F, ph, env, st, r, w⟩ => ⟨F, ph, env, st, r, w.bind fun d st1 F1 p1 v H1 e1 r1 rv w1 => ?_⟩
  unfold revD at w1
  split at w1
  · rename_i a ea
    obtain ⟨p, vs, h1, h2, h3⟩ := asR_ok r1.s rv ea
    exact ⟨p, vs, h1, h2, fun q hq => w1.newL r1 h3.rev hq⟩
  · exact w1.elim
/-! ### sum, int -/
def int1D (ds : List D) (st : Store) : Res D := match ds with
  | [.int i] => .ok (.int i) st
  | [.bl b] => .ok (.int (if b then 1 else 0)) st
  | _ => .bad
/-! ### f-strings -/
def fmtD (d : D) (st : Store) : Res D := match d with
  | .str y => if y.length ≤ sizeLine then .ok (.str y) st else .bad
  | .int i => if i.natAbs.log2 < 1920 then .ok (.str (toString i)) st else .bad
  | _ => .bad
theorem de_fmt {e : Expr} {f : DenE} {pos : Pos} (he : DE X G W e f) : DE X G W (.FormattedValue e (-1) none pos) (eUn fmtD f) := by
  refine peImp (pe_fmt he) fun σ H Q ⟨F, ph, env, st, r, w⟩ => ⟨F, ph, env, st, r, w.bind fun d st1 F1 p1 v H1 e1 r1 rv w1 => ?_⟩
  unfold fmtD at w1
  split at w1
  · split at w1
    · rename_i hz
      simp only [R] at rv; subst rv
      exact .inl ⟨_, rfl, hz, w1.fin r1 (by simp only [R])⟩
    · exact w1.elim
  · split at w1
    · rename_i hz
      simp only [R] at rv; subst rv
      exact .inr ⟨_, rfl, hz, w1.fin r1 (by simp only [R])⟩
    · exact w1.elim
  · exact w1.elim
theorem de_fmtRR {e : Expr} {f : DenE} {pos : Pos} (hg : Gd X) (hu : X.A.units + 64 < cLine) (he : DE X G W e f) : DE X G W (.FormattedValue e 114 none pos) (eUn reprF f) := by
  refine ⟨fun pins s0 σ H0 Q I0 h => ?_⟩
  refine wpAny_FormattedValue_repr (thn (he.run pins s0 σ H0 _ I0 (un_imp h)) fun u s ⟨x, H, I, rx, σ', env, F, ph, st, d, r, rv, w⟩ => ?_)
  unfold reprF at w
  split at w
  · rename_i p hp
    split at w
    · rename_i hok
      unfold reprOk at hok
      simp only [Bool.and_eq_true, decide_eq_true_eq] at hok
      obtain ⟨⟨h1, h2⟩, h3⟩ := hok
      have q : Q (.str p.shown) H := w.fin r (by simp only [R])
      have fin : ∀ (s' : Shared) (t : Tok), L2.Inv X pins σ H s' → wpAny (model X.prog X.w) X.A (formatField (.str p.shown t) Str.empty) (EP X pins σ Q) X.xe s' := fun s' t I' =>
        wpAny_formatField_str ⟨.str p.shown, H, I', ⟨t, rfl⟩, q⟩ ⟨.str p.shown, H, I'.tok _, ⟨_, rfl⟩, q⟩ h2
      cases x with
      | ref a =>
        cases rx
        obtain ⟨T, idr, S⟩ := shows I r.s rv hp h1 h2
        obtain ⟨gs, gg, gc⟩ := (GOk.later hg I.base).clear
        exact wpAny_pyReprObj_slot (by omega) (S.typeIs s fun _ _ e => e) S.slotRepr (S.call X.A gs X.xe s _ gg gc (by omega) (fun _ _ e => e)
          fun h' u tk hk => ⟨_, _, rfl, fin _ _ (I.kept hk)⟩)
      | non =>
        cases rx
        cases R.inv_non rv
        simp only [toPy, toPyC, Option.some.injEq] at hp; subst hp
        exact pyReprObj_none (by simpa only [PyData.shown] using fin _ s.toks (I.tok _))
      | bl b =>
        cases rx
        cases R.inv_bl rv
        simp only [toPy, toPyC, Option.some.injEq] at hp; subst hp
        exact pyReprObj_bool (by simpa only [PyData.shown] using fin _ s.toks (I.tok _))
      | int i =>
        obtain ⟨t, rfl⟩ := rx
        cases R.inv_int rv
        simp only [toPy, toPyC, Option.some.injEq] at hp; subst hp
        exact pyReprObj_int (by simpa [PyData.showable] using h1) (by simpa only [PyData.shown] using fin _ s.toks (I.tok _))
      | str y =>
        obtain ⟨t, rfl⟩ := rx
        cases R.inv_str rv
        simp only [toPy, toPyC, Option.some.injEq] at hp; subst hp
        exact pyReprObj_str (by simpa only [PyData.shown] using fin _ s.toks (I.tok _)) (by simpa only [PyData.shown] using h2)
      | byt y => exact (R.inv_byt rv).elim
      | flt y => exact (R.inv_flt rv).elim
      | ty n => cases d <;> simp [R] at rv; simp [toPyC] at hp
    · exact w.elim
  · exact w.elim
/-- the texts one behind the other -/
def jsD : List DenE → Str → DenE
  | [], acc => fun _ st => .ok (.str acc) st
  | f :: fs, acc => fun env st => (f env st).bind fun d st1 => match d with
    | .str y => if (acc ++ y).length ≤ sizeLine then jsD fs (acc ++ y) env st1 else .bad
    | _ => .bad
inductive DJ (X : Cx) (G : Nat → Addr) (W : WX) : List Expr → List DenE → Prop where
  | nil : DJ X G W [] []
  | cons {e : Expr} {f : DenE} {es : List Expr} {fs : List DenE} (h : DE X G W e f) (r : DJ X G W es fs) : DJ X G W (e :: es) (f :: fs)
theorem de_fmtR {e : Expr} {f : DenE} {pos : Pos} (hg : X.A.guards = some []) (hu : X.A.units + 64 < cLine) (he : DE X G W e f) : DE X G W (.FormattedValue e 114 none pos) (eUn reprF f) := de_fmtRR (GOk.nil hg) hu he
theorem DJ.pj {es : List Expr} {fs : List DenE} (h : DJ X G W es fs) : PJ X es (fs.map fun f => rd X.K G (R X.K G) W f) := by
  induction h with
  | nil => exact .nil
  | cons h r ih => exact .cons h ih
theorem js_imp : ∀ (fs : List DenE) (acc : Str) (σ : L2.St) (H : Hp) (Q : VK), rd X.K G (R X.K G) W (jsD fs acc) σ H Q → tJs (fs.map fun f => rd X.K G (R X.K G) W f) acc σ H fun out H1 => Q (.str out) H1
  | [], acc, σ, H, Q, ⟨F, ph, env, st, r, w⟩ => w.fin r (by simp only [R])
  | f :: fs, acc, σ, H, Q, ⟨F, ph, env, st, r, w⟩ => ⟨F, ph, env, st, r, w.bind fun d st1 F1 p1 v H1 e1 r1 rv w1 => by
      split at w1
      · split at w1
        · rename_i y hz
          simp only [R] at rv
          exact ⟨y, rv, hz, js_imp fs (acc ++ y) σ H1 Q ⟨F1, p1, env, st1, r1, w1⟩⟩
        · exact w1.elim
      · exact w1.elim⟩
theorem de_joined {v1 v2 : Expr} {rest : List Expr} {fs : List DenE} {pos : Pos} (h : DJ X G W (v1 :: v2 :: rest) fs) : DE X G W (.JoinedStr (v1 :: v2 :: rest) pos) (jsD fs Str.empty) :=
  peImp (pe_joined h.pj) fun σ H Q q => js_imp fs Str.empty σ H Q q
/-! ### == of two objects of one class -/
end
/-! ### keywords in another order -/
def pick {α : Type} : List Nat → List α → List α
  | [], _ => []
  | i :: π, l => match l[i]? with
    | some x => x :: pick π l
    | none => pick π l
theorem pick_cons {α : Type} {i : Nat} {π : List Nat} {l : List α} {x : α} (h : l[i]? = some x) : pick (i :: π) l = x :: pick π l := by simp only [pick, h]
theorem pick_nil {α : Type} {l : List α} : pick [] l = [] := id rfl
/-- isinstance's facts, one by one -/
theorem kit_ty {K : PySem.W.Frag} {T : String} {C : Addr} {b : Bool} (h1 : PySem.W.isClsIn K C = true) (h2 : PySem.W.typeIn K (.ref C) = some (.type "type")) (h3 : PySem.W.subIn K (.type T) (.ref C) = some b) : PySem.W.kitOne K (.type T) (.ref C) = some b := by
  unfold PySem.W.kitOne
  rw [if_neg (by show ¬ ((Value.type T == Value.ref C) = true); exact Bool.false_ne_true)]
  unfold PySem.W.kitCls
  simp only
  rw [if_pos]
  · exact h3
  · rw [h2]
    simp only [PySem.W.isClsIn] at h1
    simpa using h1
theorem kit_ref {K : PySem.W.Frag} {A C : Addr} {b : Bool} (h1 : PySem.W.isClsIn K C = true) (h2 : PySem.W.typeIn K (.ref C) = some (.type "type")) (hs : PySem.W.subIn K (.ref C) (.ref C) = some true) (h3 : PySem.W.subIn K (.ref A) (.ref C) = some b) : PySem.W.kitOne K (.ref A) (.ref C) = some b := by
  unfold PySem.W.kitOne
  by_cases e : (Value.ref A == Value.ref C) = true
  · have : A = C := by
      have := eq_of_beq e
      injection this
    subst this
    rw [hs] at h3; cases h3
    rw [if_pos e]
  · rw [if_neg e]
    unfold PySem.W.kitCls
    simp only
    rw [if_pos]
    · exact h3
    · rw [h2]
      simp only [PySem.W.isClsIn] at h1
      simpa using h1
theorem isaC_mk {K : PySem.W.Frag} {G : Nat → Addr} {c : Nat} {tab : List (Nat × Bool)} (k1 : PySem.W.isClsIn K (G c) = true) (k2 : PySem.W.typeIn K (.ref (G c)) = some (.type "type")) (ks : PySem.W.subIn K (.ref (G c)) (.ref (G c)) = some true)
    (h1 : PySem.W.subIn K (.type "NoneType") (.ref (G c)) = some false) (h2 : PySem.W.subIn K (.type "bool") (.ref (G c)) = some false) (h3 : PySem.W.subIn K (.type "int") (.ref (G c)) = some false)
    (h4 : PySem.W.subIn K (.type "str") (.ref (G c)) = some false) (h5 : PySem.W.subIn K (.type "list") (.ref (G c)) = some false) (h6 : PySem.W.subIn K (.type "tuple") (.ref (G c)) = some false) (h7 : PySem.W.subIn K (.type "dict") (.ref (G c)) = some false)
    (cl : ∀ p ∈ tab, PySem.W.subIn K (.ref (G p.1)) (.ref (G c)) = some p.2 ∧ InsCls K (G p.1)) : IsaC K G c tab := by
  refine ⟨?_, fun p hp => ⟨kit_ref k1 k2 ks (cl p hp).1, (cl p hp).2⟩⟩
  simp only [tyNames, List.all_cons, List.all_nil, Bool.and_true, kit_ty k1 k2 h1, kit_ty k1 k2 h2, kit_ty k1 k2 h3, kit_ty k1 k2 h4, kit_ty k1 k2 h5, kit_ty k1 k2 h6, kit_ty k1 k2 h7, decide_true]
/-! ### evaluation -/
def szS (n : Nat) (k : Prop) (_u : PhP k := .mk) : Prop := n ≤ sizeLine ∧ k
section
variable {st : Store} {env : Env} {Q : D → Store → Prop} {QL : List D → Store → Prop} {E : Xc → Store → Prop} {d : D} {i : Int}
theorem le_size' {n : Nat} (h : n ≤ 16000000) : n ≤ sizeLine := by rw [sizeLine_eq]; omega
theorem szS_ok {n : Nat} {k : Prop} (h : n ≤ 16000000) : szS n k = k := by simp only [szS, le_size' h, true_and]
theorem wk_jsN {acc : Str} : (jsD [] acc env st).wp Q E = Q (.str acc) st := id rfl
theorem wk_js {f : DenE} {fs : List DenE} {acc : Str} : (jsD (f :: fs) acc env st).wp Q E = (f env st).wp (fun d st1 => strK d fun y => szS (acc ++ y).length ((jsD fs (acc ++ y) env st1).wp Q E)) E := by
  simp only [jsD]
  rw [wp_bind]
  refine Res.wp_ext fun d st1 => ?_
  cases d with
  | str y =>
    simp only [strK, szS, wp_ite, wp_bad]
    by_cases h : (acc ++ y).length ≤ sizeLine <;> simp [h]
  | _ => rfl
theorem fmt_s {y : Str} (h : y.length ≤ 16000000) : fmtD (.str y) st = .ok (.str y) st := by simp only [fmtD, le_size' h, if_true]
theorem log_ok {i : Int} (h : i.natAbs < 10 ^ 150) : i.natAbs.log2 < 1920 := by
  by_cases h0 : i.natAbs = 0
  · rw [h0]; decide
  · have h2 : i.natAbs < 2 ^ 499 := Nat.lt_of_lt_of_le h (by decide +kernel)
    have := (Nat.log2_lt h0).mpr h2
    omega
theorem fmt_i (h : i.natAbs < 10 ^ 150) : fmtD (.int i) st = .ok (.str (toString i)) st := by simp only [fmtD, log_ok h, if_true]
theorem str_i (h : i.natAbs < 10 ^ 150) : strD [.int i] st = .ok (.str (toString i)) st := by simp only [strD, log_ok h, if_true]
theorem str_s {y : Str} : strD [.str y] st = .ok (.str y) st := id rfl
theorem int1_i : int1D [.int i] st = .ok (.int i) st := id rfl
theorem int1_b {b : Bool} : int1D [.bl b] st = .ok (.int (if b then 1 else 0)) st := id rfl
theorem isi_own {c k : Nat} {fs : List (Str × D)} {tab : List (Nat × Bool)} {b : Bool} (h : tab.lookup k = some b) : isi2 (isCl c) (isaC tab) [.ins k fs, .cls c] st = .ok (.bl b) st := by
  simp only [isi2, isCl, beq_self_eq_true, if_true, isiD, tnOf, isaC, h]
theorem wk_iZ {f : DenA} : (iZ f env st).wp QL E = (f env st).wp (fun ds st1 => twoK ds fun x y => lstK x fun a => lstK y fun b => QL (zipL a b) st1) E := by
  unfold iZ
  rw [wp_bind]; refine Res.wp_ext fun ds st1 => ?_
  rcases ds with _ | ⟨x, _ | ⟨y, _ | ⟨z, r⟩⟩⟩
  · rfl
  · rfl
  · cases x <;> cases y <;> rfl
  · rfl
theorem wk_iV {f : DenE} : (iV f env st).wp QL E = (f env st).wp (fun d st1 => lstK d fun a => QL a.reverse st1) E := by
  unfold iV
  rw [wp_bind]; refine Res.wp_ext fun d st1 => ?_
  cases d <;> rfl
theorem zip_map {α β : Type} {f : α → D} {g : β → D} {xs : List α} {ys : List β} : zipL (xs.map f) (ys.map g) = (xs.zip ys).map fun p => .tup [f p.1, g p.2] := by
  unfold zipL
  rw [List.zipWith_map, List.zip, List.map_zipWith]
theorem rev_lst {a : List D} : revD (.lst a) st = .ok (.lst a.reverse) st := id rfl
theorem txtO_ok {disp : Nat → Option Fn} {els : List D → Store → Res D} {c : Nat} {fs : List (Str × D)} {g : Fn} {x : Str} (hi : insOf st d = some (c, fs)) (hd : disp c = some g) (h : g [d] st = .ok (.str x) st) : txtO disp els [d] st = .ok (.str x) st := by
  simp only [txtO, hi, hd, h]
end
end Den

namespace Den
open PySem PySem.Spec PyProof.Rows L2
section
variable {X : Cx} {G : Nat → Addr} {W : WX} {ws : List Nat}
/-- a, b, c = e1, e2, e3 with both sides written -/
def sPar3 (i j l : Nat) (f : DenA) : DenS := fun env st => (f env st).andS env fun ds st1 => match ds with
  | [a, b, c] => .next (((env.set i (some a)).set j (some b)).set l (some c)) st1
  | _ => .bad
/-! ### while, by whatever fuel is enough -/
theorem whileD_more {t : DenT} {f : DenS} : ∀ (n : Nat) (env : Env) (st : Store), whileD t f n env st ≠ .bad → whileD t f (n + 1) env st = whileD t f n env st
  | 0, _, _, h => absurd rfl h
  | n + 1, env, st, h => by
    rw [whileD]
    conv => rhs; rw [whileD]
    rw [whileD] at h
    cases ht : t env st with
    | bad => rfl
    | exc x s => rfl
    | ok b s =>
      rw [ht] at h
      simp only [Res.andS] at h ⊢
      cases b with
      | false => rfl
      | true =>
        simp only [if_true] at h ⊢
        cases hb : f env s with
        | next e2 s2 => rw [hb] at h; exact whileD_more n e2 s2 h
        | cont e2 s2 => rw [hb] at h; exact whileD_more n e2 s2 h
        | brk e2 s2 => rfl
        | ret d s2 => rfl
        | exc x e2 s2 => rfl
        | bad => rfl
theorem whileD_le {t : DenT} {f : DenS} {n m : Nat} {env : Env} {st : Store} (h : whileD t f n env st ≠ .bad) (hm : n ≤ m) : whileD t f m env st = whileD t f n env st := by
  induction m with
  | zero => have : n = 0 := by omega
            subst this; rfl
  | succ m ih =>
    rcases Nat.lt_or_ge m n with q | q
    · have : n = m + 1 := by omega
      subst this; rfl
    · have e := ih q
      rw [whileD_more m env st (by rw [e]; exact h), e]
noncomputable def fuel (t : DenT) (f : DenS) (env : Env) (st : Store) : Nat := by
  classical
  exact if h : ∃ n, whileD t f n env st ≠ .bad then h.choose else 0
noncomputable def sWhile (t : DenT) (f : DenS) : DenS := fun env st => whileD t f (fuel t f env st) env st
theorem sWhile_of {t : DenT} {f : DenS} {n : Nat} {env : Env} {st : Store} (h : whileD t f n env st ≠ .bad) : sWhile t f env st = whileD t f n env st := by
  have hx : ∃ n, whileD t f n env st ≠ .bad := ⟨n, h⟩
  unfold sWhile fuel
  rw [dif_pos hx]
  have hc := hx.choose_spec
  generalize hx.choose = m at hc
  rcases Nat.le_total m n with q | q
  · exact (whileD_le hc q).symm
  · exact whileD_le h q
theorem ds_whileU {c : Expr} {body : List Stmt} {t : DenT} {f : DenS} {pos : Pos} (hp : PassesOwn (model X.prog X.w) X.A X.env X.xe) (hc : DT X G W c t) (hb : DSs X G W body f) : DS X G W (.While c body [] pos) (sWhile t f) := ds_while (fuel t f) hp hc hb
/-! ### by truth -/
def truD (d : D) (st : Store) : Option Bool := match d with
  | .non => some false
  | .bl b => some b
  | .int i => some (i != 0)
  | .str y => if y.length ≤ sizeLine then some ((y.length : Int) != 0) else none
  | .tup ds => some (!ds.isEmpty)
  | d => (asR st d).map fun ds => !ds.isEmpty
def eOrT (fa fb : DenE) : DenE := fun env st => (fa env st).bind fun d st1 => match truD d st1 with
  | some true => .ok d st1
  | some false => fb env st1
  | none => .bad
/-! ### in place -/
def isubD (d e : D) (st : Store) : Res D := match d, e with
  | .int i, .int j => .ok (.int (i - j)) st
  | _, _ => .bad
end
section
open PySem.W
theorem ifBoundB_K {prog : Program} {w : World} {A : Around} {E : Value → Shared → Prop} {s : Shared} {K : Frag} {x C : Addr} {ox : Obj} {od : Option Obj} {M : Model} {name : Str} {id : String} {args : List Value} {Q : Option Value → Shared → Prop} (X : K.In s.heap) (I : InstAt s.heap x ox C od) (hs : findIn K (.ref C) name = some (some (.builtin id))) (hbn : bindSpecial (.builtin id) (.ref x) = pure (.builtin id, [.ref x]))
    (h : wpAny M A (call (.builtin id) (.ref x :: args)) (fun v => Q (some v)) E s) : wpAny M A (callSpecialIfBound? (.ref x) name args) Q E s := by
  simp only [callSpecialIfBound?, bindSpecialIfBound?]
  refine wpAny_holding (wpAny_bind (wpAny_bind (wpAny_bind (I.type.here ((looks_findIn X hs).here ?_)))))
  refine wpAny_bind (wpAny_askSetting (wpAny_ite ?_))
  have fin : wpAny M A (call (.builtin id) ([.ref x] ++ args) >>= fun v => pure (some v)) Q E s := wpAny_bind (wpAny_mono h (fun v s' h' => wpAny_pure h') fun _ _ h' => h')
  rw [hbn]
  split
  · exact wpAny_bind (wpAny_pure (wpAny_pure fin))
  · exact wpAny_tryCatch (wpAny_bind (wpAny_pure (wpAny_pure fin)))
theorem checkB_K {A : Around} {E : Value → Shared → Prop} {s : Shared} {K : Frag} {x C : Addr} {ox : Obj} {od : Option Obj} {M : Model} {id owner n : String} {rest : List Value} {Q : Unit → Shared → Prop} (X : K.In s.heap) (I : InstAt s.heap x ox C od) (hk : builtinKind id = some .slot) (hs : splitId id = some (owner, n))
    (ha : argsOk id ⟨.ref x :: rest, []⟩) (hob : subIn K (.ref C) (.type owner) = some true) (hq : Q () s) : wpAny M A (checkBuiltinCall id ⟨.ref x :: rest, []⟩) Q E s := by
  simp only [checkBuiltinCall, hk, hs]
  refine wpAny_bind ?_
  unfold isInstance
  refine wpAny_bind (I.type.here ((looks_subIn X hob).here ?_))
  cases hsig : Manifest.signature? id with
  | none => exact wpAny_pure hq
  | some sig =>
    simp only [argsOk, hsig] at ha
    have h2 : Bind.checkArgs id sig ⟨.ref x :: rest, []⟩ = pure () := ha
    show wpAny M A (Bind.checkArgs id sig ⟨.ref x :: rest, []⟩) Q E _
    rw [h2]; exact wpAny_pure hq
theorem ne_K {prog : Program} {w : World} {A : Around} {E : Value → Shared → Prop} {s : Shared} {K : Frag} {x C L f : Addr} {h₀ : Heap} {m : Str → Option Value} {ox : Obj} {od : Option Obj} {b tb : Value} {Q : Value → Shared → Prop} (hu : A.units < cLine) (hu1 : A.in1.units < cLine) (F : Fr h₀ L s.heap m) (X₀ : K.In h₀) (I : InstAt s.heap x ox C od) (hb : Looks (model prog w) s.heap (typeOf b) tb) (hn : notFirst K C tb = true)
    (hne : findIn K (.ref C) "__ne__" = some (some (.builtin "object.__ne__"))) (hob : subIn K (.ref C) (.type "object") = some true)
    (hs : findIn K (.ref C) "__eq__" = some (some (.ref f))) (hf : isFn K (.ref f) = true)
    (h : wpAny (model prog w) A.in1 (call (.ref f) [.ref x, b]) (fun v s' => ∃ r, v = .bool r ∧ Q (.bool (!r)) s') E s) : wpAny (model prog w) A (richCompare .NotEq (.ref x) b) Q E s := by
  have X := X₀.keeps F.keep
  have cl : wpAny (model prog w) A (call (.builtin "object.__ne__") [.ref x, b]) (fun v s' => ∃ r, v = .bool r ∧ Q (.bool r) s') E s := by
    refine wpAny_call (codeAny_call_builtin PySem.F.cmp_object.ne.plain PySem.F.cmpEntry_ne (checkB_K X I PySem.F.cmpKind_ne PySem.F.cmpSplit_ne (PySem.F.cmpArgs_ne _ _) hob ?_))
    unfold Builtin.«object.__ne__»
    refine wpAny_bind (m := slotArgs "__ne__" 1 _) (wpAny_pure ?_)
    refine wpAny_bind (wpAny_cRoomFor hu1 ?_)
    refine wpAny_bind (ifBound_K X I hs hf (wpAny_mono h (fun v s' hv => ?_) fun _ _ e => e))
    obtain ⟨r, rfl, hq⟩ := hv
    exact wpAny_bind (wpAny_pure (wpAny_pure ⟨_, rfl, hq⟩))
  have one : wpAny (model prog w) A (tryCompare (.ref x) "__ne__" b) (fun r s' => ∃ v, r = some v ∧ Q v s') E s := by
    unfold tryCompare
    refine wpAny_bind (ifBoundB_K (prog := prog) (w := w) X I hne (PySem.F.cmp_object.ne.bind _) (wpAny_mono cl (fun v s' hv => ?_) fun _ _ e => e))
    obtain ⟨r, rfl, hq⟩ := hv
    exact wpAny_pure ⟨_, rfl, hq⟩
  unfold richCompare
  simp only [oneThing_ref]
  refine wpAny_holding (wpAny_bind (wpAny_cRoomFor hu ?_))
  refine wpAny_bind (I.type.here (wpAny_bind (hb.here ?_)))
  split
  · rename_i q
    have e : subIn K tb (.ref C) = some false := by
      rcases Bool.or_eq_true_iff.mp hn with e | e
      · rw [beq_iff_eq.mp e] at q; simp at q
      · exact beq_iff_eq.mp e
    refine wpAny_bind ((looks_subIn X e).here ?_)
    simp only [Bool.false_eq_true, if_false]
    refine wpAny_bind (wpAny_mono one (fun r s' z => ?_) fun _ _ e => e)
    obtain ⟨v, rfl, hq⟩ := z
    exact wpAny_pure hq
  · refine wpAny_bind (wpAny_pure ?_)
    simp only [Bool.false_eq_true, if_false]
    refine wpAny_bind (wpAny_mono one (fun r s' z => ?_) fun _ _ e => e)
    obtain ⟨v, rfl, hq⟩ := z
    exact wpAny_pure hq
end
section
variable {P : Program} {w : World} {K : PySem.W.Frag} {mg : Str → Option Value} {base : Heap} {G : Nat → Addr}
end
section
variable {X : Cx} {G : Nat → Addr} {W : WX}
/-! ### != of two objects of one class -/
structure NeT (X : Cx) (G : Nat → Addr) (disp : Nat → Option Fn) : Prop where
  at_ : ∀ c g, disp c = some g → PySem.W.findIn X.K (.ref (G c)) "__ne__" = some (some (.builtin "object.__ne__")) ∧ PySem.W.subIn X.K (.ref (G c)) (.type "object") = some true
abbrev NeAt (K : PySem.W.Frag) (G : Nat → Addr) (c : Nat) : Prop := PySem.W.findIn K (.ref (G c)) "__ne__" = some (some (.builtin "object.__ne__")) ∧ PySem.W.subIn K (.ref (G c)) (.type "object") = some true
theorem neT2 {g g' : Fn} {a b : Nat} (ha : NeAt X.K G a) (hb : NeAt X.K G b) : NeT X G (fun c => if c = a then some g else if c = b then some g' else none) := ⟨fun c g'' e => by
  split at e
  · rename_i z; rw [z]; exact ha
  · split at e
    · rename_i z; rw [z]; exact hb
    · cases e⟩
end
/-! ### plain rules -/
section
variable {env : Env} {st : Store} {N : Env → Store → Prop} {P : SRes → Prop}
def par3 (ds : List D) (k : D → D → D → Prop) (_u : Ph k := ()) : Prop := ∃ a b c, ds = [a, b, c] ∧ k a b c
theorem par3_ok {a b c : D} {k : D → D → D → Prop} : par3 [a, b, c] k = k a b c := propext ⟨fun ⟨a', b', c', e, q⟩ => by cases e; exact q, fun q => ⟨a, b, c, rfl, q⟩⟩
theorem wp_sPar3 {i j l : Nat} {f : DenA} : (sPar3 i j l f env st).wp N P = (f env st).wp (fun ds st1 => par3 ds fun a b c => N (((env.set i (some a)).set j (some b)).set l (some c)) st1) (fun x st1 => P (.exc x env st1)) := by
  unfold sPar3 par3; rw [wp_andS]
  congr 1; funext ds st1
  match ds with
  | [a, b, c] => exact propext ⟨fun q => ⟨a, b, c, rfl, q⟩, fun ⟨a', b', c', e, q⟩ => by cases e; exact q⟩
  | [] => simp [wp_sbad]
  | [a] => simp [wp_sbad]
  | [a, b] => simp [wp_sbad]
  | _ :: _ :: _ :: _ :: _ => simp [wp_sbad]
def truK (o : Option Bool) (k k' : Prop) (_u : PhP k := .mk) (_v : PhP k' := .mk) : Prop := match o with
  | some true => k
  | some false => k'
  | none => False
theorem truK_t {k k' : Prop} : truK (some true) k k' = k := id rfl
theorem truK_f {k k' : Prop} : truK (some false) k k' = k' := id rfl
theorem wp_eOrT {fa fb : DenE} {Q : D → Store → Prop} {E : Xc → Store → Prop} : (eOrT fa fb env st).wp Q E = (fa env st).wp (fun d st1 => truK (truD d st1) (Q d st1) ((fb env st1).wp Q E)) E := by
  unfold eOrT; rw [wp_bind]
  congr 1; funext d st1
  cases truD d st1 with
  | none => rfl
  | some b => cases b <;> rfl
theorem truD_non : truD .non st = some false := id rfl
theorem truD_bl {b : Bool} : truD (.bl b) st = some b := id rfl
theorem truD_int {i : Int} : truD (.int i) st = some (i != 0) := id rfl
theorem truD_tup {ds : List D} : truD (.tup ds) st = some (!ds.isEmpty) := id rfl
theorem truD_lst {ds : List D} : truD (.lst ds) st = some (!ds.isEmpty) := id rfl
/-- a while by an invariant that comes down -/
theorem wp_while {t : DenT} {f : DenS} (I : Nat → Env → Store → Prop) (m : Nat) (h0 : I m env st)
    (step : ∀ k env st, I k env st → (t env st).wp (fun b st1 => if b = true then (f env st1).wp (fun env2 st2 => ∃ k', k' < k ∧ I k' env2 st2) (fun r => match r with
      | .cont env2 st2 => ∃ k', k' < k ∧ I k' env2 st2
      | .brk env2 st2 => N env2 st2
      | r => P r) else N env st1) (fun x st1 => P (.exc x env st1))) : (sWhile t f env st).wp N P := by
  have main : ∀ k env st, I k env st → ∃ n, (whileD t f n env st).wp N P := by
    intro k
    induction k using Nat.strongRecOn with
    | _ k ih =>
      intro env st h
      have s := step k env st h
      cases ht : t env st with
      | bad => rw [ht] at s; exact s.elim
      | exc x s' => rw [ht] at s; exact ⟨1, by simp only [whileD, ht, Res.andS]; exact s⟩
      | ok b s' =>
        rw [ht, wp_ok] at s
        cases b with
        | false => exact ⟨1, by simp only [whileD, ht, Res.andS]; exact s⟩
        | true =>
          rw [if_pos rfl] at s
          cases hb : f env s' with
          | next e2 s2 =>
            rw [hb] at s
            obtain ⟨k', hk, q⟩ := s
            obtain ⟨n, q⟩ := ih k' hk e2 s2 q
            exact ⟨n + 1, by simp only [whileD, ht, Res.andS, if_true, hb]; exact q⟩
          | cont e2 s2 =>
            rw [hb] at s
            obtain ⟨k', hk, q⟩ := s
            obtain ⟨n, q⟩ := ih k' hk e2 s2 q
            exact ⟨n + 1, by simp only [whileD, ht, Res.andS, if_true, hb]; exact q⟩
          | brk e2 s2 => rw [hb] at s; exact ⟨1, by simp only [whileD, ht, Res.andS, if_true, hb]; exact s⟩
          | ret d s2 => rw [hb] at s; exact ⟨1, by simp only [whileD, ht, Res.andS, if_true, hb]; exact s⟩
          | exc x e2 s2 => rw [hb] at s; exact ⟨1, by simp only [whileD, ht, Res.andS, if_true, hb]; exact s⟩
          | bad => rw [hb] at s; exact s.elim
  obtain ⟨n, q⟩ := main m env st h0
  have hn : whileD t f n env st ≠ .bad := fun e => by rw [e] at q; exact q
  rw [sWhile_of hn]; exact q
end
end Den

namespace Den
open PySem PySem.Spec PyProof.Rows L2
section
variable {st cs : Store} {env : Env} {Q : D → Store → Prop} {E : Xc → Store → Prop} {n : Nat} {d : D} {i j : Int}
theorem wk_slc {mk : List D → Store → Res D} {lo hi : Option Int} : (slD mk (.cell n) lo hi st).wp Q E = lfK st[n]? fun xs => (mk (cutD xs lo hi) st).wp Q E := by
  cases hs : st[n]? with
  | none => simp only [slD, asR, asL, hs, lfK, Option.bind_none, wp_bad]
  | some c =>
    cases c with
    | lst xs => simp only [slD, asR, asL, hs, lfK, Option.bind_some, asC]
    | fz d =>
      cases d with
      | lst xs => simp only [slD, asR, asL, hs, lfK, Option.bind_some, asC]
      | _ => simp only [slD, asR, asL, hs, lfK, Option.bind_some, asC, wp_bad]
    | _ => simp only [slD, asR, asL, hs, lfK, Option.bind_some, asC, wp_bad]
theorem beqI_f (h : ¬ i = j) : (i == j) = false := by simpa using h
theorem beqI_t (h : i = j) : (i == j) = true := by simpa using h
/-! tests that plain arithmetic settles -/
theorem le_yes {a b : Prop} (h : i ≤ j) : (if i ≤ j then a else b) = a := if_pos h
theorem le_no {a b : Prop} (h : ¬ i ≤ j) : (if i ≤ j then a else b) = b := if_neg h
theorem lt_yes {a b : Prop} (h : i < j) : (if i < j then a else b) = a := if_pos h
theorem lt_no {a b : Prop} (h : ¬ i < j) : (if i < j then a else b) = b := if_neg h
theorem eq_yes {a b : Prop} (h : i = j) : (if i = j then a else b) = a := if_pos h
theorem eq_no {a b : Prop} (h : ¬ i = j) : (if i = j then a else b) = b := if_neg h
theorem dle_yes (h : i ≤ j) : decide (i ≤ j) = true := decide_eq_true h
theorem dle_no (h : ¬ i ≤ j) : decide (i ≤ j) = false := decide_eq_false h
theorem dlt_yes (h : i < j) : decide (i < j) = true := decide_eq_true h
theorem dlt_no (h : ¬ i < j) : decide (i < j) = false := decide_eq_false h
end
end Den

namespace Den
open PySem PySem.Spec PyProof.Rows L2
section
variable {X : Cx} {G : Nat → Addr} {W : WX}
/-! ### isinstance against two classes of the program at once -/
end
section
variable {st : Store}
end
end Den

namespace Den
open PySem PySem.Spec PyProof.Rows L2
/-! ### starred targets: a list taken apart -/
section
variable {prog : Program} {w : World} {A : Around} {E : Value → Shared → Prop} {s : Shared}
end
section
variable {X : Cx} {G : Nat → Addr} {W : WX} {ws : List Nat}
/-- a, *b, c = xs -/
def gStar (gs : DenGs) (i n : Nat) : DenG := fun d env st => match asR st d with
  | some ds => if n ≤ ds.length + 1 ∧ ds.length ≤ 1000 then gs (ds.take i ++ [.lst ((ds.drop i).take (ds.length + 1 - n))] ++ (ds.drop i).drop (ds.length + 1 - n)) env st else none
  | none => none
end
end Den

namespace Den
open PySem PySem.Spec PyProof.Rows L2
section
variable {X : Cx} {G : Nat → Addr} {W : WX} {st : Store} {i j : Int}
theorem isub_ii : isubD (.int i) (.int j) st = .ok (.int (i - j)) st := id rfl
def ifdivD (d e : D) (st : Store) : Res D := match d, e with
  | .int i, .int j => if divOk j then .ok (.int (i / j)) st else .bad
  | _, _ => .bad
theorem ifdiv_ib (h : 0 < j) (h' : j.natAbs < 10 ^ 150 * 10 ^ 150) : ifdivD (.int i) (.int j) st = .ok (.int (i / j)) st := by simp only [ifdivD, divOk_big h h', if_true]
end
section
variable {env : Env} {st : Store} {N : Env → Store → Prop} {gs : DenGs} {d : D} {ds : List D}
theorem gwp_star1 (h : ds.length ≤ 900) : gwp (gStar gs 1 2 (.lst (d :: ds)) env st) N = gwp (gs [d, .lst ds] env st) N := by
  have e : 2 ≤ (d :: ds).length + 1 ∧ (d :: ds).length ≤ 1000 := by simp; omega
  simp only [gStar, asR, asL, e, and_self, if_true]
  congr 1
  simp
theorem gwp_star0 (h : ds.length ≤ 900) : gwp (gStar gs 0 2 (.lst (ds ++ [d])) env st) N = gwp (gs [.lst ds, d] env st) N := by
  have e : 2 ≤ (ds ++ [d]).length + 1 ∧ (ds ++ [d]).length ≤ 1000 := by simp; omega
  simp only [gStar, asR, asL, e, and_self, if_true]
  congr 1
  simp
end
end Den

namespace Den
/-! lists of a known length (by casesOn: a match of its own in each law's text would be larger) -/
section
variable {α : Type} {us : List α}
theorem len0 (h : us.length = 0) : us = [] := List.length_eq_zero_iff.mp h
theorem len1 (h : us.length = 1) : ∃ a1, us = [a1] := List.length_eq_one_iff.mp h
theorem len2 (h : us.length = 2) : ∃ a1 a2, us = [a1, a2] := by
  cases us with
  | nil => cases h
  | cons b us =>
    obtain ⟨a2, rfl⟩ := len1 (Nat.succ.inj h)
    exact ⟨b, a2, rfl⟩
theorem len3 (h : us.length = 3) : ∃ a1 a2 a3, us = [a1, a2, a3] := by
  cases us with
  | nil => cases h
  | cons b us =>
    obtain ⟨a2, a3, rfl⟩ := len2 (Nat.succ.inj h)
    exact ⟨b, a2, a3, rfl⟩
theorem len4 (h : us.length = 4) : ∃ a1 a2 a3 a4, us = [a1, a2, a3, a4] := by
  cases us with
  | nil => cases h
  | cons b us =>
    obtain ⟨a2, a3, a4, rfl⟩ := len3 (Nat.succ.inj h)
    exact ⟨b, a2, a3, a4, rfl⟩
end
end Den

namespace Den
open PySem PySem.Spec PyProof.Rows L2
/-! ### defs that may be called while something is shown -/
structure FnR (P : Program) (w : World) (K : PySem.W.Frag) (mg : Str → Option Value) (base : Heap) (G : Nat → Addr) (k : Nat) (f : Addr) (fd : FuncData) (ps : List Str) (g : Fn) : Prop where
  run : ∀ (A : Around) (outer : List PySem.Env) (s : Shared) (H : Hp) (args : Args) (us : List Value) (vs : List V) (Q : VK) (E : XK), GOk K A [] H s.heap → Room k A → Env0 P w K mg base A outer s H → BindsTo s fd args (ps.zip us) → Vals vs us → vs.length = ps.length →
    spD K G g vs H Q E → codeAny (model P w) A (.call (.ref f) args) (CR (L2.CX P w) outer P w H s Q E) s
theorem FnR.toG {P : Program} {w : World} {K : PySem.W.Frag} {mg : Str → Option Value} {base : Heap} {G : Nat → Addr} {k : Nat} {f : Addr} {fd : FuncData} {ps : List Str} {g : Fn} (F : FnR P w K mg base G k f fd ps g) : FnG P w K mg base G k f fd ps g :=
  ⟨fun A outer s H args us vs Q E hg => F.run A outer s H args us vs Q E (GOk.nil hg)⟩
theorem FnR.mono {P : Program} {w : World} {K : PySem.W.Frag} {mg : Str → Option Value} {base : Heap} {G : Nat → Addr} {j k : Nat} {f : Addr} {fd : FuncData} {ps : List Str} {g : Fn} (F : FnR P w K mg base G j f fd ps g) (h : j ≤ k) : FnR P w K mg base G k f fd ps g :=
  ⟨fun A outer s H args us vs Q E gd hr => F.run A outer s H args us vs Q E gd (hr.mono h)⟩
/-- the context of a def that keeps its guards and its room -/
structure CgR (k : Nat) (X : Cx) : Prop where
  gd : Gd X
  room : Room k X.A
  calm : X.calm = true
theorem CgR.units {k : Nat} {X : Cx} (c : CgR k X) : X.A.units + 64 < cLine := c.room.units
theorem CgR.units65 {k : Nat} {X : Cx} (c : CgR k X) : X.A.units + 65 < cLine := by have := c.room.un; omega
section
variable {P : Program} {w : World} {K : PySem.W.Frag} {mg : Str → Option Value} {base : Heap} {G : Nat → Addr}
end
section
variable {X : Cx} {G : Nat → Addr} {W : WX} {k : Nat} {f : Addr} {fd : FuncData} {ps : List Str} {g : Fn}
end
/-! ### methods that the interpreter calls -/
structure SpTR (X : Cx) (G : Nat → Addr) (name : Str) (k n : Nat) (disp : Nat → Option Fn) : Prop where
  at_ : ∀ c g, disp c = some g → ∃ f fd ps, PySem.W.findIn X.K (.ref (G c)) name = some (some (.ref f)) ∧ PySem.W.isFn X.K (.ref f) = true ∧ FnR X.prog X.w X.K X.mg X.base G k f fd ps g ∧ Binds X.K fd ps [] ∧ ps.length = n
section
variable {X : Cx} {G : Nat → Addr} {W : WX} {k : Nat}
end
section
variable {X : Cx} {G : Nat → Addr} {W : WX} {k a b n : Nat} {name : Str}
end
end Den

namespace Den
open PySem PySem.Spec PyProof.Rows L2
open Builtin Builtin.List
/-! ### repr of a list display that holds own objects -/
section
variable {prog : Program} {w : World} {A : Around} {E : Value → Shared → Prop} {s : Shared} {K : PySem.W.Frag} {x C L f : Addr} {h₀ : Heap} {m : Str → Option Value} {ox : Obj} {od : Option Obj} {b : Nat}
end
section
variable {X : Cx} {G : Nat → Addr} {W : WX} {k : Nat} {disp : Nat → Option Fn} {pins : List (Addr × Obj)} {σ : L2.St} {F : Hp} {ph : List Addr} {st st' : Store} {H : Hp} {s : Shared}
end
end Den

namespace Den
open PySem PySem.Spec PyProof.Rows L2
section
open PySem.SeqAt PySem.MeetsSeq
/-! ### a built-in thing declines == and != with an instance of a class of one's own -/
theorem int_eq_declines_inst (b : Int) (u : Tok) (x C dx : Addr) :
    Meets (Builtin.«int.__eq__» ⟨[.int b u, .ref x], []⟩) (fun _ R s => s.heap.get? x = some (PySem.W.instObj C dx) ∧ R (.ok (.ret .notImplemented)) s) :=
  .of_wp fun prog w A R s h => by obtain ⟨hp, g, d, tk, os⟩ := s; obtain ⟨hl, h⟩ := h; unfold PySem.W.instObj at hl; wp_walk using PySem.AutoSeq1.wpAny_loadPart' hl, wpAny_load hl; exact ⟨_, rfl, h⟩
theorem bool_eq_declines_inst (b : Bool) (x C dx : Addr) :
    Meets (Builtin.«int.__eq__» ⟨[.bool b, .ref x], []⟩) (fun _ R s => s.heap.get? x = some (PySem.W.instObj C dx) ∧ R (.ok (.ret .notImplemented)) s) :=
  .of_wp fun prog w A R s h => by obtain ⟨hp, g, d, tk, os⟩ := s; obtain ⟨hl, h⟩ := h; unfold PySem.W.instObj at hl; wp_walk using PySem.AutoSeq1.wpAny_loadPart' hl, wpAny_load hl; exact ⟨_, rfl, h⟩
theorem str_eq_declines_inst (b : Str) (u : Tok) (x C dx : Addr) :
    Meets (Builtin.«str.__eq__» ⟨[.str b u, .ref x], []⟩) (fun _ R s => s.heap.get? x = some (PySem.W.instObj C dx) ∧ R (.ok (.ret .notImplemented)) s) :=
  .of_wp fun prog w A R s h => by obtain ⟨hp, g, d, tk, os⟩ := s; obtain ⟨hl, h⟩ := h; unfold PySem.W.instObj at hl; wp_walk using PySem.AutoSeq1.wpAny_loadPart' hl, wpAny_load hl; exact ⟨_, rfl, h⟩
theorem int_ne_declines_inst (b : Int) (u : Tok) (x C dx : Addr) :
    Meets (Builtin.«int.__ne__» ⟨[.int b u, .ref x], []⟩) (fun _ R s => s.heap.get? x = some (PySem.W.instObj C dx) ∧ R (.ok (.ret .notImplemented)) s) :=
  .of_wp fun prog w A R s h => by obtain ⟨hp, g, d, tk, os⟩ := s; obtain ⟨hl, h⟩ := h; unfold PySem.W.instObj at hl; wp_walk using PySem.AutoSeq1.wpAny_loadPart' hl, wpAny_load hl; exact ⟨_, rfl, h⟩
theorem bool_ne_declines_inst (b : Bool) (x C dx : Addr) :
    Meets (Builtin.«int.__ne__» ⟨[.bool b, .ref x], []⟩) (fun _ R s => s.heap.get? x = some (PySem.W.instObj C dx) ∧ R (.ok (.ret .notImplemented)) s) :=
  .of_wp fun prog w A R s h => by obtain ⟨hp, g, d, tk, os⟩ := s; obtain ⟨hl, h⟩ := h; unfold PySem.W.instObj at hl; wp_walk using PySem.AutoSeq1.wpAny_loadPart' hl, wpAny_load hl; exact ⟨_, rfl, h⟩
theorem str_ne_declines_inst (b : Str) (u : Tok) (x C dx : Addr) :
    Meets (Builtin.«str.__ne__» ⟨[.str b u, .ref x], []⟩) (fun _ R s => s.heap.get? x = some (PySem.W.instObj C dx) ∧ R (.ok (.ret .notImplemented)) s) :=
  .of_wp fun prog w A R s h => by obtain ⟨hp, g, d, tk, os⟩ := s; obtain ⟨hl, h⟩ := h; unfold PySem.W.instObj at hl; wp_walk using PySem.AutoSeq1.wpAny_loadPart' hl, wpAny_load hl; exact ⟨_, rfl, h⟩
theorem list_eq_declines_x {prog : Program} {w : World} {x l : Addr} {items : Array Value} {n : Nat} {dd : Option Addr} {sl : Array (Option Value)} :
    MeetsIn prog w (Builtin.«list.__eq__» ⟨[.ref l, .ref x], []⟩) (fun A R s => PySem.W.Looks (model prog w) s.heap (isInstance (.ref x) (.type "list")) false ∧ s.heap.get? l = some { cls := .type "list", dict := dd, data := .seq items n, slots := sl } ∧ R (.ok (.ret .notImplemented)) s) :=
  .of_wp fun A R s h => by
    obtain ⟨hp, g, d, tk, os⟩ := s
    obtain ⟨hx, hl, h⟩ := h
    have hb : ∀ {A : Around} {Q : Bool → Shared → Prop} {E : Value → Shared → Prop}, Q false ⟨hp, g, d, tk, os⟩ → wpAny (model prog w) A (isInstance (.ref x) (.type "list")) Q E ⟨hp, g, d, tk, os⟩ := fun {A Q E} q => hx A Q E _ (fun _ _ z => z) q
    wp_walk using hb, wpAny_load hl
    exact ⟨_, rfl, h⟩
theorem list_ne_declines_x {prog : Program} {w : World} {x l : Addr} {items : Array Value} {n : Nat} {dd : Option Addr} {sl : Array (Option Value)} :
    MeetsIn prog w (Builtin.«list.__ne__» ⟨[.ref l, .ref x], []⟩) (fun A R s => PySem.W.Looks (model prog w) s.heap (isInstance (.ref x) (.type "list")) false ∧ s.heap.get? l = some { cls := .type "list", dict := dd, data := .seq items n, slots := sl } ∧ R (.ok (.ret .notImplemented)) s) :=
  .of_wp fun A R s h => by
    obtain ⟨hp, g, d, tk, os⟩ := s
    obtain ⟨hx, hl, h⟩ := h
    have hb : ∀ {A : Around} {Q : Bool → Shared → Prop} {E : Value → Shared → Prop}, Q false ⟨hp, g, d, tk, os⟩ → wpAny (model prog w) A (isInstance (.ref x) (.type "list")) Q E ⟨hp, g, d, tk, os⟩ := fun {A Q E} q => hx A Q E _ (fun _ _ z => z) q
    wp_walk using hb, wpAny_load hl
    exact ⟨_, rfl, h⟩
theorem tuple_eq_declines_x {prog : Program} {w : World} {x l : Addr} {items : Array Value} {n : Nat} {dd : Option Addr} {sl : Array (Option Value)} :
    MeetsIn prog w (Builtin.«tuple.__eq__» ⟨[.ref l, .ref x], []⟩) (fun A R s => PySem.W.Looks (model prog w) s.heap (isInstance (.ref x) (.type "tuple")) false ∧ s.heap.get? l = some { cls := .type "tuple", dict := dd, data := .seq items n, slots := sl } ∧ R (.ok (.ret .notImplemented)) s) :=
  .of_wp fun A R s h => by
    obtain ⟨hp, g, d, tk, os⟩ := s
    obtain ⟨hx, hl, h⟩ := h
    have hb : ∀ {A : Around} {Q : Bool → Shared → Prop} {E : Value → Shared → Prop}, Q false ⟨hp, g, d, tk, os⟩ → wpAny (model prog w) A (isInstance (.ref x) (.type "tuple")) Q E ⟨hp, g, d, tk, os⟩ := fun {A Q E} q => hx A Q E _ (fun _ _ z => z) q
    wp_walk using hb, wpAny_load hl
    exact ⟨_, rfl, h⟩
theorem tuple_ne_declines_x {prog : Program} {w : World} {x l : Addr} {items : Array Value} {n : Nat} {dd : Option Addr} {sl : Array (Option Value)} :
    MeetsIn prog w (Builtin.«tuple.__ne__» ⟨[.ref l, .ref x], []⟩) (fun A R s => PySem.W.Looks (model prog w) s.heap (isInstance (.ref x) (.type "tuple")) false ∧ s.heap.get? l = some { cls := .type "tuple", dict := dd, data := .seq items n, slots := sl } ∧ R (.ok (.ret .notImplemented)) s) :=
  .of_wp fun A R s h => by
    obtain ⟨hp, g, d, tk, os⟩ := s
    obtain ⟨hx, hl, h⟩ := h
    have hb : ∀ {A : Around} {Q : Bool → Shared → Prop} {E : Value → Shared → Prop}, Q false ⟨hp, g, d, tk, os⟩ → wpAny (model prog w) A (isInstance (.ref x) (.type "tuple")) Q E ⟨hp, g, d, tk, os⟩ := fun {A Q E} q => hx A Q E _ (fun _ _ z => z) q
    wp_walk using hb, wpAny_load hl
    exact ⟨_, rfl, h⟩
theorem dict_eq_declines_x {prog : Program} {w : World} {x l : Addr} {es : Array DictEntry} {ep : Nat} {dd : Option Addr} {sl : Array (Option Value)} :
    MeetsIn prog w (Builtin.«dict.__eq__» ⟨[.ref l, .ref x], []⟩) (fun A R s => PySem.W.Looks (model prog w) s.heap (isInstance (.ref x) (.type "dict")) false ∧ s.heap.get? l = some { cls := .type "dict", dict := dd, data := .dict es ep, slots := sl } ∧ R (.ok (.ret .notImplemented)) s) :=
  .of_wp fun A R s h => by
    obtain ⟨hp, g, d, tk, os⟩ := s
    obtain ⟨hx, hl, h⟩ := h
    have hb : ∀ {A : Around} {Q : Bool → Shared → Prop} {E : Value → Shared → Prop}, Q false ⟨hp, g, d, tk, os⟩ → wpAny (model prog w) A (isInstance (.ref x) (.type "dict")) Q E ⟨hp, g, d, tk, os⟩ := fun {A Q E} q => hx A Q E _ (fun _ _ z => z) q
    wp_walk using hb, wpAny_load hl
    exact ⟨_, rfl, h⟩
theorem dict_ne_declines_x {prog : Program} {w : World} {x l : Addr} {es : Array DictEntry} {ep : Nat} {dd : Option Addr} {sl : Array (Option Value)} :
    MeetsIn prog w (Builtin.«dict.__ne__» ⟨[.ref l, .ref x], []⟩) (fun A R s => PySem.W.Looks (model prog w) s.heap (isInstance (.ref x) (.type "dict")) false ∧ s.heap.get? l = some { cls := .type "dict", dict := dd, data := .dict es ep, slots := sl } ∧ R (.ok (.ret .notImplemented)) s) :=
  .of_wp fun A R s h => by
    obtain ⟨hp, g, d, tk, os⟩ := s
    obtain ⟨hx, hl, h⟩ := h
    have hb : ∀ {A : Around} {Q : Bool → Shared → Prop} {E : Value → Shared → Prop}, Q false ⟨hp, g, d, tk, os⟩ → wpAny (model prog w) A (isInstance (.ref x) (.type "dict")) Q E ⟨hp, g, d, tk, os⟩ := fun {A Q E} q => hx A Q E _ (fun _ _ z => z) q
    wp_walk using hb, wpAny_load hl
    exact ⟨_, rfl, h⟩
end
section
variable {prog : Program} {w : World} {A : Around} {E : Value → Shared → Prop} {s : Shared}
theorem rc_decl {M : Model} {op : CmpOp} {u : Value} {x C : Addr} {T id : String} {Q : Value → Shared → Prop} (hu : A.units < cLine) (ht : s.TypeIs u T) (hb : PySem.W.Looks M s.heap (typeOf (.ref x)) (.ref C)) (hsub : PySem.W.Looks M s.heap (isSubtype (.ref C) (.type T)) false)
    (h1 : Slot T (cmpInfo op).2.1 id) (hc : ∀ Q' : Value → Shared → Prop, Q' .notImplemented s → wpAny M A (call (.builtin id) [u, .ref x]) Q' E s)
    (hr : wpAny M A (tryCompare (.ref x) (cmpInfo op).2.2 u) (fun r s' => ∃ v, r = some v ∧ Q v s') E s) : wpAny M A (richCompare op u (.ref x)) Q E s := by
  rcases hi : cmpInfo op with ⟨sym, f, r⟩
  rw [hi] at h1 hr
  simp only [richCompare, hi, ht.oneThing_none]
  refine wpAny_holding (wpAny_bind (wpAny_cRoomFor hu ?_))
  refine wpAny_bind (wpAny_typeOf ht (wpAny_bind (hb.here ?_)))
  have hne : (Value.type T != Value.ref C) = true := rfl
  simp only [hne, if_true]
  refine wpAny_bind (hsub.here ?_)
  simp only [Bool.false_eq_true, if_false, Bool.not_false, if_true]
  refine wpAny_bind (m := tryCompare u _ (.ref x)) (wpAny_tryCompare_declines ht h1 (hc _ ⟨rfl, ?_⟩))
  refine wpAny_bind (wpAny_mono hr (fun r s' z => ?_) fun _ _ e => e)
  obtain ⟨v, rfl, hq⟩ := z
  exact wpAny_pure hq
theorem tryEq_K {M : Model} {K : PySem.W.Frag} {x C f : Addr} {ox : Obj} {od : Option Obj} {u : Value} {Q : Value → Shared → Prop} (X : K.In s.heap) (I : PySem.W.InstAt s.heap x ox C od)
    (hs : PySem.W.findIn K (.ref C) "__eq__" = some (some (.ref f))) (hf : PySem.W.isFn K (.ref f) = true)
    (h : wpAny M A (call (.ref f) [.ref x, u]) (PySem.W.CmpBack Q) E s) : wpAny M A (tryCompare (.ref x) "__eq__" u) (fun r s' => ∃ v, r = some v ∧ Q v s') E s := by
  unfold tryCompare
  refine wpAny_bind (PySem.W.ifBound_K X I hs hf (wpAny_mono h (fun v s' hv => ?_) fun _ _ e => e))
  cases v <;> first | exact hv.elim | exact wpAny_pure ⟨_, rfl, hv⟩
theorem tryNe_K {K : PySem.W.Frag} {x C f : Addr} {ox : Obj} {od : Option Obj} {u : Value} {Q : Value → Shared → Prop} (hu1 : A.in1.units < cLine) (X : K.In s.heap) (I : PySem.W.InstAt s.heap x ox C od)
    (hne : PySem.W.findIn K (.ref C) "__ne__" = some (some (.builtin "object.__ne__"))) (hob : PySem.W.subIn K (.ref C) (.type "object") = some true)
    (hs : PySem.W.findIn K (.ref C) "__eq__" = some (some (.ref f))) (hf : PySem.W.isFn K (.ref f) = true)
    (h : wpAny (model prog w) A.in1 (call (.ref f) [.ref x, u]) (fun v s' => ∃ r, v = .bool r ∧ Q (.bool (!r)) s') E s) : wpAny (model prog w) A (tryCompare (.ref x) "__ne__" u) (fun r s' => ∃ v, r = some v ∧ Q v s') E s := by
  have cl : wpAny (model prog w) A (call (.builtin "object.__ne__") [.ref x, u]) (fun v s' => ∃ r, v = .bool r ∧ Q (.bool r) s') E s := by
    refine wpAny_call (codeAny_call_builtin PySem.F.cmp_object.ne.plain PySem.F.cmpEntry_ne (checkB_K X I PySem.F.cmpKind_ne PySem.F.cmpSplit_ne (PySem.F.cmpArgs_ne _ _) hob ?_))
    unfold Builtin.«object.__ne__»
    refine wpAny_bind (m := slotArgs "__ne__" 1 _) (wpAny_pure ?_)
    refine wpAny_bind (wpAny_cRoomFor hu1 ?_)
    refine wpAny_bind (PySem.W.ifBound_K X I hs hf (wpAny_mono h (fun v s' hv => ?_) fun _ _ e => e))
    obtain ⟨r, rfl, hq⟩ := hv
    exact wpAny_bind (wpAny_pure (wpAny_pure ⟨_, rfl, hq⟩))
  unfold tryCompare
  refine wpAny_bind (ifBoundB_K (prog := prog) (w := w) X I hne (PySem.F.cmp_object.ne.bind _) (wpAny_mono cl (fun v s' hv => ?_) fun _ _ e => e))
  obtain ⟨r, rfl, hq⟩ := hv
  exact wpAny_pure ⟨_, rfl, hq⟩
end
section
open PySem.SeqAt PySem.MeetsSeq
def kdOf : D → Option String
  | .non => some "NoneType"
  | .bl _ => some "bool"
  | .int _ => some "int"
  | .str _ => some "str"
  | .lst _ => some "list"
  | .tup _ => some "tuple"
  | .dct _ => some "dict"
  | _ => none
def Decl (P : Program) (w : World) (s : Shared) (u : Value) (x : Addr) (T : String) : Prop := s.TypeIs u T ∧
  (∃ id, Slot T (cmpInfo .Eq).2.1 id ∧ ∀ (A : Around) (E : Value → Shared → Prop) (Q : Value → Shared → Prop), Q .notImplemented s → wpAny (model P w) A (call (.builtin id) [u, .ref x]) Q E s) ∧
  ∃ id, Slot T (cmpInfo .NotEq).2.1 id ∧ ∀ (A : Around) (E : Value → Shared → Prop) (Q : Value → Shared → Prop), Q .notImplemented s → wpAny (model P w) A (call (.builtin id) [u, .ref x]) Q E s
theorem decl_ok {X : Cx} {pins : List (Addr × Obj)} {σ : L2.St} {H : Hp} {s : Shared} {G : Nat → Addr} {F : Hp} {ph : List Addr} {st : Store} {d : D} {v : V} {u : Value} {x C dx : Addr} {T : String} (I : Inv X pins σ H s) (r : RelS X.K G F ph st H) (rv : R X.K G F ph d v) (ru : RelV v u)
    (hk : kdOf d = some T) (hx : s.heap.get? x = some (PySem.W.instObj C dx)) (hsub : PySem.W.subIn X.K (.ref C) (.type T) = some false) (hX : X.K.In s.heap) : Decl X.prog X.w s u x T := by
  have hs : PySem.W.Looks (model X.prog X.w) s.heap (isInstance (.ref x) (.type T)) false := by
    have t : PySem.W.Looks (model X.prog X.w) s.heap (typeOf (.ref x)) (.ref C) := (PySem.W.Looks.ld hx).andThen (by exact .now)
    exact t.andThen (PySem.W.looks_subIn hX hsub)
  cases d with
  | non =>
    cases hk
    simp only [R] at rv; subst rv
    cases ru
    exact ⟨rfl, ⟨_, PySem.F.slot_NoneType_eq, fun A E Q q => call_gives PySem.F.slot_NoneType_eq rfl PySem.F.entry_NoneType_eq (PySem.F.args_NoneType_eq_2 _ _) (NoneType___eq___none_ref_0 _) q⟩, ⟨_, PySem.F.slot_NoneType_ne, fun A E Q q => call_gives PySem.F.slot_NoneType_ne rfl PySem.F.entry_NoneType_ne (PySem.F.args_NoneType_ne_2 _ _) (NoneType___ne___none_ref_0 _) q⟩⟩
  | bl b =>
    cases hk
    simp only [R] at rv; subst rv
    cases ru
    exact ⟨rfl, ⟨_, PySem.F.slot_bool_eq, fun A E Q q => call_meets PySem.F.slot_bool_eq rfl PySem.F.entry_int_eq (PySem.F.args_int_eq_2 _ _) (bool_eq_declines_inst _ _ _ _) ⟨hx, q⟩⟩, ⟨_, PySem.F.slot_bool_ne, fun A E Q q => call_meets PySem.F.slot_bool_ne rfl PySem.F.entry_int_ne (PySem.F.args_int_ne_2 _ _) (bool_ne_declines_inst _ _ _ _) ⟨hx, q⟩⟩⟩
  | int b =>
    cases hk
    simp only [R] at rv; subst rv
    obtain ⟨t, rfl⟩ := ru
    exact ⟨typeIs_int s b t, ⟨_, PySem.F.slot_int_eq, fun A E Q q => call_meets PySem.F.slot_int_eq (typeIs_int s b t) PySem.F.entry_int_eq (PySem.F.args_int_eq_2 _ _) (int_eq_declines_inst _ _ _ _ _) ⟨hx, q⟩⟩, ⟨_, PySem.F.slot_int_ne, fun A E Q q => call_meets PySem.F.slot_int_ne (typeIs_int s b t) PySem.F.entry_int_ne (PySem.F.args_int_ne_2 _ _) (int_ne_declines_inst _ _ _ _ _) ⟨hx, q⟩⟩⟩
  | str b =>
    cases hk
    simp only [R] at rv; subst rv
    obtain ⟨t, rfl⟩ := ru
    exact ⟨typeIs_str s b t, ⟨_, PySem.F.slot_str_eq, fun A E Q q => call_meets PySem.F.slot_str_eq (typeIs_str s b t) PySem.F.entry_str_eq (PySem.F.args_str_eq_2 _ _) (str_eq_declines_inst _ _ _ _ _) ⟨hx, q⟩⟩, ⟨_, PySem.F.slot_str_ne, fun A E Q q => call_meets PySem.F.slot_str_ne (typeIs_str s b t) PySem.F.entry_str_ne (PySem.F.args_str_ne_2 _ _) (str_ne_declines_inst _ _ _ _ _) ⟨hx, q⟩⟩⟩
  | lst ds =>
    cases hk
    simp only [R] at rv
    obtain ⟨a, vs, rfl, h2, _⟩ := rv
    cases ru
    obtain ⟨its, rv', pl, hz⟩ := I.list (SqL.of (r.sub _ _ h2))
    obtain ⟨⟨oc, od, odt, osl⟩, n, ho, hc, hd, hdat⟩ := pl
    simp only at hc hd hdat
    subst hc hd hdat
    exact ⟨⟨_, ho, rfl⟩, ⟨_, PySem.F.slot_list_eq, fun A E Q q => call_meetsIn PySem.F.slot_list_eq ⟨_, ho, rfl⟩ PySem.F.entry_list_eq (PySem.F.args_list_eq_2 _ _) list_eq_declines_x ⟨hs, ho, q⟩⟩, ⟨_, PySem.F.slot_list_ne, fun A E Q q => call_meetsIn PySem.F.slot_list_ne ⟨_, ho, rfl⟩ PySem.F.entry_list_ne (PySem.F.args_list_ne_2 _ _) list_ne_declines_x ⟨hs, ho, q⟩⟩⟩
  | tup ds =>
    cases hk
    simp only [R] at rv
    obtain ⟨a, vs, rfl, h2, _⟩ := rv
    cases ru
    obtain ⟨its, rv', ht, _⟩ := I.tuple (SqT.of (r.sub _ _ h2))
    obtain ⟨⟨oc, od, odt, osl⟩, ho, hc, n, hdat⟩ := ht
    simp only at hc hdat
    subst hc hdat
    exact ⟨⟨_, ho, rfl⟩, ⟨_, PySem.F.slot_tuple_eq, fun A E Q q => call_meetsIn PySem.F.slot_tuple_eq ⟨_, ho, rfl⟩ PySem.F.entry_tuple_eq (PySem.F.args_tuple_eq_2 _ _) tuple_eq_declines_x ⟨hs, ho, q⟩⟩, ⟨_, PySem.F.slot_tuple_ne, fun A E Q q => call_meetsIn PySem.F.slot_tuple_ne ⟨_, ho, rfl⟩ PySem.F.entry_tuple_ne (PySem.F.args_tuple_ne_2 _ _) tuple_ne_declines_x ⟨hs, ho, q⟩⟩⟩
  | dct ds =>
    cases hk
    simp only [R] at rv
    obtain ⟨a, vs, rfl, h2, _⟩ := rv
    cases ru
    obtain ⟨z, hd, ws, rel, dd⟩ := dk_of I.hok (r.sub _ _ h2)
    obtain ⟨⟨oc, od, odt, osl⟩, es, ep, ho, hx', hdat, _⟩ := dd
    obtain ⟨hc, _⟩ := hx'
    simp only at hc hdat
    subst hc hdat
    exact ⟨⟨_, ho, rfl⟩, ⟨_, PySem.F.slot_dict_eq, fun A E Q q => call_meetsIn PySem.F.slot_dict_eq ⟨_, ho, rfl⟩ PySem.F.entry_dict_eq (PySem.F.args_dict_eq_2 _ _) dict_eq_declines_x ⟨hs, ho, q⟩⟩, ⟨_, PySem.F.slot_dict_ne, fun A E Q q => call_meetsIn PySem.F.slot_dict_ne ⟨_, ho, rfl⟩ PySem.F.entry_dict_ne (PySem.F.args_dict_ne_2 _ _) dict_ne_declines_x ⟨hs, ho, q⟩⟩⟩
  | _ => cases hk
end
/-! ### == and != of an instance and anything -/
abbrev kinds7 : List String := ["NoneType", "bool", "int", "str", "list", "tuple", "dict"]
theorem kdOf_mem {d : D} {T : String} (h : kdOf d = some T) : T ∈ kinds7 := by
  cases d <;> cases h <;> decide
structure MixT (X : Cx) (G : Nat → Addr) (disp : Nat → Option Fn) : Prop where
  at_ : ∀ c g, disp c = some g → ∀ T ∈ kinds7, PySem.W.subIn X.K (.ref (G c)) (.type T) = some false ∧ PySem.W.subIn X.K (.type T) (.ref (G c)) = some false
  two : ∀ c g c' g', disp c = some g → disp c' = some g' → c = c' ∨ PySem.W.subIn X.K (.ref (G c')) (.ref (G c)) = some false
def askX (disp : Nat → Option Fn) (f : Bool → Bool) (c : Nat) (d e : D) (st : Store) : Res D := match disp c with
  | some g => match g [d, e] st with
    | .ok (.bl b) st' => .ok (.bl (f b)) st'
    | _ => .bad
  | none => .bad
def mixX (disp : Nat → Option Fn) (f : Bool → Bool) (d e : D) (st : Store) : Res D := match insOf st d, insOf st e with
  | some (c, _), some (c', _) => if (disp c').isSome = true then askX disp f c d e st else .bad
  | some (c, _), none => if (kdOf e).isSome = true then askX disp f c d e st else .bad
  | none, some (c', _) => if (kdOf d).isSome = true then askX disp f c' e d st else .bad
  | none, none => .bad
section
variable {X : Cx} {G : Nat → Addr} {W : WX}
end
end Den

namespace Den
open PySem PySem.Spec PyProof.Rows L2
section
variable {X : Cx} {G : Nat → Addr} {W : WX}
theorem askX_want {disp : Nat → Option Fn} {f : Bool → Bool} {c : Nat} {d e : D} {st : Store} {K : PySem.W.Frag} {σ : L2.St} {env : Env} {Q : VK} {F : Hp} {ph : List Addr} {H : Hp} (w : want K G (R K G) W σ env Q F ph H (askX disp f c d e st)) :
    ∃ g b st', disp c = some g ∧ g [d, e] st = .ok (.bl b) st' ∧ want K G (R K G) W σ env Q F ph H (.ok (.bl (f b)) st') := by
  unfold askX at w
  split at w
  · rename_i g hg
    split at w
    · rename_i b st' hgo
      exact ⟨g, b, st', hg, hgo, w⟩
    · exact w.elim
  · exact w.elim
theorem looks_ty {M : Model} {s : Shared} {u : Value} {T : String} (h : s.TypeIs u T) : PySem.W.Looks M s.heap (typeOf u) (.type T) := by
  cases u with
  | ref a =>
    obtain ⟨o, ho, hc⟩ := h
    exact hc ▸ (PySem.W.Looks.ld ho).andThen .now
  | _ => exact PySem.W.Looks.of_pure h
theorem od_eqX {k : Nat} {disp : Nat → Option Fn} (T : SpT X G "__eq__" k 2 disp) (M : MixT X G disp) (gd : X.A.guards = some []) (hr : Room k X.A) : OpD X G W (compareOp .Eq) (mixX disp id) := by
  intro pins s σ H x y v u Q I rx ry ⟨σ', env, F, ph, st, d, e, r, rd, re, w⟩
  unfold mixX at w
  have kin := I.ok.mod.kin
  split at w
  · rename_i c fs c' fs' hi hi'
    split at w
    · rename_i hs
      obtain ⟨g, b, st', hg, hgo, w⟩ := askX_want w
      obtain ⟨g', hg'⟩ := Option.isSome_iff_exists.mp hs
      obtain ⟨a, dx, ws, rfl, h2, h3⟩ := insOf_ok r.s rd hi
      obtain ⟨a', dx', ws', rfl, h2', h3'⟩ := insOf_ok r.s re hi'
      cases rx
      cases ry
      obtain ⟨mA, J, _⟩ := ins_get I.hok h2
      obtain ⟨mB, J', _⟩ := ins_get I.hok h2'
      obtain ⟨od, J, _⟩ := J.look
      obtain ⟨od', J', _⟩ := J'.look
      obtain ⟨m, hF⟩ := I.fr
      have rds : Rs X.K G F ph [d, e] [.ref a, .ref a'] := by
        simp only [Rs]; exact ⟨_, _, rfl, rd, _, _, rfl, re, rfl⟩
      obtain ⟨f, f1, f2, f3⟩ := run_quiet (A := X.A) T hg gd rfl hr I (us := [.ref a, .ref a']) (vs := [.ref a, .ref a']) (.cons rfl (.cons rfl .nil)) rfl r.s rds hgo
      show wpAny (model X.prog X.w) X.A (richCompare .Eq (.ref a) (.ref a')) (EP X pins σ Q) X.xe s
      have nf : PySem.W.notFirst X.K (G c) (.ref (G c')) = true := by
        rcases M.two c g c' g' hg hg' with rfl | q
        · simp [PySem.W.notFirst]
        · simp [PySem.W.notFirst, q]
      refine PySem.W.cmp_K (op := .Eq) (tb := .ref (G c')) hr.units0 hF kin J J'.type nf f1 f2 (wpAny_mono f3 (fun z s' q => ?_) fun _ _ e => e)
      obtain ⟨v, H', I', rv', F', ph', ex, r', rd'⟩ := q
      simp only [R] at rd'
      subst rd'
      cases rv'
      exact ⟨.bl b, H', I', rfl, w F' ph' _ H' ex ⟨r', r.e.mono ex.x⟩ (by simp only [R]; rfl)⟩
    · exact w.elim
  · rename_i c fs hi hi'
    split at w
    · rename_i hs
      obtain ⟨g, b, st', hg, hgo, w⟩ := askX_want w
      obtain ⟨T', hT⟩ := Option.isSome_iff_exists.mp hs
      obtain ⟨a, dx, ws, rfl, h2, h3⟩ := insOf_ok r.s rd hi
      cases rx
      obtain ⟨mA, J, _⟩ := ins_get I.hok h2
      have ho := J.obj
      obtain ⟨od, J, _⟩ := J.look
      obtain ⟨m, hF⟩ := I.fr
      obtain ⟨m1, m2⟩ := M.at_ c g hg T' (kdOf_mem hT)
      have dc := decl_ok I r.s re ry hT ho m1 (kin.keeps hF.keep)
      have rds : Rs X.K G F ph [d, e] [.ref a, y] := by
        simp only [Rs]; exact ⟨_, _, rfl, rd, _, _, rfl, re, rfl⟩
      obtain ⟨f, f1, f2, f3⟩ := run_quiet (A := X.A) T hg gd rfl hr I (us := [.ref a, u]) (vs := [.ref a, y]) (.cons rfl (.cons ry .nil)) rfl r.s rds hgo
      show wpAny (model X.prog X.w) X.A (richCompare .Eq (.ref a) u) (EP X pins σ Q) X.xe s
      have nf : PySem.W.notFirst X.K (G c) (.type T') = true := by simp [PySem.W.notFirst, m2]
      refine PySem.W.cmp_K (op := .Eq) (tb := .type T') hr.units0 hF kin J (looks_ty dc.1) nf f1 f2 (wpAny_mono f3 (fun z s' q => ?_) fun _ _ e => e)
      obtain ⟨v, H', I', rv', F', ph', ex, r', rd'⟩ := q
      simp only [R] at rd'
      subst rd'
      cases rv'
      exact ⟨.bl b, H', I', rfl, w F' ph' _ H' ex ⟨r', r.e.mono ex.x⟩ (by simp only [R]; rfl)⟩
    · exact w.elim
  · rename_i c fs hi hi'
    split at w
    · rename_i hs
      obtain ⟨g, b, st', hg, hgo, w⟩ := askX_want w
      obtain ⟨T', hT⟩ := Option.isSome_iff_exists.mp hs
      obtain ⟨a, dx, ws, rfl, h2, h3⟩ := insOf_ok r.s re hi'
      cases ry
      obtain ⟨mA, J, _⟩ := ins_get I.hok h2
      have ho := J.obj
      obtain ⟨od, J, _⟩ := J.look
      obtain ⟨m, hF⟩ := I.fr
      obtain ⟨m1, m2⟩ := M.at_ c g hg T' (kdOf_mem hT)
      have kin' := kin.keeps hF.keep
      have dc := decl_ok I r.s rd rx hT ho m1 kin'
      have rds : Rs X.K G F ph [e, d] [.ref a, x] := by
        simp only [Rs]; exact ⟨_, _, rfl, re, _, _, rfl, rd, rfl⟩
      obtain ⟨f, f1, f2, f3⟩ := run_quiet (A := X.A) T hg gd rfl hr I (us := [.ref a, v]) (vs := [.ref a, x]) (.cons rfl (.cons rx .nil)) rfl r.s rds hgo
      show wpAny (model X.prog X.w) X.A (richCompare .Eq v (.ref a)) (EP X pins σ Q) X.xe s
      obtain ⟨i1, i2, i3⟩ := dc.2.1
      refine rc_decl hr.units0 dc.1 J.type (PySem.W.looks_subIn kin' m1) i2 (fun Q' q => i3 _ _ _ q) (tryEq_K kin' J f1 f2 (wpAny_mono f3 (fun z s' q => ?_) fun _ _ e => e))
      obtain ⟨v, H', I', rv', F', ph', ex, r', rd'⟩ := q
      simp only [R] at rd'
      subst rd'
      cases rv'
      exact ⟨.bl b, H', I', rfl, w F' ph' _ H' ex ⟨r', r.e.mono ex.x⟩ (by simp only [R]; rfl)⟩
    · exact w.elim
  · exact w.elim
theorem od_neX {k : Nat} {disp : Nat → Option Fn} (T : SpT X G "__eq__" k 2 disp) (M : MixT X G disp) (N : NeT X G disp) (gd : X.A.guards = some []) (hr : Room (k + 1) X.A) : OpD X G W (compareOp .NotEq) (mixX disp (!·)) := by
  intro pins s σ H x y v u Q I rx ry ⟨σ', env, F, ph, st, d, e, r, rd, re, w⟩
  unfold mixX at w
  have kin := I.ok.mod.kin
  split at w
  · rename_i c fs c' fs' hi hi'
    split at w
    · rename_i hs
      obtain ⟨g, b, st', hg, hgo, w⟩ := askX_want w
      obtain ⟨g', hg'⟩ := Option.isSome_iff_exists.mp hs
      obtain ⟨a, dx, ws, rfl, h2, h3⟩ := insOf_ok r.s rd hi
      obtain ⟨a', dx', ws', rfl, h2', h3'⟩ := insOf_ok r.s re hi'
      cases rx
      cases ry
      obtain ⟨mA, J, _⟩ := ins_get I.hok h2
      obtain ⟨mB, J', _⟩ := ins_get I.hok h2'
      obtain ⟨od, J, _⟩ := J.look
      obtain ⟨od', J', _⟩ := J'.look
      obtain ⟨m, hF⟩ := I.fr
      have rds : Rs X.K G F ph [d, e] [.ref a, .ref a'] := by
        simp only [Rs]; exact ⟨_, _, rfl, rd, _, _, rfl, re, rfl⟩
      obtain ⟨f, f1, f2, f3⟩ := run_quiet (A := X.A.in1) T hg gd rfl hr.in1 I (us := [.ref a, .ref a']) (vs := [.ref a, .ref a']) (.cons rfl (.cons rfl .nil)) rfl r.s rds hgo
      show wpAny (model X.prog X.w) X.A (richCompare .NotEq (.ref a) (.ref a')) (EP X pins σ Q) X.xe s
      have nf : PySem.W.notFirst X.K (G c) (.ref (G c')) = true := by
        rcases M.two c g c' g' hg hg' with rfl | q
        · simp [PySem.W.notFirst]
        · simp [PySem.W.notFirst, q]
      obtain ⟨n1, n2⟩ := N.at_ c g hg
      refine ne_K (tb := .ref (G c')) hr.units0 hr.in1.units0 hF kin J J'.type nf n1 n2 f1 f2 (wpAny_mono f3 (fun z s' q => ?_) fun _ _ e => e)
      obtain ⟨v, H', I', rv', F', ph', ex, r', rd'⟩ := q
      simp only [R] at rd'
      subst rd'
      cases rv'
      exact ⟨b, rfl, .bl (!b), H', I', rfl, w F' ph' _ H' ex ⟨r', r.e.mono ex.x⟩ (by simp only [R])⟩
    · exact w.elim
  · rename_i c fs hi hi'
    split at w
    · rename_i hs
      obtain ⟨g, b, st', hg, hgo, w⟩ := askX_want w
      obtain ⟨T', hT⟩ := Option.isSome_iff_exists.mp hs
      obtain ⟨a, dx, ws, rfl, h2, h3⟩ := insOf_ok r.s rd hi
      cases rx
      obtain ⟨mA, J, _⟩ := ins_get I.hok h2
      have ho := J.obj
      obtain ⟨od, J, _⟩ := J.look
      obtain ⟨m, hF⟩ := I.fr
      obtain ⟨m1, m2⟩ := M.at_ c g hg T' (kdOf_mem hT)
      have dc := decl_ok I r.s re ry hT ho m1 (kin.keeps hF.keep)
      have rds : Rs X.K G F ph [d, e] [.ref a, y] := by
        simp only [Rs]; exact ⟨_, _, rfl, rd, _, _, rfl, re, rfl⟩
      obtain ⟨f, f1, f2, f3⟩ := run_quiet (A := X.A.in1) T hg gd rfl hr.in1 I (us := [.ref a, u]) (vs := [.ref a, y]) (.cons rfl (.cons ry .nil)) rfl r.s rds hgo
      show wpAny (model X.prog X.w) X.A (richCompare .NotEq (.ref a) u) (EP X pins σ Q) X.xe s
      have nf : PySem.W.notFirst X.K (G c) (.type T') = true := by simp [PySem.W.notFirst, m2]
      obtain ⟨n1, n2⟩ := N.at_ c g hg
      refine ne_K (tb := .type T') hr.units0 hr.in1.units0 hF kin J (looks_ty dc.1) nf n1 n2 f1 f2 (wpAny_mono f3 (fun z s' q => ?_) fun _ _ e => e)
      obtain ⟨v, H', I', rv', F', ph', ex, r', rd'⟩ := q
      simp only [R] at rd'
      subst rd'
      cases rv'
      exact ⟨b, rfl, .bl (!b), H', I', rfl, w F' ph' _ H' ex ⟨r', r.e.mono ex.x⟩ (by simp only [R])⟩
    · exact w.elim
  · rename_i c fs hi hi'
    split at w
    · rename_i hs
      obtain ⟨g, b, st', hg, hgo, w⟩ := askX_want w
      obtain ⟨T', hT⟩ := Option.isSome_iff_exists.mp hs
      obtain ⟨a, dx, ws, rfl, h2, h3⟩ := insOf_ok r.s re hi'
      cases ry
      obtain ⟨mA, J, _⟩ := ins_get I.hok h2
      have ho := J.obj
      obtain ⟨od, J, _⟩ := J.look
      obtain ⟨m, hF⟩ := I.fr
      obtain ⟨m1, m2⟩ := M.at_ c g hg T' (kdOf_mem hT)
      have kin' := kin.keeps hF.keep
      have dc := decl_ok I r.s rd rx hT ho m1 kin'
      have rds : Rs X.K G F ph [e, d] [.ref a, x] := by
        simp only [Rs]; exact ⟨_, _, rfl, re, _, _, rfl, rd, rfl⟩
      obtain ⟨f, f1, f2, f3⟩ := run_quiet (A := X.A.in1) T hg gd rfl hr.in1 I (us := [.ref a, v]) (vs := [.ref a, x]) (.cons rfl (.cons rx .nil)) rfl r.s rds hgo
      show wpAny (model X.prog X.w) X.A (richCompare .NotEq v (.ref a)) (EP X pins σ Q) X.xe s
      obtain ⟨i1, i2, i3⟩ := dc.2.2
      obtain ⟨n1, n2⟩ := N.at_ c g hg
      refine rc_decl hr.units0 dc.1 J.type (PySem.W.looks_subIn kin' m1) i2 (fun Q' q => i3 _ _ _ q) (tryNe_K hr.in1.units0 kin' J n1 n2 f1 f2 (wpAny_mono f3 (fun z s' q => ?_) fun _ _ e => e))
      obtain ⟨v, H', I', rv', F', ph', ex, r', rd'⟩ := q
      simp only [R] at rd'
      subst rd'
      cases rv'
      exact ⟨b, rfl, .bl (!b), H', I', rfl, w F' ph' _ H' ex ⟨r', r.e.mono ex.x⟩ (by simp only [R])⟩
    · exact w.elim
  · exact w.elim
end
/-! plain rules -/
section
variable {st : Store} {Q : D → Store → Prop} {E : Xc → Store → Prop} {disp : Nat → Option Fn} {f : Bool → Bool} {d e : D} {c c' : Nat} {fs fs' : List (Str × D)} {g g' : Fn} {b : Bool}
theorem mixX_two (hi : insOf st d = some (c, fs)) (hi' : insOf st e = some (c', fs')) (hd : disp c = some g) (hd' : disp c' = some g') (h : g [d, e] st = .ok (.bl b) st) : mixX disp f d e st = .ok (.bl (f b)) st := by
  simp only [mixX, askX, hi, hi', hd, hd', Option.isSome_some, if_true, h]
theorem mixX_left {T : String} (hi : insOf st d = some (c, fs)) (hi' : insOf st e = none) (hk : kdOf e = some T) (hd : disp c = some g) (h : g [d, e] st = .ok (.bl b) st) : mixX disp f d e st = .ok (.bl (f b)) st := by
  simp only [mixX, askX, hi, hi', hd, hk, Option.isSome_some, if_true, h]
theorem mixX_right {T : String} (hi : insOf st d = none) (hi' : insOf st e = some (c, fs)) (hk : kdOf d = some T) (hd : disp c = some g) (h : g [e, d] st = .ok (.bl b) st) : mixX disp f d e st = .ok (.bl (f b)) st := by
  simp only [mixX, askX, hi, hi', hd, hk, Option.isSome_some, if_true, h]
end
/-! the facts of two classes -/
abbrev MixAt (K : PySem.W.Frag) (C : Addr) : Prop := ∀ T ∈ kinds7, PySem.W.subIn K (.ref C) (.type T) = some false ∧ PySem.W.subIn K (.type T) (.ref C) = some false
theorem mixAt_mk {K : PySem.W.Frag} {C : Addr} (a0 : PySem.W.subIn K (.ref C) (.type "NoneType") = some false) (a1 : PySem.W.subIn K (.ref C) (.type "bool") = some false) (a2 : PySem.W.subIn K (.ref C) (.type "int") = some false) (a3 : PySem.W.subIn K (.ref C) (.type "str") = some false) (a4 : PySem.W.subIn K (.ref C) (.type "list") = some false) (a5 : PySem.W.subIn K (.ref C) (.type "tuple") = some false) (a6 : PySem.W.subIn K (.ref C) (.type "dict") = some false)
    (b0 : PySem.W.subIn K (.type "NoneType") (.ref C) = some false) (b1 : PySem.W.subIn K (.type "bool") (.ref C) = some false) (b2 : PySem.W.subIn K (.type "int") (.ref C) = some false) (b3 : PySem.W.subIn K (.type "str") (.ref C) = some false) (b4 : PySem.W.subIn K (.type "list") (.ref C) = some false) (b5 : PySem.W.subIn K (.type "tuple") (.ref C) = some false) (b6 : PySem.W.subIn K (.type "dict") (.ref C) = some false) : MixAt K C := by
  intro T h
  simp only [List.mem_cons, List.not_mem_nil, or_false] at h
  rcases h with rfl | rfl | rfl | rfl | rfl | rfl | rfl
  · exact ⟨a0, b0⟩
  · exact ⟨a1, b1⟩
  · exact ⟨a2, b2⟩
  · exact ⟨a3, b3⟩
  · exact ⟨a4, b4⟩
  · exact ⟨a5, b5⟩
  · exact ⟨a6, b6⟩
theorem mixT2 {X : Cx} {G : Nat → Addr} {g g' : Fn} {a b : Nat} (ha : MixAt X.K (G a)) (hb : MixAt X.K (G b)) (hab : PySem.W.subIn X.K (.ref (G b)) (.ref (G a)) = some false) (hba : PySem.W.subIn X.K (.ref (G a)) (.ref (G b)) = some false) : MixT X G (fun c => if c = a then some g else if c = b then some g' else none) := by
  refine ⟨fun c h e => ?_, fun c h c' h' e e' => ?_⟩
  · split at e
    · rename_i z; rw [z]; exact ha
    · split at e
      · rename_i z; rw [z]; exact hb
      · cases e
  · split at e
    · rename_i z
      split at e'
      · rename_i z'; exact .inl (z.trans z'.symm)
      · split at e'
        · rename_i z'; rw [z, z']; exact .inr hab
        · cases e'
    · split at e
      · rename_i z
        split at e'
        · rename_i z'; rw [z, z']; exact .inr hba
        · split at e'
          · rename_i z'; exact .inl (z.trans z'.symm)
          · cases e'
      · cases e
end Den

namespace Q
open PySem PySem.Spec PyProof.Rows L2 Den
noncomputable section
def denis_whole : Fn := fnD true 1 (
    sRet (eAnd (eArgs (isi2 (isTy "int") (isaB "int")) (aCons (eVar 0) (aCons (eK (.ty "int")) aNil))) (eNot (eArgs (isi2 (isTy "bool") (isaB "bool")) (aCons (eVar 0) (aCons (eK (.ty "bool")) aNil))))))
def denis_base : Fn := fnD true 1 (
    sRet (eAnd (eArgs denis_whole (aCons (eVar 0) aNil)) (eChain leD leD (eK (.int 2)) (eVar 0) (eK (.int 1000000)))))
def denis_grains : Fn := fnD true 1 (
    sRet (eAnd (eArgs denis_whole (aCons (eVar 0) aNil)) (eBin geD (eVar 0) (eK (.int 0)))))
def denis_name : Fn := fnD true 2 (
    sSeq (sIf (tOrD (tNotD (tOf (eArgs (isi2 (isTy "str") (isaB "str")) (aCons (eVar 0) (aCons (eK (.ty "str")) aNil))))) (tNotD (tOf (eChain leD leD (eK (.int 1)) (eArgs lenD (aCons (eVar 0) aNil)) (eK (.int 8)))))) (sRet (eK (.bl false))) sNext)
    (sRet (eArgs (allD fun bs => bs.all id) (aCons (eLc okL (iS (eVar 0)) (gN 1) tYesD (eBin inD (eVar 1) (eK (.str "abcdefghijklmnopqrstuvwxyz"))) [1]) aNil))))
def denis_jar : Fn := fnD true 4 (
    sSeq (sIf (tOrD (tNotD (tOf (eArgs (isi2 (isTy "tuple") (isaB "tuple")) (aCons (eVar 0) (aCons (eK (.ty "tuple")) aNil))))) (tOf (eBin neD (eArgs lenD (aCons (eVar 0) aNil)) (eK (.int 3))))) (sRet (eK (.bl false))) sNext)
    (sSeq (sAsg (eVar 0) (gT (gsCons (gN 1) (gsCons (gN 2) (gsCons (gN 3) gsNil))) 3))
    (sRet (eAnd (eArgs denis_name (aCons (eVar 1) aNil)) (eAnd (eArgs denis_base (aCons (eVar 2) aNil)) (eArgs denis_grains (aCons (eVar 3) aNil)))))))
def den_law_take : Fn := fnD true 3 (
    sSeq (sIf (tOf (eBin gtD (eBin ixD (eVar 0) (eK (.int 0))) (eK (.int 0)))) (sSeq (sAsg (eArgs divmodD (aCons (eBin ixD (eVar 0) (eK (.int 0))) (aCons (eVar 1) aNil))) (gT (gsCons (gSubD (eVar 0) (eK (.int 0))) (gsCons (gN 2) gsNil)) 2))
    (sRet (eVar 2))) sNext)
    (sSeq (sAsg (eBin modD (eBin addD (eBin mulD (eBin ixD (eVar 0) (eK (.int 1))) (eK (.int 48271))) (eK (.int 12347))) (eK (.int 2147483647))) (gSubD (eVar 0) (eK (.int 1))))
    (sRet (eBin modD (eBin fdivD (eBin modD (eBin mulD (eBin ixD (eVar 0) (eK (.int 1))) (eBin ixD (eVar 0) (eK (.int 1)))) (eK (.int 2147483579))) (eK (.int 13))) (eVar 1)))))
def den_law_among : Fn := fnD true 2 (
    sRet (eBin ixD (eVar 1) (eArgs den_law_take (aCons (eVar 0) (aCons (eArgs lenD (aCons (eVar 1) aNil)) aNil)))))
def den_law_pot_C : Fn := fnD false 3 (
    sSeq (sAsg (eIf (tOf (eBin ltD (eVar 1) (eArgs lenD (aCons (eVar 0) aNil)))) (eArgs absD (aCons (eBin ixD (eVar 0) (eVar 1)) aNil)) (eK (.int 0))) (gN 2))
    (sRet (eArgs mkC (aCons (eArgs max2D (aCons (eK (.int 0)) (aCons (eBin subD (eVar 2) (eBin powD (eK (.int 10)) (eK (.int 18)))) aNil))) (aCons (eBin addD (eBin addD (eBin modD (eVar 2) (eK (.int 2147483563))) (eBin mulD (eK (.int 977)) (eVar 1))) (eK (.int 1))) aNil)))))
def den_law_heap : Fn := fnD true 4 (
    sSeq (sAsg (eArgs max2D (aCons (eK (.int 0)) (aCons (eBin subD (eBin addD (eBin mulD (eVar 1) (eArgs den_law_take (aCons (eVar 0) (aCons (eK (.int 5)) aNil)))) (eArgs den_law_take (aCons (eVar 0) (aCons (eK (.int 3)) aNil)))) (eK (.int 1))) aNil))) (gN 2))
    (sSeq (sAsg (eArgs den_law_take (aCons (eVar 0) (aCons (eBin powD (eK (.int 10)) (eK (.int 60))) aNil))) (gN 3))
    (sRet (eArgs den_law_among (aCons (eVar 0) (aCons (eArgs mkL (aCons (eK (.int 0)) (aCons (eArgs den_law_take (aCons (eVar 0) (aCons (eVar 1) aNil))) (aCons (eBin subD (eVar 1) (eK (.int 1))) (aCons (eVar 2) (aCons (eArgs den_law_take (aCons (eVar 0) (aCons (eBin mulD (eVar 1) (eK (.int 40))) aNil))) (aCons (eVar 3) aNil))))))) aNil))))))
def den_law_label : Fn := fnD true 9 (
    sSeq (sAsg (eK (.str "abcdefghijklmnopqrstuvwxyz")) (gN 2))
    (sSeq (sAsg (eBin ixD (eArgs mkL (aCons (eK (.int 1)) (aCons (eK (.int 1)) (aCons (eK (.int 2)) (aCons (eBin addD (eK (.int 1)) (eArgs den_law_take (aCons (eVar 0) (aCons (eK (.int 8)) aNil)))) aNil))))) (eArgs den_law_take (aCons (eVar 0) (aCons (eK (.int 4)) aNil)))) (gN 3))
    (sSeq (sAsg (eM "str" joinD (eK (.str "")) (aCons (eLc okL (iR1 (aCons (eVar 3) aNil)) (gN 6) tYesD (eBin ixD (eVar 2) (eArgs den_law_take (aCons (eVar 0) (aCons (eK (.int 26)) aNil)))) [6]) aNil)) (gN 4))
    (sSeq (sAsg (eBin addD (eArgs mkL (aCons (eVar 4) aNil)) (eLc okL (iS (eVar 2)) (gN 7) tYesD (eBin addD (eSl okL (eVar 4) oNone (oSome (eK (.int 7)))) (eVar 7)) [7])) (gN 5))
    (sRet (eBin ixD (eLc okL (iL (eVar 5)) (gN 8) (tOf (eBin notInD (eVar 8) (eVar 1))) (eVar 8) [8]) (eK (.int 0))))))))
def den_law_size : Fn := fnD true 2 (
    sSeq (sAsg (eBin mulD (eBin addD (eK (.int 2)) (eArgs den_law_take (aCons (eVar 0) (aCons (eK (.int 9)) aNil)))) (eBin addD (eK (.int 2)) (eArgs den_law_take (aCons (eVar 0) (aCons (eK (.int 9)) aNil))))) (gN 1))
    (sRet (eBin ixD (eArgs mkL (aCons (eK (.int 2)) (aCons (eBin addD (eK (.int 2)) (eArgs den_law_take (aCons (eVar 0) (aCons (eK (.int 6)) aNil)))) (aCons (eVar 1) (aCons (eBin addD (eK (.int 2)) (eArgs den_law_take (aCons (eVar 0) (aCons (eBin subD (eBin powD (eK (.int 10)) (eK (.int 6))) (eK (.int 1))) aNil)))) aNil))))) (eArgs den_law_take (aCons (eVar 0) (aCons (eK (.int 4)) aNil))))))
def den_law_row : Fn := fnD true 6 (
    sSeq (sPar 2 3 (aCons (eArgs mkC aNil) (aCons (eArgs mkC aNil) aNil)))
    (sSeq (sFor (iR1 (aCons (eBin ixD (eArgs mkL (aCons (eK (.int 1)) (aCons (eK (.int 2)) (aCons (eK (.int 3)) (aCons (eBin addD (eK (.int 1)) (eArgs den_law_take (aCons (eVar 0) (aCons (eVar 1) aNil)))) aNil))))) (eArgs den_law_take (aCons (eVar 0) (aCons (eK (.int 4)) aNil)))) aNil)) (gN 4) (sSeq (sExpr (eM "list" appendD (eVar 2) (aCons (eArgs den_law_label (aCons (eVar 0) (aCons (eVar 2) aNil))) aNil)))
    (sSeq (sAsg (eArgs den_law_size (aCons (eVar 0) aNil)) (gN 5))
    (sExpr (eM "list" appendD (eVar 3) (aCons (eArgs mkT (aCons (eBin ixD (eVar 2) (eUn negD (eK (.int 1)))) (aCons (eVar 5) (aCons (eArgs den_law_heap (aCons (eVar 0) (aCons (eVar 5) aNil))) aNil)))) aNil))))))
    (sRet (eFrz (eVar 3)))))
def denShape_names : Fn := fnD true 4 (
    sRet (eLc okL (iT (eFld "own_jars" (fun c => c == 22 || c == 23) (eVar 0))) (gT (gsCons (gN 1) (gsCons (gN 2) (gsCons (gN 3) gsNil))) 3) tYesD (eVar 1) [1, 2, 3]))
def denShape_has : Fn := fnD true 2 (
    sRet (eAnd (eArgs (isi2 (isTy "str") (isaB "str")) (aCons (eVar 1) (aCons (eK (.ty "str")) aNil))) (eBin inD (eVar 1) (eMeth "names" (fun c => if c = 22 then some (fun ds es st => denShape_names ds st) else if c = 23 then some (fun ds es st => denShape_names ds st) else none) (eVar 0) aNil aNil))))
def denShape_place : Fn := fnD true 2 (
    sSeq (sIf (tNotD (tOf (eMeth "has" (fun c => if c = 22 then some (fun ds es st => denShape_has ds st) else if c = 23 then some (fun ds es st => denShape_has ds st) else none) (eVar 0) (aCons (eVar 1) aNil) aNil))) sBad sNext)
    (sRet (eM "list" indexD (eMeth "names" (fun c => if c = 22 then some (fun ds es st => denShape_names ds st) else if c = 23 then some (fun ds es st => denShape_names ds st) else none) (eVar 0) aNil aNil) (aCons (eVar 1) aNil))))
def denRound_jars : Fn := fnD true 3 (
    sSeq (sAsg (eIf (tOf (eBin isND (eVar 1) (eK .non))) (eK (.int 0)) (eMeth "place" (fun c => if c = 22 then some (fun ds es st => denShape_place ds st) else none) (eVar 0) (aCons (eVar 1) aNil) aNil)) (gN 2))
    (sRet (eArgs (listD okL) (aCons (eBin addD (eSl okL (eFld "own_jars" (fun c => c == 22) (eVar 0)) (oSome (eVar 2)) oNone) (eSl okL (eFld "own_jars" (fun c => c == 22) (eVar 0)) oNone (oSome (eVar 2)))) aNil))))
def denRound_jars_C : Fn := fnD false 3 (
    sSeq (sAsg (eIf (tOf (eBin isND (eVar 1) (eK .non))) (eK (.int 0)) (eMeth "place" (fun c => if c = 22 then some (fun ds es st => denShape_place ds st) else none) (eVar 0) (aCons (eVar 1) aNil) aNil)) (gN 2))
    (sRet (eArgs (listD okC) (aCons (eBin addD (eSl okL (eFld "own_jars" (fun c => c == 22) (eVar 0)) (oSome (eVar 2)) oNone) (eSl okL (eFld "own_jars" (fun c => c == 22) (eVar 0)) oNone (oSome (eVar 2)))) aNil))))
def denShape_len : Fn := fnD true 1 (
    sRet (eArgs lenD (aCons (eFld "own_jars" (fun c => c == 22 || c == 23) (eVar 0)) aNil)))
def denShape_jars : Fn := fnD true 1 (
    sRet (eArgs (listD okL) (aCons (eFld "own_jars" (fun c => c == 22 || c == 23) (eVar 0)) aNil)))
def denShape_jars_C : Fn := fnD false 1 (
    sRet (eArgs (listD okC) (aCons (eFld "own_jars" (fun c => c == 22 || c == 23) (eVar 0)) aNil)))
def denRow_tray : Fn := fnD true 1 (
    sRet (eFld "own_tray" (fun c => c == 23) (eVar 0)))
def den_law_turned : Fn := fnD true 6 (
    sSeq (sAsg (eLc okL (iL (eVar 0)) (gT (gsCons (gN 3) (gsCons (gN 4) (gsCons (gN 5) gsNil))) 3) tYesD (eVar 3) [3, 4, 5]) (gN 1))
    (sSeq (sAsg (eM "list" indexD (eVar 1) (aCons (eArgs minSD (aCons (eVar 1) aNil)) aNil)) (gN 2))
    (sRet (eBin addD (eSl okL (eVar 0) (oSome (eVar 2)) oNone) (eSl okL (eVar 0) oNone (oSome (eVar 2)))))))
def denwant_jars : Fn := fnD true 4 (
    sSeq (sIf (tOrD (tNotD (tOf (eArgs (isi3 "list" "tuple") (aCons (eVar 0) (aCons (eArgs mkT (aCons (eK (.ty "list")) (aCons (eK (.ty "tuple")) aNil))) aNil))))) (tNotD (tOf (eChain leD leD (eK (.int 1)) (eArgs lenD (aCons (eVar 0) aNil)) (eK (.int 12)))))) sBad sNext)
    (sSeq (sAsg (eArgs mkC aNil) (gN 1))
    (sFor (iEA (aCons (eVar 0) aNil)) (gT (gsCons (gN 2) (gsCons (gN 3) gsNil)) 2) (sSeq (sIf (tOrD (tNotD (tOf (eArgs denis_jar (aCons (eVar 3) aNil)))) (tOf (eBin inD (eBin ixD (eVar 3) (eK (.int 0))) (eVar 1)))) sBad sNext)
    (sExpr (eM "list" appendD (eVar 1) (aCons (eBin ixD (eVar 3) (eK (.int 0))) aNil)))))))
def denShape_init : Fn := fnD true 2 (
    sSeq (sExpr (eHide (eArgs denwant_jars (aCons (eVar 1) aNil))))
    (sFldD "own_jars" (fun c => c == 22 || c == 23) (eVar 0) (eArgs tupleD (aCons (eVar 1) aNil))))
def denRound_init : Fn := fnD true 2 (
    sSeq (sExpr (eCall (fun ds es st => denShape_init ds st) (aCons (eVar 0) (aCons (eVar 1) aNil)) aNil))
    (sFldD "own_jars" (fun c => c == 22) (eVar 0) (eArgs tupleD (aCons (eMeth "jars" (fun c => if c = 22 then some (fun ds es st => denRound_jars (ds ++ (es ++ [])) st) else none) (eVar 0) aNil (aCons (eArgs minSD (aCons (eMeth "names" (fun c => if c = 22 then some (fun ds es st => denShape_names ds st) else none) (eVar 0) aNil aNil) aNil)) aNil)) aNil))))
def denRow_init : Fn := fnD true 3 (
    sSeq (sExpr (eCall (fun ds es st => denShape_init ds st) (aCons (eVar 0) (aCons (eVar 1) aNil)) aNil))
    (sSeq (sIf (tNotD (tOf (eArgs denis_grains (aCons (eVar 2) aNil)))) sBad sNext)
    (sFldD "own_tray" (fun c => c == 23) (eVar 0) (eVar 2))))
def denRound_eq : Fn := fnD true 2 (
    sRet (eAnd (eArgs (isi2 (isCl 22) (isaC [(22, true), (23, false)])) (aCons (eVar 1) (aCons (eK (.cls 22)) aNil))) (eBin eqD (eMeth "jars" (fun c => if c = 22 then some (fun ds es st => denRound_jars (ds ++ (es ++ [.non])) st) else none) (eVar 0) aNil aNil) (eMeth "jars" (fun c => if c = 22 then some (fun ds es st => denRound_jars (ds ++ (es ++ [.non])) st) else if c = 23 then some (fun ds es st => denShape_jars ds st) else none) (eVar 1) aNil aNil))))
def denRow_eq : Fn := fnD true 2 (
    sRet (eAnd (eArgs (isi2 (isCl 23) (isaC [(22, false), (23, true)])) (aCons (eVar 1) (aCons (eK (.cls 23)) aNil))) (eBin eqD (eArgs mkT (aCons (eMeth "jars" (fun c => if c = 23 then some (fun ds es st => denShape_jars ds st) else none) (eVar 0) aNil aNil) (aCons (eMeth "tray" (fun c => if c = 23 then some (fun ds es st => denRow_tray ds st) else none) (eVar 0) aNil aNil) aNil))) (eArgs mkT (aCons (eMeth "jars" (fun c => if c = 22 then some (fun ds es st => denRound_jars (ds ++ (es ++ [.non])) st) else if c = 23 then some (fun ds es st => denShape_jars ds st) else none) (eVar 1) aNil aNil) (aCons (eMeth "tray" (fun c => if c = 23 then some (fun ds es st => denRow_tray ds st) else none) (eVar 1) aNil aNil) aNil))))))
def denRound_repr : Fn := fnD true 1 (
    sRet (jsD [eK (.str "Round("), eUn reprF (eMeth "jars" (fun c => if c = 22 then some (fun ds es st => denRound_jars (ds ++ (es ++ [.non])) st) else none) (eVar 0) aNil aNil), eK (.str ")")] Str.empty))
def denjar_text : Fn := fnD true 2 (
    sRet (eM "str" joinD (eK (.str ":")) (aCons (eLc okL (iT (eVar 0)) (gN 1) tYesD (eArgs strD (aCons (eVar 1) aNil)) [1]) aNil)))
def denShape_jars_text : Fn := fnD true 2 (
    sRet (eM "str" joinD (eK (.str "")) (aCons (eLc okL (iT (eFld "own_jars" (fun c => c == 22 || c == 23) (eVar 0))) (gN 1) tYesD (eBin addD (eK (.str " ")) (eArgs denjar_text (aCons (eVar 1) aNil))) [1]) aNil)))
def denRound_str : Fn := fnD true 1 (
    sRet (jsD [eK (.str "round"), eUn fmtD (eMeth "jars_text" (fun c => if c = 22 then some (fun ds es st => denShape_jars_text ds st) else none) (eVar 0) aNil aNil)] Str.empty))
def denRow_repr : Fn := fnD true 1 (
    sRet (jsD [eK (.str "Row("), eUn reprF (eMeth "jars" (fun c => if c = 23 then some (fun ds es st => denShape_jars ds st) else none) (eVar 0) aNil aNil), eK (.str ", tray="), eUn reprF (eMeth "tray" (fun c => if c = 23 then some (fun ds es st => denRow_tray ds st) else none) (eVar 0) aNil aNil), eK (.str ")")] Str.empty))
def denRow_str : Fn := fnD true 1 (
    sRet (jsD [eK (.str "row "), eUn fmtD (eMeth "tray" (fun c => if c = 23 then some (fun ds es st => denRow_tray ds st) else none) (eVar 0) aNil aNil), eUn fmtD (eMeth "jars_text" (fun c => if c = 23 then some (fun ds es st => denShape_jars_text ds st) else none) (eVar 0) aNil aNil)] Str.empty))
def denshape_made : Fn := fnD true 2 (
    sRet (eIf (tOf (eBin isND (eVar 1) (eK .non))) (eCall (newI 22 (fun ds es st => denRound_init ds st)) (aCons (eVar 0) aNil) aNil) (eCall (newI 23 (fun ds es st => denRow_init (ds ++ (es ++ [])) st)) (aCons (eVar 0) aNil) (aCons (eVar 1) aNil))))
def dentray_in : Fn := fnD true 1 (
    sRet (eIf (tOf (eArgs (isi2 (isCl 23) (isaC [(22, false), (23, true)])) (aCons (eVar 0) (aCons (eK (.cls 23)) aNil)))) (eMeth "tray" (fun c => if c = 23 then some (fun ds es st => denRow_tray ds st) else none) (eVar 0) aNil aNil) (eK .non)))
def denwith_more : Fn := fnD true 8 (
    sSeq (sAsg (eMeth "place" (fun c => if c = 22 then some (fun ds es st => denShape_place ds st) else if c = 23 then some (fun ds es st => denShape_place ds st) else none) (eVar 0) (aCons (eVar 1) aNil) aNil) (gN 3))
    (sSeq (sAsg (eMeth "jars" (fun c => if c = 22 then some (fun ds es st => denRound_jars_C (ds ++ (es ++ [.non])) st) else if c = 23 then some (fun ds es st => denShape_jars_C ds st) else none) (eVar 0) aNil aNil) (gN 4))
    (sSeq (sAsg (eBin ixD (eVar 4) (eVar 3)) (gT (gsCons (gN 5) (gsCons (gN 6) (gsCons (gN 7) gsNil))) 3))
    (sSeq (sAsg (eArgs mkT (aCons (eVar 5) (aCons (eVar 6) (aCons (eBin addD (eVar 7) (eVar 2)) aNil)))) (gSubD (eVar 4) (eVar 3)))
    (sRet (eArgs denshape_made (aCons (eVar 4) (aCons (eArgs dentray_in (aCons (eVar 0) aNil)) aNil))))))))
def denwant_row : Fn := fnD true 1 (
    sIf (tNotD (tOf (eArgs (isi2 (isCl 23) (isaC [(22, false), (23, true)])) (aCons (eVar 0) (aCons (eK (.cls 23)) aNil))))) sBad sNext)
def denwith_last_more : Fn := fnD true 2 (
    sRet (eMeth "jars" (fun c => if c = 22 then some (fun ds es st => denRound_jars (ds ++ (es ++ [.non])) st) else if c = 23 then some (fun ds es st => denShape_jars ds st) else none) (eArgs denwith_more (aCons (eVar 0) (aCons (eBin ixD (eMeth "names" (fun c => if c = 22 then some (fun ds es st => denShape_names ds st) else if c = 23 then some (fun ds es st => denShape_names ds st) else none) (eVar 0) aNil aNil) (eUn negD (eK (.int 1)))) (aCons (eVar 1) aNil)))) aNil aNil))
def denput : Fn := fnD true 3 (
    sSeq (sExpr (eArgs denwant_row (aCons (eVar 0) aNil)))
    (sSeq (sExpr (eArgs denwant_row (aCons (eVar 1) aNil)))
    (sSeq (sFor (iL (eMeth "names" (fun c => if c = 22 then some (fun ds es st => denShape_names ds st) else if c = 23 then some (fun ds es st => denShape_names ds st) else none) (eVar 1) aNil aNil)) (gN 2) (sIf (tOf (eMeth "has" (fun c => if c = 22 then some (fun ds es st => denShape_has ds st) else if c = 23 then some (fun ds es st => denShape_has ds st) else none) (eVar 0) (aCons (eVar 2) aNil) aNil)) sBad sNext))
    (sSeq (sIf (tOf (eBin gtD (eBin addD (eArgs (lenDO (fun c => if c = 22 then some denShape_len else if c = 23 then some denShape_len else none)) (aCons (eVar 0) aNil)) (eArgs (lenDO (fun c => if c = 22 then some denShape_len else if c = 23 then some denShape_len else none)) (aCons (eVar 1) aNil))) (eK (.int 12)))) sBad sNext)
    (sRet (eCall (newI 23 (fun ds es st => denRow_init (ds ++ (es ++ [])) st)) (aCons (eBin addD (eArgs denwith_last_more (aCons (eVar 0) (aCons (eMeth "tray" (fun c => if c = 23 then some (fun ds es st => denRow_tray ds st) else none) (eVar 1) aNil aNil) aNil))) (eMeth "jars" (fun c => if c = 22 then some (fun ds es st => denRound_jars (ds ++ (es ++ [.non])) st) else if c = 23 then some (fun ds es st => denShape_jars ds st) else none) (eVar 1) aNil aNil)) aNil) (aCons (eMeth "tray" (fun c => if c = 23 then some (fun ds es st => denRow_tray ds st) else none) (eVar 0) aNil aNil) aNil)))))))
def den_law_alike : Fn := fnD true 4 (
    sSeq (sAsg (eArgs mkL (aCons (eBin (mixX (fun c => if c = 22 then some denRound_eq else if c = 23 then some denRow_eq else none) id) (eVar 0) (eVar 1)) (aCons (eBin (mixX (fun c => if c = 22 then some denRound_eq else if c = 23 then some denRow_eq else none) id) (eVar 1) (eVar 0)) (aCons (eBin (mixX (fun c => if c = 22 then some denRound_eq else if c = 23 then some denRow_eq else none) (!·)) (eVar 0) (eVar 1)) (aCons (eBin (mixX (fun c => if c = 22 then some denRound_eq else if c = 23 then some denRow_eq else none) (!·)) (eVar 1) (eVar 0)) aNil))))) (gN 3))
    (sRet (eBin eqD (eArgs reprD (aCons (eVar 3) aNil)) (eArgs reprD (aCons (eArgs mkL (aCons (eVar 2) (aCons (eVar 2) (aCons (eNot (eVar 2)) (aCons (eNot (eVar 2)) aNil))))) aNil)))))
def den_law_are_alike : Fn := fnD true 7 (
    sSeq (sAsg (eVar 1) (gT (gsCons (gN 4) (gsCons (gN 5) gsNil)) 2))
    (sSeq (sIf (tNotD (tOf (eArgs den_law_alike (aCons (eBin ixD (eVar 0) (eK (.int 0))) (aCons (eCall (newI 22 (fun ds es st => denRound_init ds st)) (aCons (eVar 4) aNil) aNil) (aCons (eBin eqD (eArgs den_law_turned (aCons (eVar 2) aNil)) (eArgs den_law_turned (aCons (eVar 4) aNil))) aNil)))))) (sRet (eK (.bl false))) sNext)
    (sSeq (sIf (tNotD (tOf (eArgs den_law_alike (aCons (eBin ixD (eVar 0) (eK (.int 1))) (aCons (eCall (newI 23 (fun ds es st => denRow_init (ds ++ (es ++ [])) st)) (aCons (eVar 4) aNil) (aCons (eVar 5) aNil)) (aCons (eAnd (eBin eqD (eVar 2) (eVar 4)) (eBin eqD (eVar 3) (eVar 5))) aNil)))))) (sRet (eK (.bl false))) sNext)
    (sSeq (sIf (tOrD (tNotD (tOf (eArgs den_law_alike (aCons (eBin ixD (eVar 0) (eK (.int 0))) (aCons (eBin ixD (eVar 0) (eK (.int 1))) (aCons (eK (.bl false)) aNil)))))) (tNotD (tOf (eArgs den_law_alike (aCons (eBin ixD (eVar 0) (eK (.int 0))) (aCons (eCall (newI 23 (fun ds es st => denRow_init (ds ++ (es ++ [.int 0])) st)) (aCons (eArgs den_law_turned (aCons (eVar 2) aNil)) aNil) aNil) (aCons (eK (.bl false)) aNil))))))) (sRet (eK (.bl false))) sNext)
    (sSeq (sFor (iL (eArgs mkL (aCons (eK .non) (aCons (eK (.int 0)) (aCons (eArgs lenD (aCons (eVar 2) aNil)) (aCons (eArgs (listD okL) (aCons (eVar 2) aNil)) (aCons (eArgs tupleD (aCons (eVar 2) aNil)) (aCons (eArgs (txtO (fun c => if c = 22 then some denRound_str else if c = 23 then some denRow_str else none) strD) (aCons (eBin ixD (eVar 0) (eK (.int 0))) aNil)) (aCons (eArgs (txtO (fun c => if c = 22 then some denRound_repr else if c = 23 then some denRow_repr else none) reprD) (aCons (eBin ixD (eVar 0) (eK (.int 1))) aNil)) (aCons (eBin ixD (eVar 2) (eK (.int 0))) (aCons (eK (.bl true)) (aCons (eArgs mkL aNil) (aCons (eK (.str "")) (aCons (eK (.dct [])) aNil)))))))))))))) (gN 6) (sIf (tOrD (tNotD (tOf (eArgs den_law_alike (aCons (eBin ixD (eVar 0) (eK (.int 0))) (aCons (eVar 6) (aCons (eK (.bl false)) aNil)))))) (tNotD (tOf (eArgs den_law_alike (aCons (eBin ixD (eVar 0) (eK (.int 1))) (aCons (eVar 6) (aCons (eK (.bl false)) aNil))))))) (sRet (eK (.bl false))) sNext))
    (sRet (eK (.bl true))))))))
def den_law_figures : Fn := fnD true 4 (
    sSeq (sPar 1 2 (aCons (eK (.str "")) (aCons (eVar 0) aNil)))
    (sSeq (sWhile (tOf (eBin gtD (eVar 2) (eK (.int 9)))) (sSeq (sAsg (eArgs divmodD (aCons (eVar 2) (aCons (eK (.int 10)) aNil))) (gT (gsCons (gN 2) (gsCons (gN 3) gsNil)) 2))
    (sAsg (eBin addD (eBin ixD (eK (.str "0123456789")) (eVar 3)) (eVar 1)) (gN 1))))
    (sRet (eBin addD (eBin ixD (eK (.str "0123456789")) (eVar 2)) (eVar 1)))))
def den_law_words : Fn := fnD true 4 (
    sRet (eLc okL (iL (eVar 0)) (gT (gsCons (gN 1) (gsCons (gN 2) (gsCons (gN 3) gsNil))) 3) tYesD (eBin addD (eBin addD (eBin addD (eBin addD (eVar 1) (eK (.str ":"))) (eArgs den_law_figures (aCons (eVar 2) aNil))) (eK (.str ":"))) (eArgs den_law_figures (aCons (eVar 3) aNil))) [1, 2, 3]))
def den_law_are_shown : Fn := fnD true 7 (
    sSeq (sPar 3 4 (aCons (eArgs den_law_turned (aCons (eVar 1) aNil)) (aCons (eArgs den_law_words (aCons (eVar 1) aNil)) aNil)))
    (sSeq (sAsg (eArgs mkL (aCons (eArgs (txtO (fun c => if c = 22 then some denRound_str else if c = 23 then some denRow_str else none) strD) (aCons (eBin ixD (eVar 0) (eK (.int 0))) aNil)) (aCons (eArgs (txtO (fun c => if c = 22 then some denRound_str else if c = 23 then some denRow_str else none) strD) (aCons (eBin ixD (eVar 0) (eK (.int 1))) aNil)) (aCons (eArgs (txtO (fun c => if c = 22 then some denRound_repr else if c = 23 then some denRow_repr else none) reprD) (aCons (eBin ixD (eVar 0) (eK (.int 0))) aNil)) (aCons (eArgs (txtO (fun c => if c = 22 then some denRound_repr else if c = 23 then some denRow_repr else none) reprD) (aCons (eBin ixD (eVar 0) (eK (.int 1))) aNil)) aNil))))) (gN 5))
    (sSeq (sAsg (eArgs mkL (aCons (eM "str" joinD (eK (.str " ")) (aCons (eBin addD (eArgs mkL (aCons (eK (.str "round")) aNil)) (eArgs den_law_words (aCons (eVar 3) aNil))) aNil)) (aCons (eM "str" joinD (eK (.str " ")) (aCons (eBin addD (eArgs mkL (aCons (eK (.str "row")) (aCons (eArgs den_law_figures (aCons (eVar 2) aNil)) aNil))) (eVar 4)) aNil)) aNil))) (gN 6))
    (sRet (eBin eqD (eVar 5) (eBin addD (eVar 6) (eArgs mkL (aCons (eBin addD (eBin addD (eK (.str "Round(")) (eArgs reprD (aCons (eVar 3) aNil))) (eK (.str ")"))) (aCons (eBin addD (eBin addD (eBin addD (eBin addD (eK (.str "Row(")) (eArgs reprD (aCons (eVar 1) aNil))) (eK (.str ", tray="))) (eArgs reprD (aCons (eVar 2) aNil))) (eK (.str ")"))) aNil)))))))))
def den_law_otherwise : Fn := fnD true 9 (
    sSeq (sPar 2 3 (aCons (eArgs den_law_take (aCons (eVar 0) (aCons (eK (.int 8)) aNil))) (aCons (eArgs den_law_take (aCons (eVar 0) (aCons (eArgs lenD (aCons (eVar 1) aNil)) aNil))) aNil)))
    (sSeq (sAsg (eBin ixD (eVar 1) (eVar 3)) (gT (gsCons (gN 4) (gsCons (gN 5) (gsCons (gN 6) gsNil))) 3))
    (sSeq (sIf (tOf (eBin eqD (eVar 2) (eK (.int 0)))) (sAsg (eArgs mkT (aCons (eVar 4) (aCons (eVar 5) (aCons (eIf (tOf (eBin ltD (eVar 6) (eK (.int 5)))) (eBin addD (eVar 6) (eK (.int 1))) (eBin subD (eVar 6) (eK (.int 1)))) aNil)))) (gN 7)) (sIf (tOf (eBin eqD (eVar 2) (eK (.int 1)))) (sAsg (eArgs mkT (aCons (eVar 4) (aCons (eIf (tOf (eBin ltD (eVar 5) (eBin powD (eK (.int 10)) (eK (.int 6))))) (eBin addD (eVar 5) (eK (.int 1))) (eK (.int 2))) (aCons (eVar 6) aNil)))) (gN 7)) (sIf (tOf (eBin eqD (eVar 2) (eK (.int 2)))) (sAsg (eArgs mkT (aCons (eArgs den_law_label (aCons (eVar 0) (aCons (eLc okL (iL (eVar 1)) (gN 8) tYesD (eBin ixD (eVar 8) (eK (.int 0))) [8]) aNil))) (aCons (eVar 5) (aCons (eVar 6) aNil)))) (gN 7)) (sIf (tAndD (tOf (eBin eqD (eVar 2) (eK (.int 3)))) (tOf (eBin gtD (eArgs lenD (aCons (eVar 1) aNil)) (eK (.int 1))))) (sRet (eBin addD (eSl okL (eVar 1) oNone (oSome (eVar 3))) (eSl okL (eVar 1) (oSome (eBin addD (eVar 3) (eK (.int 1)))) oNone))) (sIf (tOf (eBin eqD (eVar 2) (eK (.int 4)))) (sRet (eBin addD (eSl okL (eVar 1) (oSome (eVar 3)) oNone) (eSl okL (eVar 1) oNone (oSome (eVar 3))))) (sIf (tOf (eBin eqD (eVar 2) (eK (.int 5)))) (sRet (eUn revD (eVar 1))) (sIf (tAndD (tOf (eBin eqD (eVar 2) (eK (.int 6)))) (tOf (eBin ltD (eBin addD (eVar 3) (eK (.int 1))) (eArgs lenD (aCons (eVar 1) aNil))))) (sRet (eBin addD (eBin addD (eSl okL (eVar 1) oNone (oSome (eVar 3))) (eArgs mkL (aCons (eBin ixD (eVar 1) (eBin addD (eVar 3) (eK (.int 1)))) (aCons (eBin ixD (eVar 1) (eVar 3)) aNil)))) (eSl okL (eVar 1) (oSome (eBin addD (eVar 3) (eK (.int 2)))) oNone))) (sAsg (eArgs mkT (aCons (eVar 4) (aCons (eVar 5) (aCons (eBin fdivD (eVar 6) (eK (.int 2))) aNil)))) (gN 7)))))))))
    (sRet (eBin addD (eBin addD (eSl okL (eVar 1) oNone (oSome (eVar 3))) (eArgs mkL (aCons (eVar 7) aNil))) (eSl okL (eVar 1) (oSome (eBin addD (eVar 3) (eK (.int 1)))) oNone))))))
def denlaw_37 : Fn := fnD true 12 (
    sSeq (sFor (iR1 (aCons (eArgs max2D (aCons (eK (.int 1)) (aCons (eArgs min2D (aCons (eK (.int 6)) (aCons (eArgs lenD (aCons (eVar 0) aNil)) aNil))) aNil))) aNil)) (gN 1) (sSeq (sAsg (eArgs den_law_pot_C (aCons (eVar 0) (aCons (eVar 1) aNil))) (gN 2))
    (sSeq (sAsg (eArgs den_law_row (aCons (eVar 2) (aCons (eK (.int 12)) aNil))) (gN 3))
    (sSeq (sPar 4 5 (aCons (eArgs den_law_take (aCons (eVar 2) (aCons (eArgs lenD (aCons (eVar 3) aNil)) aNil))) (aCons (eArgs den_law_heap (aCons (eVar 2) (aCons (eK (.int 3)) aNil))) aNil)))
    (sSeq (sAsg (eArgs mkL (aCons (eCall (newI 22 (fun ds es st => denRound_init ds st)) (aCons (eVar 3) aNil) aNil) (aCons (eCall (newI 23 (fun ds es st => denRow_init (ds ++ (es ++ [])) st)) (aCons (eVar 3) aNil) (aCons (eVar 5) aNil)) aNil))) (gN 6))
    (sSeq (sFor (iR1 (aCons (eK (.int 3)) aNil)) (gN 7) (sSeq (sAsg (eBin ixD (eArgs mkL (aCons (eVar 5) (aCons (eBin fdivD (eVar 5) (eK (.int 2))) (aCons (eIf (tOf (eBin ltD (eVar 5) (eK (.int 7)))) (eBin addD (eVar 5) (eK (.int 1))) (eBin subD (eVar 5) (eK (.int 1)))) aNil)))) (eArgs den_law_take (aCons (eVar 2) (aCons (eK (.int 3)) aNil)))) (gN 8))
    (sSeq (sIf (tNotD (tOf (eArgs den_law_are_shown (aCons (eVar 6) (aCons (eVar 3) (aCons (eVar 5) aNil)))))) (sRet (eK (.bl false))) sNext)
    (sIf (tNotD (tOf (eArgs den_law_are_alike (aCons (eVar 6) (aCons (eArgs mkT (aCons (eArgs den_law_otherwise (aCons (eVar 2) (aCons (eVar 3) aNil))) (aCons (eVar 8) aNil))) (aCons (eVar 3) (aCons (eVar 5) aNil))))))) (sRet (eK (.bl false))) sNext))))
    (sSeq (sAsg (eArgs mkL (aCons (eCall (newI 22 (fun ds es st => denRound_init ds st)) (aCons (eBin addD (eSl okL (eVar 3) (oSome (eVar 4)) oNone) (eSl okL (eVar 3) oNone (oSome (eVar 4)))) aNil) aNil) (aCons (eCall (newI 23 (fun ds es st => denRow_init (ds ++ (es ++ [])) st)) (aCons (eArgs (listD okL) (aCons (eVar 3) aNil)) aNil) (aCons (eVar 5) aNil)) aNil))) (gN 9))
    (sIf (tNotD (tOf (eArgs (allD fun bs => bs.all id) (aCons (eLc okL (iZ (aCons (eVar 6) (aCons (eVar 9) aNil))) (gT (gsCons (gN 10) (gsCons (gN 11) gsNil)) 2) tYesD (eArgs den_law_alike (aCons (eVar 10) (aCons (eVar 11) (aCons (eK (.bl true)) aNil)))) [10, 11]) aNil)))) (sRet (eK (.bl false))) sNext))))))))
    (sRet (eK (.bl true))))
end
end Q

namespace Q
open PySem PySem.Spec PyProof.Rows L2 Den
/-! ### jars, shapes as data -/
abbrev J3 := Str × Int × Int
def jD (t : J3) : D := .tup [.str t.1, .int t.2.1, .int t.2.2]
def own (ts : List J3) : D := .tup (ts.map jD)
def rowL (ts : List J3) : D := .lst (ts.map jD)
def nms (ts : List J3) : List Str := ts.map (·.1)
theorem lo_jars (n : Nat) : ∀ ts : List J3, loS n (ts.map jD) = true
  | [] => rfl
  | t :: ts => by simp only [List.map_cons, loS, jD, D.lo, lo_jars n ts, Bool.and_self]
theorem lo_strs (n : Nat) : ∀ ts : List Str, loS n (ts.map D.str) = true
  | [] => rfl
  | t :: ts => by simp only [List.map_cons, loS, D.lo, lo_strs n ts, Bool.and_self]
theorem lo_jD (n : Nat) (t : J3) : D.lo n (jD t) = true := id rfl
theorem lo_own (n : Nat) (ts : List J3) : D.lo n (own ts) = true := by unfold own; rw [lo_tup, lo_jars]
theorem lo_rowL (n : Nat) (ts : List J3) : D.lo n (rowL ts) = true := by unfold rowL; rw [lo_lst, lo_jars]
inductive Shp where
  | rd (ts : List J3)
  | rw (ts : List J3) (tr : Int)
def Shp.js : Shp → List J3
  | .rd ts => ts
  | .rw ts _ => ts
def shD : Shp → D
  | .rd ts => .ins 22 [("own_jars", own ts)]
  | .rw ts tr => .ins 23 [("own_jars", own ts), ("own_tray", .int tr)]
theorem lo_sh (n : Nat) (s : Shp) : D.lo n (shD s) = true := by cases s <;> simp only [shD, lo_ins, loF_cons, loF_nil, lo_own, lo_int, Bool.and_self]
/-- an object (made, or being made) with these jars -/
structure HasJ (st : Store) (d : D) (c : Nat) (fs : List (Str × D)) (ts : List J3) : Prop where
  at_ : insOf st d = some (c, fs)
  kind : c = 22 ∨ c = 23
  own : fs.lookup ("own_jars" : Str) = some (own ts)
  no : ∀ m : Str, m ≠ "own_jars" → m ≠ "own_tray" → fs.lookup m = none

section
variable {st : Store} {ts : List J3} {i : Int}
theorem lstK_rowL {k : List D → Prop} : lstK (rowL ts) k = k (ts.map jD) := id rfl
theorem sqK_rowL {k : List D → Prop} : sqK (rowL ts) k = k (ts.map jD) := id rfl
theorem tupK_own {k : List D → Prop} : tupK (own ts) k = k (ts.map jD) := id rfl
theorem len_rowL : lenD [rowL ts] st = .ok (.int ts.length) st := by unfold rowL; rw [len_lst, List.length_map]
theorem len_own : lenD [own ts] st = .ok (.int ts.length) st := by unfold own; rw [len_tup, List.length_map]
theorem ix_rowL : ixD (rowL ts) (.int i) st = ofO ((L2.atI ts i).map jD) st := by unfold rowL; rw [ix_lstE, atI_map]
theorem ix_own : ixD (own ts) (.int i) st = ofO ((L2.atI ts i).map jD) st := by unfold own; rw [ix_tupE, atI_map]
theorem sl_rowL {mk : List D → Store → Res D} {lo hi : Option Int} : slD mk (rowL ts) lo hi st = mk (Den.cutD (ts.map jD) lo hi) st := id rfl
theorem tup_rowL : tupleD [rowL ts] st = .ok (own ts) st := id rfl
theorem list_rowL {mk : List D → Store → Res D} : listD mk [rowL ts] st = mk (ts.map jD) st := id rfl
theorem list_own {mk : List D → Store → Res D} : listD mk [own ts] st = mk (ts.map jD) st := id rfl
end
/-! ### names -/
def Lb (x : Str) : Prop := ∃ cs : List Nat, x = SX.S cs ∧ 1 ≤ cs.length ∧ cs.length ≤ 8 ∧ ∀ c ∈ cs, 97 ≤ c ∧ c ≤ 122
theorem Lb.fit {x : Str} (h : Lb x) : strFit x = true := by
  obtain ⟨cs, rfl, _, _, h⟩ := h
  simp only [strFit, List.all_eq_true, decide_eq_true_eq]
  intro c hc
  have := h c (by simpa [SX.S] using hc)
  omega
theorem Lb.lay {x : Str} (h : Lb x) : PyData.canLay0 (.str x) = true := strFit_lay h.fit
theorem Lb.len {x : Str} (h : Lb x) : x.length ≤ 8 := by
  obtain ⟨cs, rfl, _, h8, _⟩ := h
  rw [SX.S_len]; exact h8
structure JsB (B : Int) (ts : List J3) : Prop where
  lb : ∀ t ∈ ts, Lb t.1
  b2 : ∀ t ∈ ts, 2 ≤ t.2.1
  b6 : ∀ t ∈ ts, t.2.1 ≤ 1000000
  g0 : ∀ t ∈ ts, 0 ≤ t.2.2
  gB : ∀ t ∈ ts, t.2.2 < B
  nd : (nms ts).Nodup
  pos : 1 ≤ ts.length
  le : ts.length ≤ 12
theorem JsB.mono {B B' : Int} {ts : List J3} (h : JsB B ts) (hb : B ≤ B') : JsB B' ts := ⟨h.lb, h.b2, h.b6, h.g0, fun t ht => Int.lt_of_lt_of_le (h.gB t ht) hb, h.nd, h.pos, h.le⟩
theorem nms_len {ts : List J3} : (nms ts).length = ts.length := by simp [nms]
theorem mem_nms {ts : List J3} {x : Str} : x ∈ nms ts ↔ ∃ t ∈ ts, t.1 = x := by simp [nms]
theorem JsB.lbn {B : Int} {ts : List J3} (h : JsB B ts) : ∀ x ∈ nms ts, Lb x := fun x hx => by
  obtain ⟨t, ht, rfl⟩ := mem_nms.mp hx; exact h.lb t ht
theorem in_strsG {st : Store} {used : D} {us : List Str} {x : Str} (hu : toPy st used = some (.list (us.map .str))) (hx : strFit x = true) (hus : ∀ x ∈ us, strFit x = true) : inD (.str x) used st = .ok (.bl (us.contains x)) st := by
  have h := notIn_strs (x := x) hu (strFit_lay hx) fun y hy => strFit_lay (hus y hy)
  unfold notInD at h
  unfold inD
  cases e : inB (.str x) used st with
  | none => rw [e] at h; cases h
  | some b =>
    rw [e] at h
    simp only [Res.ok.injEq, D.bl.injEq, and_true] at h
    rw [← Bool.not_inj h]
theorem in_strs {st : Store} {us : List Str} {x : Str} (hx : strFit x = true) (hus : ∀ x ∈ us, strFit x = true) : inD (.str x) (.lst (us.map .str)) st = .ok (.bl (us.contains x)) st :=
  in_strsG (by simp only [toPyC, toPyCs_strs, Option.map_some]) hx hus
theorem toPy_cell {st : Store} {n : Nat} {us : List Str} (h : st[n]? = some (.lst (us.map .str))) : toPy st (.cell n) = some (.list (us.map .str)) := by
  simp only [toPyC, cel0, h, Option.bind_some, asC, toPyCs_strs, Option.map_some]
theorem enum_map {α : Type} {f : α → D} : ∀ (k : Nat) (ts : List α), enumD k (ts.map f) = (ts.zipIdx k).map fun p => .tup [.int (p.2 : Nat), f p.1]
  | _, [] => rfl
  | k, t :: ts => by simp only [List.map_cons, enumD, List.zipIdx_cons, enum_map (k + 1) ts]
theorem posOf_idx {x : Str} : ∀ {zs : List Str}, x ∈ zs → posOf x zs = some (zs.idxOf x)
  | [], h => by cases h
  | y :: ys, h => by
    unfold posOf
    rw [List.idxOf_cons]
    cases e : y == x with
    | true => simp
    | false =>
      have : x ∈ ys := by
        rcases List.mem_cons.mp h with rfl | h
        · simp at e
        · exact h
      simp [posOf_idx this]
theorem index_strs {st : Store} {us : List Str} {x : Str} (hx : x ∈ us) : indexD (.lst (us.map .str)) [.str x] st = .ok (.int (us.idxOf x : Nat)) st := by
  simp only [indexD, asR, asL, strsOf_map, posOf_idx hx]
theorem min_strs {st : Store} {us : List Str} (h : us ≠ []) : minSD [.lst (us.map .str)] st = .ok (.str (minStr us)) st := by
  simp only [minSD, asR, asL, strsOf_map]
  rw [if_neg (by simpa using h)]
theorem minStr_mem {us : List Str} (h : us ≠ []) : minStr us ∈ us := by
  have hl := List.length_pos_iff.mpr h
  have := argBest_le (ltAt us) (us.length - 1)
  unfold minStr
  have hlt : argBest (ltAt us) (us.length - 1) < us.length := by omega
  rw [List.getD, List.getElem?_eq_getElem hlt]
  exact List.getElem_mem hlt
theorem cutD_from {a : List D} {n : Nat} : cutD a (some (n : Int)) none = a.drop n := by
  unfold Den.cutD
  rw [HT.sIx_nat, HT.sIx_none]
  rcases Nat.le_total n a.length with h | h
  · rw [Nat.min_eq_left h, List.take_of_length_le (by simp)]
  · rw [Nat.min_eq_right h, List.drop_of_length_le (Nat.le_refl _), List.drop_of_length_le h]; simp
theorem cutD_to {a : List D} {n : Nat} : cutD a none (some (n : Int)) = a.take n := by
  unfold Den.cutD
  rw [HT.sIx_nat, HT.sIx_none]
  simp
def rot (n : Nat) (ts : List J3) : List J3 := ts.drop n ++ ts.take n
def at1 (x : Str) (ts : List J3) : Nat := (nms ts).idxOf x
theorem at1_lt {x : Str} {ts : List J3} (h : x ∈ nms ts) : at1 x ts < ts.length := by
  unfold at1; rw [← nms_len]; exact List.idxOf_lt_length_of_mem h
theorem nms_at1 {x : Str} {ts : List J3} (h : x ∈ nms ts) : (nms ts)[at1 x ts]? = some x := by
  have hl : at1 x ts < (nms ts).length := by rw [nms_len]; exact at1_lt h
  rw [List.getElem?_eq_getElem hl]
  congr 1
  exact List.getElem_idxOf hl
theorem rot_len {n : Nat} {ts : List J3} : (rot n ts).length = ts.length := by unfold rot; simp; omega
theorem map_rot {n : Nat} {ts : List J3} : (ts.map jD).drop n ++ (ts.map jD).take n = (rot n ts).map jD := by unfold rot; simp
section
variable {st : Store} {d : D} {c : Nat} {fs : List (Str × D)} {ts : List J3} {x : Str} {B : Int}
local macro_rules
  | `(tactic| simp! only [$xs,*]) => `(tactic| simp (disch := first | assumption | exact id rfl | omega | (simp only [List.length_map, List.length_append, List.length_cons, List.length_nil, List.length_set, List.length_replicate, List.length_take, List.length_drop, List.length_reverse] <;> omega) | (simp only [if_true, if_false, eq_self, Nat.reduceEqDiff]; done) | (simp only [lo_non, lo_bl, lo_int, lo_str, lo_lst, lo_tup, lo_ins, loS_nil, loS_cons, loF_nil, loF_cons, loC_lst, loC_ins, loS_app, ev_1, ev_2, ev_3, ev_4, ev_6, ev_7, ev_8, ev_9, ev_10, ev_13, ev_14, ev_15, ev_16, ev_17, ev_18, ev_26, ev_27, ev_30, ev_31, ev_32, ev_33, ev_34, ev_35, ev_44, ev_45, ev_46, ev_47, ev_48, ev_49, ev_50, ev_51, ev_57, ev_58, lo_jars, lo_strs, lo_jD, lo_own, lo_rowL, lo_sh]; done) | fail) only [↓wp_ok, ↓wp_next, ↓wp_ret, ↓wp_sSeq, ↓wp_fnD, ↓outP_ret, ↓wp_outD_same, ↓wp_outD_keep, cmp_ii, neg_i, add_ii, sub_ii, mod_ii, len_lst, len_ro, len_tup, ↓wp_eK, ↓wp_eVar0, ↓wp_eVars, ↓wp_eBin, ↓wp_eUn, ↓wp_eArgs, ↓wp_aNil, ↓wp_aCons, ↓wp_tYes, ↓wp_tNot, ↓wp_tAnd, ↓wp_tOr, ↓wp_eIf, ↓wp_oNone, ↓wp_eSl, ↓wp_eFrz, ↓wp_eLc, ↓gwp_N, ↓gwp_nil, ↓gwp_cons, ↓gwp_T, ↓wp_sNext, ↓wp_sRet, ↓wp_sRetN, ↓wp_sExpr, ↓wp_sIf, ↓wp_sAsg, ↓par2_ok, ↓wp_sPar, ↓wp_sFor, tyChk_str, Den.sl_tup, okL_ok, list_tup, max_ii, min_ii, abs_i, ne_ii, eq_ii, eq_ss, ↓wp_eCall, okC_ok, ↓wp_outD_app, ↓wp_outD_st, app_app, mul_ib, fdiv_ib, divmod_ib, pow_ib, ofO_some, ↓wp_ofO, ix_lstE, ix_roE, ix_tupE, atI_0, atI_1, atI_2, atI_3, atI_4, atI_map, tyChk_lst, lo_non, lo_bl, lo_int, lo_str, lo_lst, lo_tup, lo_ins, loS_nil, loS_cons, loF_nil, loF_cons, loC_lst, loC_ins, loS_app, insOf_ins, add_ll', add_tt', add_ss', mkL_ok', mkT_ok', mkC_ok', len_str', ne_ss, imul_ib, iadd_ii, ↓wp_sAug, isN_non, isN_int, isN_str, isN_tup, isN_lst, notN_non, notN_int, notN_str, notN_tup, notN_lst, isi_str_non, isi_str_bl, isi_str_int, isi_str_str, isi_str_lst, isi_str_tup, isi_str_dct, isi_int_non, isi_int_bl, isi_int_int, isi_int_str, isi_int_lst, isi_int_tup, isi_int_dct, isi_bool_non, isi_bool_bl, isi_bool_int, isi_bool_str, isi_bool_lst, isi_bool_tup, isi_bool_dct, isi_list_non, isi_list_bl, isi_list_int, isi_list_str, isi_list_lst, isi_list_tup, isi_list_dct, isi_tuple_non, isi_tuple_bl, isi_tuple_int, isi_tuple_str, isi_tuple_lst, isi_tuple_tup, isi_tuple_dct, isi_dict_non, isi_dict_bl, isi_dict_int, isi_dict_str, isi_dict_lst, isi_dict_tup, isi_dict_dct, ↓insK_some, ↓optK_some, ↓cinK_app, ↓wp_eFldK, ↓wp_eMethK, ↓wp_sFldK, look_eq, look_ne, look_nil, put_nil, put_eq, put_ne, ↓blK_ok, ↓intK_ok, ↓strK_ok, ↓lstK_lst, ↓lstK_ro, ↓tupK_ok, ↓sqK_lst, ↓sqK_ro, ↓sqK_tup, ↓oneK_ok, ↓twoK_ok, ↓rngK_ok, ↓andK_true, ↓wk_tOf, ↓wk_eAnd, ↓wk_eOr, ↓wk_eNot, ↓wk_eChain, ↓wk_eM, ↓wk_oSome, ↓wk_iL, ↓wk_iT, ↓wk_iS, ↓wk_iR1, ↓wk_iR2, ↓wk_iEA, ↓wk_gsub, ↓lcK_ok, ↓lfK_ok, ↓lfK_fz, ↓szK_ok, ↓wk_append, ↓wk_reverse, ↓wk_clear, ↓wk_ixc, ↓frK_ok, ↓frK_fz, ↓wk_frz, ↓wk_frzL, ↓wk_lenc, ↓wk_setc, ↓wk_tyc, get_at0, get_at1, get_at2, get_at3, set_at0, set_at1, set_at2, set_at3, ↓wp_itemF, filterMap_some', filterMap_if, ↓itK_none, ↓itK_some, ↓wp_compN, ↓wp_forN, ↓wp_forC, ev_1, ev_2, ev_3, ev_4, ev_6, ev_7, ev_8, ev_9, ev_10, ev_11, ev_12, ev_13, ev_14, ev_15, ev_16, ev_17, ev_18, ev_19, ev_20, ev_21, ev_22, ev_23, ev_24, ev_25, ev_26, ev_27, ev_28, ev_29, ev_30, ev_31, ev_32, ev_33, ev_34, ev_35, ev_37, ev_38, ev_39, ev_40, ev_41, ev_42, ev_43, ev_44, ev_45, ev_46, ev_47, ev_48, ev_49, ev_50, ev_51, ev_54, ev_55, ev_56, ev_57, ev_58, ev_envOf, ev_wipe0, ev_wipe1, ev_rep0, ev_rep1, pick_cons, pick_nil, ↓szS_ok, ↓wk_jsN, ↓wk_js, fmt_s, fmt_i, str_i, str_s, int1_i, int1_b, isi_own, ↓wk_iZ, ↓wk_iV, zip_map, rev_lst, ↓par3_ok, ↓wp_sPar3, ↓truK_t, ↓truK_f, ↓wp_eOrT, truD_non, truD_bl, truD_int, truD_tup, truD_lst, ↓wk_slc, beqI_f, beqI_t, isub_ii, ifdiv_ib, ↓gwp_star1, ↓gwp_star0, lo_jars, lo_strs, lo_jD, lo_own, lo_rowL, lo_sh, ↓lstK_rowL, ↓sqK_rowL, ↓tupK_own, len_rowL, len_own, ix_rowL, ix_own, sl_rowL, tup_rowL, list_rowL, list_own, ↓reduceIte, Nat.reduceAdd, Nat.reduceSub, Nat.reduceLeDiff, Nat.reduceEqDiff, Nat.reduceLT, Nat.reduceBEq, Int.reduceDiv, reduceCtorEq, $xs,*])
  | `(tactic| dsimp! only [$xs,*]) => `(tactic| simp (disch := first | assumption | exact id rfl | omega | (simp only [List.length_map, List.length_append, List.length_cons, List.length_nil, List.length_set, List.length_replicate, List.length_take, List.length_drop, List.length_reverse] <;> omega) | (simp only [if_true, if_false, eq_self, Nat.reduceEqDiff]; done) | (simp only [lo_non, lo_bl, lo_int, lo_str, lo_lst, lo_tup, lo_ins, loS_nil, loS_cons, loF_nil, loF_cons, loC_lst, loC_ins, loS_app, ev_1, ev_2, ev_3, ev_4, ev_6, ev_7, ev_8, ev_9, ev_10, ev_13, ev_14, ev_15, ev_16, ev_17, ev_18, ev_26, ev_27, ev_30, ev_31, ev_32, ev_33, ev_34, ev_35, ev_44, ev_45, ev_46, ev_47, ev_48, ev_49, ev_50, ev_51, ev_57, ev_58, lo_jars, lo_strs, lo_jD, lo_own, lo_rowL, lo_sh]; done) | exact fun _ => id rfl | fail) only [↓wp_ok, ↓wp_next, ↓wp_ret, ↓wp_sSeq, ↓wp_fnD, ↓outP_ret, ↓wp_outD_same, ↓wp_outD_keep, cmp_ii, neg_i, add_ii, sub_ii, mod_ii, len_lst, len_ro, len_tup, ↓wp_eK, ↓wp_eVar0, ↓wp_eVars, ↓wp_eBin, ↓wp_eUn, ↓wp_eArgs, ↓wp_aNil, ↓wp_aCons, ↓wp_tYes, ↓wp_tNot, ↓wp_tAnd, ↓wp_tOr, ↓wp_eIf, ↓wp_oNone, ↓wp_eSl, ↓wp_eFrz, ↓wp_eLc, ↓gwp_N, ↓gwp_nil, ↓gwp_cons, ↓gwp_T, ↓wp_sNext, ↓wp_sRet, ↓wp_sRetN, ↓wp_sExpr, ↓wp_sIf, ↓wp_sAsg, ↓par2_ok, ↓wp_sPar, ↓wp_sFor, tyChk_str, Den.sl_tup, okL_ok, list_tup, max_ii, min_ii, abs_i, ne_ii, eq_ii, eq_ss, ↓wp_eCall, okC_ok, ↓wp_outD_app, ↓wp_outD_st, app_app, mul_ib, fdiv_ib, divmod_ib, pow_ib, ofO_some, ↓wp_ofO, ix_lstE, ix_roE, ix_tupE, atI_0, atI_1, atI_2, atI_3, atI_4, atI_map, tyChk_lst, lo_non, lo_bl, lo_int, lo_str, lo_lst, lo_tup, lo_ins, loS_nil, loS_cons, loF_nil, loF_cons, loC_lst, loC_ins, loS_app, insOf_ins, add_ll', add_tt', add_ss', mkL_ok', mkT_ok', mkC_ok', len_str', ne_ss, imul_ib, iadd_ii, ↓wp_sAug, isN_non, isN_int, isN_str, isN_tup, isN_lst, notN_non, notN_int, notN_str, notN_tup, notN_lst, isi_str_non, isi_str_bl, isi_str_int, isi_str_str, isi_str_lst, isi_str_tup, isi_str_dct, isi_int_non, isi_int_bl, isi_int_int, isi_int_str, isi_int_lst, isi_int_tup, isi_int_dct, isi_bool_non, isi_bool_bl, isi_bool_int, isi_bool_str, isi_bool_lst, isi_bool_tup, isi_bool_dct, isi_list_non, isi_list_bl, isi_list_int, isi_list_str, isi_list_lst, isi_list_tup, isi_list_dct, isi_tuple_non, isi_tuple_bl, isi_tuple_int, isi_tuple_str, isi_tuple_lst, isi_tuple_tup, isi_tuple_dct, isi_dict_non, isi_dict_bl, isi_dict_int, isi_dict_str, isi_dict_lst, isi_dict_tup, isi_dict_dct, ↓insK_some, ↓optK_some, ↓cinK_app, ↓wp_eFldK, ↓wp_eMethK, ↓wp_sFldK, look_eq, look_ne, look_nil, put_nil, put_eq, put_ne, ↓blK_ok, ↓intK_ok, ↓strK_ok, ↓lstK_lst, ↓lstK_ro, ↓tupK_ok, ↓sqK_lst, ↓sqK_ro, ↓sqK_tup, ↓oneK_ok, ↓twoK_ok, ↓rngK_ok, ↓andK_true, ↓wk_tOf, ↓wk_eAnd, ↓wk_eOr, ↓wk_eNot, ↓wk_eChain, ↓wk_eM, ↓wk_oSome, ↓wk_iL, ↓wk_iT, ↓wk_iS, ↓wk_iR1, ↓wk_iR2, ↓wk_iEA, ↓wk_gsub, ↓lcK_ok, ↓lfK_ok, ↓lfK_fz, ↓szK_ok, ↓wk_append, ↓wk_reverse, ↓wk_clear, ↓wk_ixc, ↓frK_ok, ↓frK_fz, ↓wk_frz, ↓wk_frzL, ↓wk_lenc, ↓wk_setc, ↓wk_tyc, get_at0, get_at1, get_at2, get_at3, set_at0, set_at1, set_at2, set_at3, ↓wp_itemF, filterMap_some', filterMap_if, ↓itK_none, ↓itK_some, ↓wp_compN, ↓wp_forN, ↓wp_forC, ev_1, ev_2, ev_3, ev_4, ev_6, ev_7, ev_8, ev_9, ev_10, ev_11, ev_12, ev_13, ev_14, ev_15, ev_16, ev_17, ev_18, ev_19, ev_20, ev_21, ev_22, ev_23, ev_24, ev_25, ev_26, ev_27, ev_28, ev_29, ev_30, ev_31, ev_32, ev_33, ev_34, ev_35, ev_37, ev_38, ev_39, ev_40, ev_41, ev_42, ev_43, ev_44, ev_45, ev_46, ev_47, ev_48, ev_49, ev_50, ev_51, ev_54, ev_55, ev_56, ev_57, ev_58, ev_envOf, ev_wipe0, ev_wipe1, ev_rep0, ev_rep1, pick_cons, pick_nil, ↓szS_ok, ↓wk_jsN, ↓wk_js, fmt_s, fmt_i, str_i, str_s, int1_i, int1_b, isi_own, ↓wk_iZ, ↓wk_iV, zip_map, rev_lst, ↓par3_ok, ↓wp_sPar3, ↓truK_t, ↓truK_f, ↓wp_eOrT, truD_non, truD_bl, truD_int, truD_tup, truD_lst, ↓wk_slc, beqI_f, beqI_t, isub_ii, ifdiv_ib, ↓gwp_star1, ↓gwp_star0, lo_jars, lo_strs, lo_jD, lo_own, lo_rowL, lo_sh, ↓lstK_rowL, ↓sqK_rowL, ↓tupK_own, len_rowL, len_own, ix_rowL, ix_own, sl_rowL, tup_rowL, list_rowL, list_own, ↓reduceIte, Nat.reduceAdd, Nat.reduceSub, Nat.reduceLeDiff, Nat.reduceEqDiff, Nat.reduceLT, Nat.reduceBEq, Int.reduceDiv, reduceCtorEq, $xs,*])
  | `(tactic| simp_all! only [$xs,*]) => `(tactic| simp only [↓wp_ok, ↓wp_next, ↓wp_ret, ↓wp_sSeq, ↓wp_fnD, ↓outP_ret, ↓wp_outD_same, ↓wp_outD_keep, cmp_ii, neg_i, add_ii, sub_ii, mod_ii, len_lst, len_ro, len_tup, ↓wp_eK, ↓wp_eVar0, ↓wp_eVars, ↓wp_eBin, ↓wp_eUn, ↓wp_eArgs, ↓wp_aNil, ↓wp_aCons, ↓wp_tYes, ↓wp_tNot, ↓wp_tAnd, ↓wp_tOr, ↓wp_eIf, ↓wp_oNone, ↓wp_eSl, ↓wp_eFrz, ↓wp_eLc, ↓gwp_N, ↓gwp_nil, ↓gwp_cons, ↓gwp_T, ↓wp_sNext, ↓wp_sRet, ↓wp_sRetN, ↓wp_sExpr, ↓wp_sIf, ↓wp_sAsg, ↓par2_ok, ↓wp_sPar, ↓wp_sFor, tyChk_str, Den.sl_tup, okL_ok, list_tup, max_ii, min_ii, abs_i, ne_ii, eq_ii, eq_ss, ↓wp_eCall, okC_ok, ↓wp_outD_app, ↓wp_outD_st, app_app, mul_ib, fdiv_ib, divmod_ib, pow_ib, ofO_some, ↓wp_ofO, ix_lstE, ix_roE, ix_tupE, atI_0, atI_1, atI_2, atI_3, atI_4, atI_map, tyChk_lst, lo_non, lo_bl, lo_int, lo_str, lo_lst, lo_tup, lo_ins, loS_nil, loS_cons, loF_nil, loF_cons, loC_lst, loC_ins, loS_app, insOf_ins, add_ll', add_tt', add_ss', mkL_ok', mkT_ok', mkC_ok', len_str', ne_ss, imul_ib, iadd_ii, ↓wp_sAug, isN_non, isN_int, isN_str, isN_tup, isN_lst, notN_non, notN_int, notN_str, notN_tup, notN_lst, isi_str_non, isi_str_bl, isi_str_int, isi_str_str, isi_str_lst, isi_str_tup, isi_str_dct, isi_int_non, isi_int_bl, isi_int_int, isi_int_str, isi_int_lst, isi_int_tup, isi_int_dct, isi_bool_non, isi_bool_bl, isi_bool_int, isi_bool_str, isi_bool_lst, isi_bool_tup, isi_bool_dct, isi_list_non, isi_list_bl, isi_list_int, isi_list_str, isi_list_lst, isi_list_tup, isi_list_dct, isi_tuple_non, isi_tuple_bl, isi_tuple_int, isi_tuple_str, isi_tuple_lst, isi_tuple_tup, isi_tuple_dct, isi_dict_non, isi_dict_bl, isi_dict_int, isi_dict_str, isi_dict_lst, isi_dict_tup, isi_dict_dct, ↓insK_some, ↓optK_some, ↓cinK_app, ↓wp_eFldK, ↓wp_eMethK, ↓wp_sFldK, look_eq, look_ne, look_nil, put_nil, put_eq, put_ne, ↓blK_ok, ↓intK_ok, ↓strK_ok, ↓lstK_lst, ↓lstK_ro, ↓tupK_ok, ↓sqK_lst, ↓sqK_ro, ↓sqK_tup, ↓oneK_ok, ↓twoK_ok, ↓rngK_ok, ↓andK_true, ↓wk_tOf, ↓wk_eAnd, ↓wk_eOr, ↓wk_eNot, ↓wk_eChain, ↓wk_eM, ↓wk_oSome, ↓wk_iL, ↓wk_iT, ↓wk_iS, ↓wk_iR1, ↓wk_iR2, ↓wk_iEA, ↓wk_gsub, ↓lcK_ok, ↓lfK_ok, ↓lfK_fz, ↓szK_ok, ↓wk_append, ↓wk_reverse, ↓wk_clear, ↓wk_ixc, ↓frK_ok, ↓frK_fz, ↓wk_frz, ↓wk_frzL, ↓wk_lenc, ↓wk_setc, ↓wk_tyc, get_at0, get_at1, get_at2, get_at3, set_at0, set_at1, set_at2, set_at3, ↓wp_itemF, filterMap_some', filterMap_if, ↓itK_none, ↓itK_some, ↓wp_compN, ↓wp_forN, ↓wp_forC, ev_1, ev_2, ev_3, ev_4, ev_6, ev_7, ev_8, ev_9, ev_10, ev_11, ev_12, ev_13, ev_14, ev_15, ev_16, ev_17, ev_18, ev_19, ev_20, ev_21, ev_22, ev_23, ev_24, ev_25, ev_26, ev_27, ev_28, ev_29, ev_30, ev_31, ev_32, ev_33, ev_34, ev_35, ev_37, ev_38, ev_39, ev_40, ev_41, ev_42, ev_43, ev_44, ev_45, ev_46, ev_47, ev_48, ev_49, ev_50, ev_51, ev_54, ev_55, ev_56, ev_57, ev_58, ev_envOf, ev_wipe0, ev_wipe1, ev_rep0, ev_rep1, pick_cons, pick_nil, ↓szS_ok, ↓wk_jsN, ↓wk_js, fmt_s, fmt_i, str_i, str_s, int1_i, int1_b, isi_own, ↓wk_iZ, ↓wk_iV, zip_map, rev_lst, ↓par3_ok, ↓wp_sPar3, ↓truK_t, ↓truK_f, ↓wp_eOrT, truD_non, truD_bl, truD_int, truD_tup, truD_lst, ↓wk_slc, beqI_f, beqI_t, isub_ii, ifdiv_ib, ↓gwp_star1, ↓gwp_star0, lo_jars, lo_strs, lo_jD, lo_own, lo_rowL, lo_sh, ↓lstK_rowL, ↓sqK_rowL, ↓tupK_own, len_rowL, len_own, ix_rowL, ix_own, sl_rowL, tup_rowL, list_rowL, list_own, $xs,*])
theorem names_eq (h : HasJ st d c fs ts) (hl : ts.length ≤ 1000) : denShape_names [d] st = .ok (.lst ((nms ts).map .str)) st := by
  refine Res.eq_of_wp ?_
  unfold denShape_names
  rcases h.kind with rfl | rfl
  · simp! only [h.at_, h.own, Q.own]
    refine wp_compX (F := ?F1) (fun x hx => ?h1) (by first | assumption | omega | (simp only [List.length_map, List.length_append, List.length_cons, List.length_nil, List.length_set, List.length_replicate, List.length_take, List.length_drop, List.length_reverse] <;> omega)) ?q1
    case h1 =>
      simp! only [jD]
      exact rfl
    simp! only [nms, List.map_map, Function.comp_def]
  · simp! only [h.at_, h.own, Q.own]
    refine wp_compX (F := ?F2) (fun x hx => ?h2) (by first | assumption | omega | (simp only [List.length_map, List.length_append, List.length_cons, List.length_nil, List.length_set, List.length_replicate, List.length_take, List.length_drop, List.length_reverse] <;> omega)) ?q2
    case h2 =>
      simp! only [jD]
      exact rfl
    simp! only [nms, List.map_map, Function.comp_def]
theorem has_eq (h : HasJ st d c fs ts) (hl : ts.length ≤ 1000) (hf : ∀ x ∈ nms ts, Lb x) (hx : strFit x = true) : denShape_has [d, .str x] st = .ok (.bl ((nms ts).contains x)) st := by
  refine Res.eq_of_wp ?_
  unfold denShape_has
  rcases h.kind with rfl | rfl <;> simp! only [h.at_, h.no "names" (by decide) (by decide), names_eq h hl, in_strs hx fun y hy => (hf y hy).fit]
theorem place_eq (h : HasJ st d c fs ts) (hl : ts.length ≤ 1000) (hf : ∀ x ∈ nms ts, Lb x) (hx : x ∈ nms ts) : denShape_place [d, .str x] st = .ok (.int (at1 x ts : Nat)) st := by
  refine Res.eq_of_wp ?_
  unfold denShape_place
  have hc : (nms ts).contains x = true := by simpa using hx
  rcases h.kind with rfl | rfl <;> simp! only [h.at_, h.no "names" (by decide) (by decide), h.no "has" (by decide) (by decide), names_eq h hl, has_eq h hl hf (hf x hx).fit, hc, tyChk_lst, index_strs hx, at1]
theorem len_eq (h : HasJ st d c fs ts) : denShape_len [d] st = .ok (.int ts.length) st := by
  refine Res.eq_of_wp ?_
  unfold denShape_len
  rcases h.kind with rfl | rfl <;> simp! only [h.at_, h.own, Q.own, List.length_map]
theorem jars_eq (h : HasJ st d c fs ts) : denShape_jars [d] st = .ok (rowL ts) st := by
  refine Res.eq_of_wp ?_
  unfold denShape_jars
  rcases h.kind with rfl | rfl <;> simp! only [h.at_, h.own, Q.own, rowL]
theorem jarsC_eq (h : HasJ st d c fs ts) : denShape_jars_C [d] st = .ok (.cell st.length) (st ++ [.lst (ts.map jD)]) := by
  refine Res.eq_of_wp ?_
  unfold denShape_jars_C
  rcases h.kind with rfl | rfl <;> simp! only [h.at_, h.own, Q.own]
theorem rjars_eq (h : HasJ st d 22 fs ts) (hl : ts.length ≤ 500) : denRound_jars [d, .non] st = .ok (rowL ts) st := by
  refine Res.eq_of_wp ?_
  unfold denRound_jars
  have e1 := cutD_from (a := ts.map jD) (n := 0)
  have e2 := cutD_to (a := ts.map jD) (n := 0)
  simp only [Int.ofNat_eq_natCast, Int.natCast_zero, List.drop_zero, List.take_zero] at e1 e2
  simp! only [h.at_, h.own, Q.own, rowL, e1, e2]
theorem rjarsC_eq (h : HasJ st d 22 fs ts) (hl : ts.length ≤ 500) : denRound_jars_C [d, .non] st = .ok (.cell st.length) (st ++ [.lst (ts.map jD)]) := by
  refine Res.eq_of_wp ?_
  unfold denRound_jars_C
  have e1 := cutD_from (a := ts.map jD) (n := 0)
  have e2 := cutD_to (a := ts.map jD) (n := 0)
  simp only [Int.ofNat_eq_natCast, Int.natCast_zero, List.drop_zero, List.take_zero] at e1 e2
  simp! only [h.at_, h.own, Q.own, rowL, e1, e2]
theorem rjarsAt_eq (h : HasJ st d 22 fs ts) (hl : ts.length ≤ 500) (hf : ∀ x ∈ nms ts, Lb x) (hx : x ∈ nms ts) : denRound_jars [d, .str x] st = .ok (rowL (rot (at1 x ts) ts)) st := by
  refine Res.eq_of_wp ?_
  unfold denRound_jars
  have hlt := at1_lt hx
  simp! only [h.at_, h.own, Q.own, rowL, h.no "place" (by decide) (by decide), place_eq h (by omega) hf hx, cutD_from, cutD_to, map_rot]
theorem tray_eq {tr : Int} (h : HasJ st d 23 fs ts) (ht : fs.lookup ("own_tray" : Str) = some (.int tr)) : denRow_tray [d] st = .ok (.int tr) st := by
  refine Res.eq_of_wp ?_
  unfold denRow_tray
  simp! only [h.at_, ht]
theorem getD_some {α : Type} {l : List α} {n : Nat} {e : α} (h : n < l.length) : l[n]? = some ((l[n]?).getD e) := by
  rw [List.getElem?_eq_getElem h]; rfl
theorem lenO_eq (h : HasJ st d c fs ts) (hl : ts.length ≤ 500) {disp : Nat → Option Fn} (hd : disp c = some denShape_len) : lenDO disp [d] st = .ok (.int ts.length) st :=
  lenDO_ins h.at_ hd (len_eq h) (by omega) (by omega)
end
end Q

namespace Q
open PySem PySem.Spec PyProof.Rows L2 Den
abbrev az : Str := "abcdefghijklmnopqrstuvwxyz"
theorem az_list : az.cps.toList = (List.range 26).map (· + 97) := by decide +kernel
theorem az_mem {c : Nat} : c ∈ az.cps.toList ↔ 97 ≤ c ∧ c ≤ 122 := by
  rw [az_list, List.mem_map]
  constructor
  · rintro ⟨i, hi, rfl⟩; have := List.mem_range.mp hi; omega
  · intro h; exact ⟨c - 97, List.mem_range.mpr (by omega), by omega⟩
theorem az_len : az.length = 26 := by decide +kernel
/-! ### what is told -/
def isW : D → Bool
  | .int _ => true
  | _ => false
def isS : D → Bool
  | .str _ => true
  | _ => false
def isB : D → Bool
  | .bl _ => true
  | _ => false
def isT : D → Bool
  | .tup _ => true
  | _ => false
theorem isi_str {d : D} {st : Store} (h : lf d = true) : isi2 (isTy "str") (isaB "str") [d, .ty "str"] st = .ok (.bl (isS d)) st := by
  cases d <;> first | rfl | (simp [lf] at h)
theorem isi_tup {d : D} {st : Store} (h : lf d = true) : isi2 (isTy "tuple") (isaB "tuple") [d, .ty "tuple"] st = .ok (.bl (isT d)) st := by
  cases d <;> first | rfl | (simp [lf] at h)
theorem isi_int {d : D} {st : Store} (h : lf d = true) : isi2 (isTy "int") (isaB "int") [d, .ty "int"] st = .ok (.bl (isW d || isB d)) st := by
  cases d <;> first | rfl | (simp [lf] at h)
theorem isi_bool {d : D} {st : Store} (h : lf d = true) : isi2 (isTy "bool") (isaB "bool") [d, .ty "bool"] st = .ok (.bl (isB d)) st := by
  cases d <;> first | rfl | (simp [lf] at h)
def atLeast (n : Int) : D → Bool
  | .int i => decide (n ≤ i)
  | _ => false
def baseB : D → Bool
  | .int i => decide (2 ≤ i) && decide (i ≤ 1000000)
  | _ => false
def nameX (x : Str) : Bool := decide (1 ≤ x.length) && decide (x.length ≤ 8) && x.cps.toList.all fun c => decide (c ∈ az.cps.toList)
def nameB : D → Bool
  | .str x => nameX x
  | _ => false
def jarB : D → Bool
  | .tup [n, b, g] => nameB n && (baseB b && atLeast 0 g)
  | _ => false
section
variable {d : D} {st : Store}
theorem whole_eq (h : lf d = true) : denis_whole [d] st = .ok (.bl (isW d)) st := by
  refine Res.eq_of_wp ?_
  unfold denis_whole
  try simp only [Den.envOf, List.map_cons, List.map_nil, List.length_cons, List.length_nil, List.replicate, List.cons_append, List.nil_append, List.append_nil, Nat.reduceAdd, Nat.reduceSub, Nat.zero_add, Nat.add_zero, wp_sSeq, wp_fnD, wp_ok, wp_next, wp_ret, wp_ite, wp_ites, outP_ret, wp_sIf, wp_sRet, wp_sRetN, wp_sAsg, wp_sExpr, wp_sNext, wp_sFor, wp_sPar, par2_ok, wp_tOf, wp_tOr, wp_tAnd, wp_tNot, wp_tYes, wp_eBin, wp_eVar0, wp_eVars, wp_eK, wp_eUn, wp_eArgs, wp_aCons, wp_aNil, wp_eAnd, wp_eOr, wp_eNot, wp_eIf, wp_eChain, wp_eSl, wp_eM, wp_oSome, wp_oNone, wp_eFrz, wp_eLc, wp_iL, wp_iT, wp_iS, wp_iR1, gwp_N, gwp_nil, gwp_cons, gwp_T, gwp_sub, List.set_cons_zero, List.set_cons_succ, Bool.not_true, Bool.not_false, Bool.false_eq_true, if_true, if_false, cmp_ii, neg_i, add_ii, sub_ii, decide_eq_true_eq, Nat.reduceLeDiff, Nat.reduceEqDiff, D.bl.injEq, D.int.injEq, D.str.injEq, D.tup.injEq, D.lst.injEq, exists_eq_left', exists_eq_left, true_and, and_true, Option.some.injEq, List.cons.injEq, eq_self, reduceCtorEq, or_false, false_or, false_and, and_false, and_self, wipeD, len_lst, len_ro, len_tup, okL_ok, tyChk_str, Den.sl_tup, list_tup, max_ii, min_ii, abs_i, wp_eCall, wp_iEA, okC_ok, wp_outD_keep, mkL_ok, mkT_ok, mkC_ok, le_size, wp_eFld, wp_eMeth, wp_sFldD, Den.len_str, isi_int h, isi_bool h, wp_outD_same]
  cases d <;> simp [isW, isB]
local macro_rules
  | `(tactic| simp! only [$xs,*]) => `(tactic| simp (disch := first | assumption | exact id rfl | omega | (simp only [List.length_map, List.length_append, List.length_cons, List.length_nil, List.length_set, List.length_replicate, List.length_take, List.length_drop, List.length_reverse] <;> omega) | (simp only [if_true, if_false, eq_self, Nat.reduceEqDiff]; done) | (simp only [lo_non, lo_bl, lo_int, lo_str, lo_lst, lo_tup, lo_ins, loS_nil, loS_cons, loF_nil, loF_cons, loC_lst, loC_ins, loS_app, ev_1, ev_2, ev_3, ev_4, ev_6, ev_7, ev_8, ev_9, ev_10, ev_13, ev_14, ev_15, ev_16, ev_17, ev_18, ev_26, ev_27, ev_30, ev_31, ev_32, ev_33, ev_34, ev_35, ev_44, ev_45, ev_46, ev_47, ev_48, ev_49, ev_50, ev_51, ev_57, ev_58, lo_jars, lo_strs, lo_jD, lo_own, lo_rowL, lo_sh]; done) | fail) only [↓wp_ok, ↓wp_next, ↓wp_ret, ↓wp_sSeq, ↓wp_fnD, ↓outP_ret, ↓wp_outD_same, ↓wp_outD_keep, cmp_ii, neg_i, add_ii, sub_ii, mod_ii, len_lst, len_ro, len_tup, ↓wp_eK, ↓wp_eVar0, ↓wp_eVars, ↓wp_eBin, ↓wp_eUn, ↓wp_eArgs, ↓wp_aNil, ↓wp_aCons, ↓wp_tYes, ↓wp_tNot, ↓wp_tAnd, ↓wp_tOr, ↓wp_eIf, ↓wp_oNone, ↓wp_eSl, ↓wp_eFrz, ↓wp_eLc, ↓gwp_N, ↓gwp_nil, ↓gwp_cons, ↓gwp_T, ↓wp_sNext, ↓wp_sRet, ↓wp_sRetN, ↓wp_sExpr, ↓wp_sIf, ↓wp_sAsg, ↓par2_ok, ↓wp_sPar, ↓wp_sFor, tyChk_str, Den.sl_tup, okL_ok, list_tup, max_ii, min_ii, abs_i, ne_ii, eq_ii, eq_ss, ↓wp_eCall, okC_ok, ↓wp_outD_app, ↓wp_outD_st, app_app, mul_ib, fdiv_ib, divmod_ib, pow_ib, ofO_some, ↓wp_ofO, ix_lstE, ix_roE, ix_tupE, atI_0, atI_1, atI_2, atI_3, atI_4, atI_map, tyChk_lst, lo_non, lo_bl, lo_int, lo_str, lo_lst, lo_tup, lo_ins, loS_nil, loS_cons, loF_nil, loF_cons, loC_lst, loC_ins, loS_app, insOf_ins, add_ll', add_tt', add_ss', mkL_ok', mkT_ok', mkC_ok', len_str', ne_ss, imul_ib, iadd_ii, ↓wp_sAug, isN_non, isN_int, isN_str, isN_tup, isN_lst, notN_non, notN_int, notN_str, notN_tup, notN_lst, isi_str_non, isi_str_bl, isi_str_int, isi_str_str, isi_str_lst, isi_str_tup, isi_str_dct, isi_int_non, isi_int_bl, isi_int_int, isi_int_str, isi_int_lst, isi_int_tup, isi_int_dct, isi_bool_non, isi_bool_bl, isi_bool_int, isi_bool_str, isi_bool_lst, isi_bool_tup, isi_bool_dct, isi_list_non, isi_list_bl, isi_list_int, isi_list_str, isi_list_lst, isi_list_tup, isi_list_dct, isi_tuple_non, isi_tuple_bl, isi_tuple_int, isi_tuple_str, isi_tuple_lst, isi_tuple_tup, isi_tuple_dct, isi_dict_non, isi_dict_bl, isi_dict_int, isi_dict_str, isi_dict_lst, isi_dict_tup, isi_dict_dct, ↓insK_some, ↓optK_some, ↓cinK_app, ↓wp_eFldK, ↓wp_eMethK, ↓wp_sFldK, look_eq, look_ne, look_nil, put_nil, put_eq, put_ne, ↓blK_ok, ↓intK_ok, ↓strK_ok, ↓lstK_lst, ↓lstK_ro, ↓tupK_ok, ↓sqK_lst, ↓sqK_ro, ↓sqK_tup, ↓oneK_ok, ↓twoK_ok, ↓rngK_ok, ↓andK_true, ↓wk_tOf, ↓wk_eAnd, ↓wk_eOr, ↓wk_eNot, ↓wk_eChain, ↓wk_eM, ↓wk_oSome, ↓wk_iL, ↓wk_iT, ↓wk_iS, ↓wk_iR1, ↓wk_iR2, ↓wk_iEA, ↓wk_gsub, ↓lcK_ok, ↓lfK_ok, ↓lfK_fz, ↓szK_ok, ↓wk_append, ↓wk_reverse, ↓wk_clear, ↓wk_ixc, ↓frK_ok, ↓frK_fz, ↓wk_frz, ↓wk_frzL, ↓wk_lenc, ↓wk_setc, ↓wk_tyc, get_at0, get_at1, get_at2, get_at3, set_at0, set_at1, set_at2, set_at3, ↓wp_itemF, filterMap_some', filterMap_if, ↓itK_none, ↓itK_some, ↓wp_compN, ↓wp_forN, ↓wp_forC, ev_1, ev_2, ev_3, ev_4, ev_6, ev_7, ev_8, ev_9, ev_10, ev_11, ev_12, ev_13, ev_14, ev_15, ev_16, ev_17, ev_18, ev_19, ev_20, ev_21, ev_22, ev_23, ev_24, ev_25, ev_26, ev_27, ev_28, ev_29, ev_30, ev_31, ev_32, ev_33, ev_34, ev_35, ev_37, ev_38, ev_39, ev_40, ev_41, ev_42, ev_43, ev_44, ev_45, ev_46, ev_47, ev_48, ev_49, ev_50, ev_51, ev_54, ev_55, ev_56, ev_57, ev_58, ev_envOf, ev_wipe0, ev_wipe1, ev_rep0, ev_rep1, pick_cons, pick_nil, ↓szS_ok, ↓wk_jsN, ↓wk_js, fmt_s, fmt_i, str_i, str_s, int1_i, int1_b, isi_own, ↓wk_iZ, ↓wk_iV, zip_map, rev_lst, ↓par3_ok, ↓wp_sPar3, ↓truK_t, ↓truK_f, ↓wp_eOrT, truD_non, truD_bl, truD_int, truD_tup, truD_lst, ↓wk_slc, beqI_f, beqI_t, isub_ii, ifdiv_ib, ↓gwp_star1, ↓gwp_star0, lo_jars, lo_strs, lo_jD, lo_own, lo_rowL, lo_sh, ↓lstK_rowL, ↓sqK_rowL, ↓tupK_own, len_rowL, len_own, ix_rowL, ix_own, sl_rowL, tup_rowL, list_rowL, list_own, ↓reduceIte, Nat.reduceAdd, Nat.reduceSub, Nat.reduceLeDiff, Nat.reduceEqDiff, Nat.reduceLT, Nat.reduceBEq, Int.reduceDiv, reduceCtorEq, $xs,*])
  | `(tactic| dsimp! only [$xs,*]) => `(tactic| simp (disch := first | assumption | exact id rfl | omega | (simp only [List.length_map, List.length_append, List.length_cons, List.length_nil, List.length_set, List.length_replicate, List.length_take, List.length_drop, List.length_reverse] <;> omega) | (simp only [if_true, if_false, eq_self, Nat.reduceEqDiff]; done) | (simp only [lo_non, lo_bl, lo_int, lo_str, lo_lst, lo_tup, lo_ins, loS_nil, loS_cons, loF_nil, loF_cons, loC_lst, loC_ins, loS_app, ev_1, ev_2, ev_3, ev_4, ev_6, ev_7, ev_8, ev_9, ev_10, ev_13, ev_14, ev_15, ev_16, ev_17, ev_18, ev_26, ev_27, ev_30, ev_31, ev_32, ev_33, ev_34, ev_35, ev_44, ev_45, ev_46, ev_47, ev_48, ev_49, ev_50, ev_51, ev_57, ev_58, lo_jars, lo_strs, lo_jD, lo_own, lo_rowL, lo_sh]; done) | exact fun _ => id rfl | fail) only [↓wp_ok, ↓wp_next, ↓wp_ret, ↓wp_sSeq, ↓wp_fnD, ↓outP_ret, ↓wp_outD_same, ↓wp_outD_keep, cmp_ii, neg_i, add_ii, sub_ii, mod_ii, len_lst, len_ro, len_tup, ↓wp_eK, ↓wp_eVar0, ↓wp_eVars, ↓wp_eBin, ↓wp_eUn, ↓wp_eArgs, ↓wp_aNil, ↓wp_aCons, ↓wp_tYes, ↓wp_tNot, ↓wp_tAnd, ↓wp_tOr, ↓wp_eIf, ↓wp_oNone, ↓wp_eSl, ↓wp_eFrz, ↓wp_eLc, ↓gwp_N, ↓gwp_nil, ↓gwp_cons, ↓gwp_T, ↓wp_sNext, ↓wp_sRet, ↓wp_sRetN, ↓wp_sExpr, ↓wp_sIf, ↓wp_sAsg, ↓par2_ok, ↓wp_sPar, ↓wp_sFor, tyChk_str, Den.sl_tup, okL_ok, list_tup, max_ii, min_ii, abs_i, ne_ii, eq_ii, eq_ss, ↓wp_eCall, okC_ok, ↓wp_outD_app, ↓wp_outD_st, app_app, mul_ib, fdiv_ib, divmod_ib, pow_ib, ofO_some, ↓wp_ofO, ix_lstE, ix_roE, ix_tupE, atI_0, atI_1, atI_2, atI_3, atI_4, atI_map, tyChk_lst, lo_non, lo_bl, lo_int, lo_str, lo_lst, lo_tup, lo_ins, loS_nil, loS_cons, loF_nil, loF_cons, loC_lst, loC_ins, loS_app, insOf_ins, add_ll', add_tt', add_ss', mkL_ok', mkT_ok', mkC_ok', len_str', ne_ss, imul_ib, iadd_ii, ↓wp_sAug, isN_non, isN_int, isN_str, isN_tup, isN_lst, notN_non, notN_int, notN_str, notN_tup, notN_lst, isi_str_non, isi_str_bl, isi_str_int, isi_str_str, isi_str_lst, isi_str_tup, isi_str_dct, isi_int_non, isi_int_bl, isi_int_int, isi_int_str, isi_int_lst, isi_int_tup, isi_int_dct, isi_bool_non, isi_bool_bl, isi_bool_int, isi_bool_str, isi_bool_lst, isi_bool_tup, isi_bool_dct, isi_list_non, isi_list_bl, isi_list_int, isi_list_str, isi_list_lst, isi_list_tup, isi_list_dct, isi_tuple_non, isi_tuple_bl, isi_tuple_int, isi_tuple_str, isi_tuple_lst, isi_tuple_tup, isi_tuple_dct, isi_dict_non, isi_dict_bl, isi_dict_int, isi_dict_str, isi_dict_lst, isi_dict_tup, isi_dict_dct, ↓insK_some, ↓optK_some, ↓cinK_app, ↓wp_eFldK, ↓wp_eMethK, ↓wp_sFldK, look_eq, look_ne, look_nil, put_nil, put_eq, put_ne, ↓blK_ok, ↓intK_ok, ↓strK_ok, ↓lstK_lst, ↓lstK_ro, ↓tupK_ok, ↓sqK_lst, ↓sqK_ro, ↓sqK_tup, ↓oneK_ok, ↓twoK_ok, ↓rngK_ok, ↓andK_true, ↓wk_tOf, ↓wk_eAnd, ↓wk_eOr, ↓wk_eNot, ↓wk_eChain, ↓wk_eM, ↓wk_oSome, ↓wk_iL, ↓wk_iT, ↓wk_iS, ↓wk_iR1, ↓wk_iR2, ↓wk_iEA, ↓wk_gsub, ↓lcK_ok, ↓lfK_ok, ↓lfK_fz, ↓szK_ok, ↓wk_append, ↓wk_reverse, ↓wk_clear, ↓wk_ixc, ↓frK_ok, ↓frK_fz, ↓wk_frz, ↓wk_frzL, ↓wk_lenc, ↓wk_setc, ↓wk_tyc, get_at0, get_at1, get_at2, get_at3, set_at0, set_at1, set_at2, set_at3, ↓wp_itemF, filterMap_some', filterMap_if, ↓itK_none, ↓itK_some, ↓wp_compN, ↓wp_forN, ↓wp_forC, ev_1, ev_2, ev_3, ev_4, ev_6, ev_7, ev_8, ev_9, ev_10, ev_11, ev_12, ev_13, ev_14, ev_15, ev_16, ev_17, ev_18, ev_19, ev_20, ev_21, ev_22, ev_23, ev_24, ev_25, ev_26, ev_27, ev_28, ev_29, ev_30, ev_31, ev_32, ev_33, ev_34, ev_35, ev_37, ev_38, ev_39, ev_40, ev_41, ev_42, ev_43, ev_44, ev_45, ev_46, ev_47, ev_48, ev_49, ev_50, ev_51, ev_54, ev_55, ev_56, ev_57, ev_58, ev_envOf, ev_wipe0, ev_wipe1, ev_rep0, ev_rep1, pick_cons, pick_nil, ↓szS_ok, ↓wk_jsN, ↓wk_js, fmt_s, fmt_i, str_i, str_s, int1_i, int1_b, isi_own, ↓wk_iZ, ↓wk_iV, zip_map, rev_lst, ↓par3_ok, ↓wp_sPar3, ↓truK_t, ↓truK_f, ↓wp_eOrT, truD_non, truD_bl, truD_int, truD_tup, truD_lst, ↓wk_slc, beqI_f, beqI_t, isub_ii, ifdiv_ib, ↓gwp_star1, ↓gwp_star0, lo_jars, lo_strs, lo_jD, lo_own, lo_rowL, lo_sh, ↓lstK_rowL, ↓sqK_rowL, ↓tupK_own, len_rowL, len_own, ix_rowL, ix_own, sl_rowL, tup_rowL, list_rowL, list_own, ↓reduceIte, Nat.reduceAdd, Nat.reduceSub, Nat.reduceLeDiff, Nat.reduceEqDiff, Nat.reduceLT, Nat.reduceBEq, Int.reduceDiv, reduceCtorEq, $xs,*])
  | `(tactic| simp_all! only [$xs,*]) => `(tactic| simp only [↓wp_ok, ↓wp_next, ↓wp_ret, ↓wp_sSeq, ↓wp_fnD, ↓outP_ret, ↓wp_outD_same, ↓wp_outD_keep, cmp_ii, neg_i, add_ii, sub_ii, mod_ii, len_lst, len_ro, len_tup, ↓wp_eK, ↓wp_eVar0, ↓wp_eVars, ↓wp_eBin, ↓wp_eUn, ↓wp_eArgs, ↓wp_aNil, ↓wp_aCons, ↓wp_tYes, ↓wp_tNot, ↓wp_tAnd, ↓wp_tOr, ↓wp_eIf, ↓wp_oNone, ↓wp_eSl, ↓wp_eFrz, ↓wp_eLc, ↓gwp_N, ↓gwp_nil, ↓gwp_cons, ↓gwp_T, ↓wp_sNext, ↓wp_sRet, ↓wp_sRetN, ↓wp_sExpr, ↓wp_sIf, ↓wp_sAsg, ↓par2_ok, ↓wp_sPar, ↓wp_sFor, tyChk_str, Den.sl_tup, okL_ok, list_tup, max_ii, min_ii, abs_i, ne_ii, eq_ii, eq_ss, ↓wp_eCall, okC_ok, ↓wp_outD_app, ↓wp_outD_st, app_app, mul_ib, fdiv_ib, divmod_ib, pow_ib, ofO_some, ↓wp_ofO, ix_lstE, ix_roE, ix_tupE, atI_0, atI_1, atI_2, atI_3, atI_4, atI_map, tyChk_lst, lo_non, lo_bl, lo_int, lo_str, lo_lst, lo_tup, lo_ins, loS_nil, loS_cons, loF_nil, loF_cons, loC_lst, loC_ins, loS_app, insOf_ins, add_ll', add_tt', add_ss', mkL_ok', mkT_ok', mkC_ok', len_str', ne_ss, imul_ib, iadd_ii, ↓wp_sAug, isN_non, isN_int, isN_str, isN_tup, isN_lst, notN_non, notN_int, notN_str, notN_tup, notN_lst, isi_str_non, isi_str_bl, isi_str_int, isi_str_str, isi_str_lst, isi_str_tup, isi_str_dct, isi_int_non, isi_int_bl, isi_int_int, isi_int_str, isi_int_lst, isi_int_tup, isi_int_dct, isi_bool_non, isi_bool_bl, isi_bool_int, isi_bool_str, isi_bool_lst, isi_bool_tup, isi_bool_dct, isi_list_non, isi_list_bl, isi_list_int, isi_list_str, isi_list_lst, isi_list_tup, isi_list_dct, isi_tuple_non, isi_tuple_bl, isi_tuple_int, isi_tuple_str, isi_tuple_lst, isi_tuple_tup, isi_tuple_dct, isi_dict_non, isi_dict_bl, isi_dict_int, isi_dict_str, isi_dict_lst, isi_dict_tup, isi_dict_dct, ↓insK_some, ↓optK_some, ↓cinK_app, ↓wp_eFldK, ↓wp_eMethK, ↓wp_sFldK, look_eq, look_ne, look_nil, put_nil, put_eq, put_ne, ↓blK_ok, ↓intK_ok, ↓strK_ok, ↓lstK_lst, ↓lstK_ro, ↓tupK_ok, ↓sqK_lst, ↓sqK_ro, ↓sqK_tup, ↓oneK_ok, ↓twoK_ok, ↓rngK_ok, ↓andK_true, ↓wk_tOf, ↓wk_eAnd, ↓wk_eOr, ↓wk_eNot, ↓wk_eChain, ↓wk_eM, ↓wk_oSome, ↓wk_iL, ↓wk_iT, ↓wk_iS, ↓wk_iR1, ↓wk_iR2, ↓wk_iEA, ↓wk_gsub, ↓lcK_ok, ↓lfK_ok, ↓lfK_fz, ↓szK_ok, ↓wk_append, ↓wk_reverse, ↓wk_clear, ↓wk_ixc, ↓frK_ok, ↓frK_fz, ↓wk_frz, ↓wk_frzL, ↓wk_lenc, ↓wk_setc, ↓wk_tyc, get_at0, get_at1, get_at2, get_at3, set_at0, set_at1, set_at2, set_at3, ↓wp_itemF, filterMap_some', filterMap_if, ↓itK_none, ↓itK_some, ↓wp_compN, ↓wp_forN, ↓wp_forC, ev_1, ev_2, ev_3, ev_4, ev_6, ev_7, ev_8, ev_9, ev_10, ev_11, ev_12, ev_13, ev_14, ev_15, ev_16, ev_17, ev_18, ev_19, ev_20, ev_21, ev_22, ev_23, ev_24, ev_25, ev_26, ev_27, ev_28, ev_29, ev_30, ev_31, ev_32, ev_33, ev_34, ev_35, ev_37, ev_38, ev_39, ev_40, ev_41, ev_42, ev_43, ev_44, ev_45, ev_46, ev_47, ev_48, ev_49, ev_50, ev_51, ev_54, ev_55, ev_56, ev_57, ev_58, ev_envOf, ev_wipe0, ev_wipe1, ev_rep0, ev_rep1, pick_cons, pick_nil, ↓szS_ok, ↓wk_jsN, ↓wk_js, fmt_s, fmt_i, str_i, str_s, int1_i, int1_b, isi_own, ↓wk_iZ, ↓wk_iV, zip_map, rev_lst, ↓par3_ok, ↓wp_sPar3, ↓truK_t, ↓truK_f, ↓wp_eOrT, truD_non, truD_bl, truD_int, truD_tup, truD_lst, ↓wk_slc, beqI_f, beqI_t, isub_ii, ifdiv_ib, ↓gwp_star1, ↓gwp_star0, lo_jars, lo_strs, lo_jD, lo_own, lo_rowL, lo_sh, ↓lstK_rowL, ↓sqK_rowL, ↓tupK_own, len_rowL, len_own, ix_rowL, ix_own, sl_rowL, tup_rowL, list_rowL, list_own, $xs,*])
theorem base_eq (h : lf d = true) : denis_base [d] st = .ok (.bl (baseB d)) st := by
  refine Res.eq_of_wp ?_
  unfold denis_base
  simp! only [whole_eq h]
  cases d with
  | int i =>
    by_cases h2 : 2 ≤ i <;> simp! only [isW, baseB, h2, decide_true, decide_false, Bool.true_and, Bool.false_and]
  | _ => simp! only [isW, baseB]
theorem grains_eq (h : lf d = true) : denis_grains [d] st = .ok (.bl (atLeast 0 d)) st := by
  refine Res.eq_of_wp ?_
  unfold denis_grains
  simp! only [whole_eq h]
  cases d <;> simp! only [isW, atLeast]
theorem name_eq (h : fine d = true) : denis_name [d] st = .ok (.bl (nameB d)) st := by
  refine Res.eq_of_wp ?_
  have hl := fine_lf h
  unfold denis_name
  try simp only [Den.envOf, List.map_cons, List.map_nil, List.length_cons, List.length_nil, List.replicate, List.cons_append, List.nil_append, List.append_nil, Nat.reduceAdd, Nat.reduceSub, Nat.zero_add, Nat.add_zero, wp_sSeq, wp_fnD, wp_ok, wp_next, wp_ret, wp_ite, wp_ites, outP_ret, wp_sIf, wp_sRet, wp_sRetN, wp_sAsg, wp_sExpr, wp_sNext, wp_sFor, wp_sPar, par2_ok, wp_tOf, wp_tOr, wp_tAnd, wp_tNot, wp_tYes, wp_eBin, wp_eVar0, wp_eVars, wp_eK, wp_eUn, wp_eArgs, wp_aCons, wp_aNil, wp_eAnd, wp_eOr, wp_eNot, wp_eIf, wp_eChain, wp_eSl, wp_eM, wp_oSome, wp_oNone, wp_eFrz, wp_eLc, wp_iL, wp_iT, wp_iS, wp_iR1, gwp_N, gwp_nil, gwp_cons, gwp_T, gwp_sub, List.set_cons_zero, List.set_cons_succ, Bool.not_true, Bool.not_false, Bool.false_eq_true, if_true, if_false, cmp_ii, neg_i, add_ii, sub_ii, decide_eq_true_eq, Nat.reduceLeDiff, Nat.reduceEqDiff, D.bl.injEq, D.int.injEq, D.str.injEq, D.tup.injEq, D.lst.injEq, exists_eq_left', exists_eq_left, true_and, and_true, Option.some.injEq, List.cons.injEq, eq_self, reduceCtorEq, or_false, false_or, false_and, and_false, and_self, wipeD, len_lst, len_ro, len_tup, okL_ok, tyChk_str, Den.sl_tup, list_tup, max_ii, min_ii, abs_i, wp_eCall, wp_iEA, okC_ok, wp_outD_keep, mkL_ok, mkT_ok, mkC_ok, le_size, wp_eFld, wp_eMeth, wp_sFldD, Den.len_str, isi_str hl]
  cases d with
  | str x =>
    have hx : x.length ≤ sizeLine := by
      simp only [fine, Bool.and_eq_true, decide_eq_true_eq] at h
      have h2 : x.cps.size ≤ 100000 := h.1.2
      rw [sizeLine_eq]; show x.cps.size ≤ _; omega
    try simp only [Den.envOf, List.map_cons, List.map_nil, List.length_cons, List.length_nil, List.replicate, List.cons_append, List.nil_append, List.append_nil, Nat.reduceAdd, Nat.reduceSub, Nat.zero_add, Nat.add_zero, wp_sSeq, wp_fnD, wp_ok, wp_next, wp_ret, wp_ite, wp_ites, outP_ret, wp_sIf, wp_sRet, wp_sRetN, wp_sAsg, wp_sExpr, wp_sNext, wp_sFor, wp_sPar, par2_ok, wp_tOf, wp_tOr, wp_tAnd, wp_tNot, wp_tYes, wp_eBin, wp_eVar0, wp_eVars, wp_eK, wp_eUn, wp_eArgs, wp_aCons, wp_aNil, wp_eAnd, wp_eOr, wp_eNot, wp_eIf, wp_eChain, wp_eSl, wp_eM, wp_oSome, wp_oNone, wp_eFrz, wp_eLc, wp_iL, wp_iT, wp_iS, wp_iR1, gwp_N, gwp_nil, gwp_cons, gwp_T, gwp_sub, List.set_cons_zero, List.set_cons_succ, Bool.not_true, Bool.not_false, Bool.false_eq_true, if_true, if_false, cmp_ii, neg_i, add_ii, sub_ii, decide_eq_true_eq, Nat.reduceLeDiff, Nat.reduceEqDiff, D.bl.injEq, D.int.injEq, D.str.injEq, D.tup.injEq, D.lst.injEq, exists_eq_left', exists_eq_left, true_and, and_true, Option.some.injEq, List.cons.injEq, eq_self, reduceCtorEq, or_false, false_or, false_and, and_false, and_self, wipeD, len_lst, len_ro, len_tup, okL_ok, tyChk_str, Den.sl_tup, list_tup, max_ii, min_ii, abs_i, wp_eCall, wp_iEA, okC_ok, wp_outD_keep, mkL_ok, mkT_ok, mkC_ok, le_size, wp_eFld, wp_eMeth, wp_sFldD, Den.len_str, isS, Den.len_str hx, nameB]
    by_cases h1 : (1 : Int) ≤ x.length
    · by_cases h8 : (x.length : Int) ≤ 8
      · try simp only [Den.envOf, List.map_cons, List.map_nil, List.length_cons, List.length_nil, List.replicate, List.cons_append, List.nil_append, List.append_nil, Nat.reduceAdd, Nat.reduceSub, Nat.zero_add, Nat.add_zero, wp_sSeq, wp_fnD, wp_ok, wp_next, wp_ret, wp_ite, wp_ites, outP_ret, wp_sIf, wp_sRet, wp_sRetN, wp_sAsg, wp_sExpr, wp_sNext, wp_sFor, wp_sPar, par2_ok, wp_tOf, wp_tOr, wp_tAnd, wp_tNot, wp_tYes, wp_eBin, wp_eVar0, wp_eVars, wp_eK, wp_eUn, wp_eArgs, wp_aCons, wp_aNil, wp_eAnd, wp_eOr, wp_eNot, wp_eIf, wp_eChain, wp_eSl, wp_eM, wp_oSome, wp_oNone, wp_eFrz, wp_eLc, wp_iL, wp_iT, wp_iS, wp_iR1, gwp_N, gwp_nil, gwp_cons, gwp_T, gwp_sub, List.set_cons_zero, List.set_cons_succ, Bool.not_true, Bool.not_false, Bool.false_eq_true, if_true, if_false, cmp_ii, neg_i, add_ii, sub_ii, decide_eq_true_eq, Nat.reduceLeDiff, Nat.reduceEqDiff, D.bl.injEq, D.int.injEq, D.str.injEq, D.tup.injEq, D.lst.injEq, exists_eq_left', exists_eq_left, true_and, and_true, Option.some.injEq, List.cons.injEq, eq_self, reduceCtorEq, or_false, false_or, false_and, and_false, and_self, wipeD, len_lst, len_ro, len_tup, okL_ok, tyChk_str, Den.sl_tup, list_tup, max_ii, min_ii, abs_i, wp_eCall, wp_iEA, okC_ok, wp_outD_keep, mkL_ok, mkT_ok, mkC_ok, le_size, wp_eFld, wp_eMeth, wp_sFldD, Den.len_str, h1, h8, decide_true]
        refine wp_compOn (fun c => .str ⟨#[c]⟩) (fun _ => true) (fun c => .bl (decide (c ∈ az.cps.toList))) x.cps.toList (by show x.cps.toList.length ≤ _; exact hx) (fun c _ => ?_) (fun c _ _ => ?_) ?_
        · try simp only [Den.envOf, List.map_cons, List.map_nil, List.length_cons, List.length_nil, List.replicate, List.cons_append, List.nil_append, List.append_nil, Nat.reduceAdd, Nat.reduceSub, Nat.zero_add, Nat.add_zero, wp_sSeq, wp_fnD, wp_ok, wp_next, wp_ret, wp_ite, wp_ites, outP_ret, wp_sIf, wp_sRet, wp_sRetN, wp_sAsg, wp_sExpr, wp_sNext, wp_sFor, wp_sPar, par2_ok, wp_tOf, wp_tOr, wp_tAnd, wp_tNot, wp_tYes, wp_eBin, wp_eVar0, wp_eVars, wp_eK, wp_eUn, wp_eArgs, wp_aCons, wp_aNil, wp_eAnd, wp_eOr, wp_eNot, wp_eIf, wp_eChain, wp_eSl, wp_eM, wp_oSome, wp_oNone, wp_eFrz, wp_eLc, wp_iL, wp_iT, wp_iS, wp_iR1, gwp_N, gwp_nil, gwp_cons, gwp_T, gwp_sub, List.set_cons_zero, List.set_cons_succ, Bool.not_true, Bool.not_false, Bool.false_eq_true, if_true, if_false, cmp_ii, neg_i, add_ii, sub_ii, decide_eq_true_eq, Nat.reduceLeDiff, Nat.reduceEqDiff, D.bl.injEq, D.int.injEq, D.str.injEq, D.tup.injEq, D.lst.injEq, exists_eq_left', exists_eq_left, true_and, and_true, Option.some.injEq, List.cons.injEq, eq_self, reduceCtorEq, or_false, false_or, false_and, and_false, and_self, wipeD, len_lst, len_ro, len_tup, okL_ok, tyChk_str, Den.sl_tup, list_tup, max_ii, min_ii, abs_i, wp_eCall, wp_iEA, okC_ok, wp_outD_keep, mkL_ok, mkT_ok, mkC_ok, le_size, wp_eFld, wp_eMeth, wp_sFldD, Den.len_str]
        · try simp only [Den.envOf, List.map_cons, List.map_nil, List.length_cons, List.length_nil, List.replicate, List.cons_append, List.nil_append, List.append_nil, Nat.reduceAdd, Nat.reduceSub, Nat.zero_add, Nat.add_zero, wp_sSeq, wp_fnD, wp_ok, wp_next, wp_ret, wp_ite, wp_ites, outP_ret, wp_sIf, wp_sRet, wp_sRetN, wp_sAsg, wp_sExpr, wp_sNext, wp_sFor, wp_sPar, par2_ok, wp_tOf, wp_tOr, wp_tAnd, wp_tNot, wp_tYes, wp_eBin, wp_eVar0, wp_eVars, wp_eK, wp_eUn, wp_eArgs, wp_aCons, wp_aNil, wp_eAnd, wp_eOr, wp_eNot, wp_eIf, wp_eChain, wp_eSl, wp_eM, wp_oSome, wp_oNone, wp_eFrz, wp_eLc, wp_iL, wp_iT, wp_iS, wp_iR1, gwp_N, gwp_nil, gwp_cons, gwp_T, gwp_sub, List.set_cons_zero, List.set_cons_succ, Bool.not_true, Bool.not_false, Bool.false_eq_true, if_true, if_false, cmp_ii, neg_i, add_ii, sub_ii, decide_eq_true_eq, Nat.reduceLeDiff, Nat.reduceEqDiff, D.bl.injEq, D.int.injEq, D.str.injEq, D.tup.injEq, D.lst.injEq, exists_eq_left', exists_eq_left, true_and, and_true, Option.some.injEq, List.cons.injEq, eq_self, reduceCtorEq, or_false, false_or, false_and, and_false, and_self, wipeD, len_lst, len_ro, len_tup, okL_ok, tyChk_str, Den.sl_tup, list_tup, max_ii, min_ii, abs_i, wp_eCall, wp_iEA, okC_ok, wp_outD_keep, mkL_ok, mkT_ok, mkC_ok, le_size, wp_eFld, wp_eMeth, wp_sFldD, Den.len_str, inD_one]
        rw [filter_yes]
        try simp only [Den.envOf, List.map_cons, List.map_nil, List.length_cons, List.length_nil, List.replicate, List.cons_append, List.nil_append, List.append_nil, Nat.reduceAdd, Nat.reduceSub, Nat.zero_add, Nat.add_zero, wp_sSeq, wp_fnD, wp_ok, wp_next, wp_ret, wp_ite, wp_ites, outP_ret, wp_sIf, wp_sRet, wp_sRetN, wp_sAsg, wp_sExpr, wp_sNext, wp_sFor, wp_sPar, par2_ok, wp_tOf, wp_tOr, wp_tAnd, wp_tNot, wp_tYes, wp_eBin, wp_eVar0, wp_eVars, wp_eK, wp_eUn, wp_eArgs, wp_aCons, wp_aNil, wp_eAnd, wp_eOr, wp_eNot, wp_eIf, wp_eChain, wp_eSl, wp_eM, wp_oSome, wp_oNone, wp_eFrz, wp_eLc, wp_iL, wp_iT, wp_iS, wp_iR1, gwp_N, gwp_nil, gwp_cons, gwp_T, gwp_sub, List.set_cons_zero, List.set_cons_succ, Bool.not_true, Bool.not_false, Bool.false_eq_true, if_true, if_false, cmp_ii, neg_i, add_ii, sub_ii, decide_eq_true_eq, Nat.reduceLeDiff, Nat.reduceEqDiff, D.bl.injEq, D.int.injEq, D.str.injEq, D.tup.injEq, D.lst.injEq, exists_eq_left', exists_eq_left, true_and, and_true, Option.some.injEq, List.cons.injEq, eq_self, reduceCtorEq, or_false, false_or, false_and, and_false, and_self, wipeD, len_lst, len_ro, len_tup, okL_ok, tyChk_str, Den.sl_tup, list_tup, max_ii, min_ii, abs_i, wp_eCall, wp_iEA, okC_ok, wp_outD_keep, mkL_ok, mkT_ok, mkC_ok, le_size, wp_eFld, wp_eMeth, wp_sFldD, Den.len_str, all_bools, wp_outD_same, outD_same]
        simp only [nameX]
        rw [show decide (1 ≤ x.length) = true from decide_eq_true (by omega), show decide (x.length ≤ 8) = true from decide_eq_true (by omega)]
        simp
      · try simp only [Den.envOf, List.map_cons, List.map_nil, List.length_cons, List.length_nil, List.replicate, List.cons_append, List.nil_append, List.append_nil, Nat.reduceAdd, Nat.reduceSub, Nat.zero_add, Nat.add_zero, wp_sSeq, wp_fnD, wp_ok, wp_next, wp_ret, wp_ite, wp_ites, outP_ret, wp_sIf, wp_sRet, wp_sRetN, wp_sAsg, wp_sExpr, wp_sNext, wp_sFor, wp_sPar, par2_ok, wp_tOf, wp_tOr, wp_tAnd, wp_tNot, wp_tYes, wp_eBin, wp_eVar0, wp_eVars, wp_eK, wp_eUn, wp_eArgs, wp_aCons, wp_aNil, wp_eAnd, wp_eOr, wp_eNot, wp_eIf, wp_eChain, wp_eSl, wp_eM, wp_oSome, wp_oNone, wp_eFrz, wp_eLc, wp_iL, wp_iT, wp_iS, wp_iR1, gwp_N, gwp_nil, gwp_cons, gwp_T, gwp_sub, List.set_cons_zero, List.set_cons_succ, Bool.not_true, Bool.not_false, Bool.false_eq_true, if_true, if_false, cmp_ii, neg_i, add_ii, sub_ii, decide_eq_true_eq, Nat.reduceLeDiff, Nat.reduceEqDiff, D.bl.injEq, D.int.injEq, D.str.injEq, D.tup.injEq, D.lst.injEq, exists_eq_left', exists_eq_left, true_and, and_true, Option.some.injEq, List.cons.injEq, eq_self, reduceCtorEq, or_false, false_or, false_and, and_false, and_self, wipeD, len_lst, len_ro, len_tup, okL_ok, tyChk_str, Den.sl_tup, list_tup, max_ii, min_ii, abs_i, wp_eCall, wp_iEA, okC_ok, wp_outD_keep, mkL_ok, mkT_ok, mkC_ok, le_size, wp_eFld, wp_eMeth, wp_sFldD, Den.len_str, h1, h8, decide_true, decide_false, wp_outD_same]
        simp only [nameX]
        rw [show decide (x.length ≤ 8) = false from decide_eq_false (by omega)]
        simp
    · try simp only [Den.envOf, List.map_cons, List.map_nil, List.length_cons, List.length_nil, List.replicate, List.cons_append, List.nil_append, List.append_nil, Nat.reduceAdd, Nat.reduceSub, Nat.zero_add, Nat.add_zero, wp_sSeq, wp_fnD, wp_ok, wp_next, wp_ret, wp_ite, wp_ites, outP_ret, wp_sIf, wp_sRet, wp_sRetN, wp_sAsg, wp_sExpr, wp_sNext, wp_sFor, wp_sPar, par2_ok, wp_tOf, wp_tOr, wp_tAnd, wp_tNot, wp_tYes, wp_eBin, wp_eVar0, wp_eVars, wp_eK, wp_eUn, wp_eArgs, wp_aCons, wp_aNil, wp_eAnd, wp_eOr, wp_eNot, wp_eIf, wp_eChain, wp_eSl, wp_eM, wp_oSome, wp_oNone, wp_eFrz, wp_eLc, wp_iL, wp_iT, wp_iS, wp_iR1, gwp_N, gwp_nil, gwp_cons, gwp_T, gwp_sub, List.set_cons_zero, List.set_cons_succ, Bool.not_true, Bool.not_false, Bool.false_eq_true, if_true, if_false, cmp_ii, neg_i, add_ii, sub_ii, decide_eq_true_eq, Nat.reduceLeDiff, Nat.reduceEqDiff, D.bl.injEq, D.int.injEq, D.str.injEq, D.tup.injEq, D.lst.injEq, exists_eq_left', exists_eq_left, true_and, and_true, Option.some.injEq, List.cons.injEq, eq_self, reduceCtorEq, or_false, false_or, false_and, and_false, and_self, wipeD, len_lst, len_ro, len_tup, okL_ok, tyChk_str, Den.sl_tup, list_tup, max_ii, min_ii, abs_i, wp_eCall, wp_iEA, okC_ok, wp_outD_keep, mkL_ok, mkT_ok, mkC_ok, le_size, wp_eFld, wp_eMeth, wp_sFldD, Den.len_str, h1, decide_true, decide_false, wp_outD_same]
      simp only [nameX]
      rw [show decide (1 ≤ x.length) = false from decide_eq_false (by omega)]
      simp
  | _ => try simp only [Den.envOf, List.map_cons, List.map_nil, List.length_cons, List.length_nil, List.replicate, List.cons_append, List.nil_append, List.append_nil, Nat.reduceAdd, Nat.reduceSub, Nat.zero_add, Nat.add_zero, wp_sSeq, wp_fnD, wp_ok, wp_next, wp_ret, wp_ite, wp_ites, outP_ret, wp_sIf, wp_sRet, wp_sRetN, wp_sAsg, wp_sExpr, wp_sNext, wp_sFor, wp_sPar, par2_ok, wp_tOf, wp_tOr, wp_tAnd, wp_tNot, wp_tYes, wp_eBin, wp_eVar0, wp_eVars, wp_eK, wp_eUn, wp_eArgs, wp_aCons, wp_aNil, wp_eAnd, wp_eOr, wp_eNot, wp_eIf, wp_eChain, wp_eSl, wp_eM, wp_oSome, wp_oNone, wp_eFrz, wp_eLc, wp_iL, wp_iT, wp_iS, wp_iR1, gwp_N, gwp_nil, gwp_cons, gwp_T, gwp_sub, List.set_cons_zero, List.set_cons_succ, Bool.not_true, Bool.not_false, Bool.false_eq_true, if_true, if_false, cmp_ii, neg_i, add_ii, sub_ii, decide_eq_true_eq, Nat.reduceLeDiff, Nat.reduceEqDiff, D.bl.injEq, D.int.injEq, D.str.injEq, D.tup.injEq, D.lst.injEq, exists_eq_left', exists_eq_left, true_and, and_true, Option.some.injEq, List.cons.injEq, eq_self, reduceCtorEq, or_false, false_or, false_and, and_false, and_self, wipeD, len_lst, len_ro, len_tup, okL_ok, tyChk_str, Den.sl_tup, list_tup, max_ii, min_ii, abs_i, wp_eCall, wp_iEA, okC_ok, wp_outD_keep, mkL_ok, mkT_ok, mkC_ok, le_size, wp_eFld, wp_eMeth, wp_sFldD, Den.len_str, isS, nameB, wp_outD_same]
theorem fine_of_lfs {ds : List D} (h : fine (.tup ds) = true) : ∀ d ∈ ds, fine d = true := by
  simp only [fine, Bool.and_eq_true, decide_eq_true_eq, lf, mz, pyD, PyData.depth] at h
  obtain ⟨⟨h1, h2⟩, h3⟩ := h
  have h2 := of_decide_eq_true h2
  have main : ∀ ds : List D, lfs ds = true → mzs ds ≤ 100000 → PyData.depthAll (pyDs ds) ≤ 60 → ∀ d ∈ ds, fine d = true := by
    intro ds
    induction ds with
    | nil => intro _ _ _ d hd; cases hd
    | cons x ds ih =>
      intro g1 g2 g3 d hd
      simp only [lfs, Bool.and_eq_true] at g1
      simp only [mzs] at g2
      simp only [pyDs, PyData.depthAll] at g3
      rcases List.mem_cons.mp hd with rfl | hd
      · simp only [fine, g1.1, Bool.true_and, Bool.and_eq_true, decide_eq_true_eq]; omega
      · exact ih g1.2 (by omega) (by omega) d hd
  exact main ds h1 h2 (by omega)
theorem isjar_eq (h : fine d = true) : denis_jar [d] st = .ok (.bl (jarB d)) st := by
  refine Res.eq_of_wp ?_
  have hl := fine_lf h
  unfold denis_jar
  try simp only [Den.envOf, List.map_cons, List.map_nil, List.length_cons, List.length_nil, List.replicate, List.cons_append, List.nil_append, List.append_nil, Nat.reduceAdd, Nat.reduceSub, Nat.zero_add, Nat.add_zero, wp_sSeq, wp_fnD, wp_ok, wp_next, wp_ret, wp_ite, wp_ites, outP_ret, wp_sIf, wp_sRet, wp_sRetN, wp_sAsg, wp_sExpr, wp_sNext, wp_sFor, wp_sPar, par2_ok, wp_tOf, wp_tOr, wp_tAnd, wp_tNot, wp_tYes, wp_eBin, wp_eVar0, wp_eVars, wp_eK, wp_eUn, wp_eArgs, wp_aCons, wp_aNil, wp_eAnd, wp_eOr, wp_eNot, wp_eIf, wp_eChain, wp_eSl, wp_eM, wp_oSome, wp_oNone, wp_eFrz, wp_eLc, wp_iL, wp_iT, wp_iS, wp_iR1, gwp_N, gwp_nil, gwp_cons, gwp_T, gwp_sub, List.set_cons_zero, List.set_cons_succ, Bool.not_true, Bool.not_false, Bool.false_eq_true, if_true, if_false, cmp_ii, neg_i, add_ii, sub_ii, decide_eq_true_eq, Nat.reduceLeDiff, Nat.reduceEqDiff, D.bl.injEq, D.int.injEq, D.str.injEq, D.tup.injEq, D.lst.injEq, exists_eq_left', exists_eq_left, true_and, and_true, Option.some.injEq, List.cons.injEq, eq_self, reduceCtorEq, or_false, false_or, false_and, and_false, and_self, wipeD, len_lst, len_ro, len_tup, okL_ok, tyChk_str, Den.sl_tup, list_tup, max_ii, min_ii, abs_i, wp_eCall, wp_iEA, okC_ok, wp_outD_keep, mkL_ok, mkT_ok, mkC_ok, le_size, wp_eFld, wp_eMeth, wp_sFldD, Den.len_str, isi_tup hl]
  cases d with
  | tup ds =>
    have hc := fine_of_lfs h
    try simp only [Den.envOf, List.map_cons, List.map_nil, List.length_cons, List.length_nil, List.replicate, List.cons_append, List.nil_append, List.append_nil, Nat.reduceAdd, Nat.reduceSub, Nat.zero_add, Nat.add_zero, wp_sSeq, wp_fnD, wp_ok, wp_next, wp_ret, wp_ite, wp_ites, outP_ret, wp_sIf, wp_sRet, wp_sRetN, wp_sAsg, wp_sExpr, wp_sNext, wp_sFor, wp_sPar, par2_ok, wp_tOf, wp_tOr, wp_tAnd, wp_tNot, wp_tYes, wp_eBin, wp_eVar0, wp_eVars, wp_eK, wp_eUn, wp_eArgs, wp_aCons, wp_aNil, wp_eAnd, wp_eOr, wp_eNot, wp_eIf, wp_eChain, wp_eSl, wp_eM, wp_oSome, wp_oNone, wp_eFrz, wp_eLc, wp_iL, wp_iT, wp_iS, wp_iR1, gwp_N, gwp_nil, gwp_cons, gwp_T, gwp_sub, List.set_cons_zero, List.set_cons_succ, Bool.not_true, Bool.not_false, Bool.false_eq_true, if_true, if_false, cmp_ii, neg_i, add_ii, sub_ii, decide_eq_true_eq, Nat.reduceLeDiff, Nat.reduceEqDiff, D.bl.injEq, D.int.injEq, D.str.injEq, D.tup.injEq, D.lst.injEq, exists_eq_left', exists_eq_left, true_and, and_true, Option.some.injEq, List.cons.injEq, eq_self, reduceCtorEq, or_false, false_or, false_and, and_false, and_self, wipeD, len_lst, len_ro, len_tup, okL_ok, tyChk_str, Den.sl_tup, list_tup, max_ii, min_ii, abs_i, wp_eCall, wp_iEA, okC_ok, wp_outD_keep, mkL_ok, mkT_ok, mkC_ok, le_size, wp_eFld, wp_eMeth, wp_sFldD, Den.len_str, isT, ne_ii]
    match ds, hc with
    | [n, b, g], hc =>
      have hn := hc n (by simp)
      have hb := fine_lf (hc b (by simp))
      have hg := fine_lf (hc g (by simp))
      try simp only [Den.envOf, List.map_cons, List.map_nil, List.length_cons, List.length_nil, List.replicate, List.cons_append, List.nil_append, List.append_nil, Nat.reduceAdd, Nat.reduceSub, Nat.zero_add, Nat.add_zero, wp_sSeq, wp_fnD, wp_ok, wp_next, wp_ret, wp_ite, wp_ites, outP_ret, wp_sIf, wp_sRet, wp_sRetN, wp_sAsg, wp_sExpr, wp_sNext, wp_sFor, wp_sPar, par2_ok, wp_tOf, wp_tOr, wp_tAnd, wp_tNot, wp_tYes, wp_eBin, wp_eVar0, wp_eVars, wp_eK, wp_eUn, wp_eArgs, wp_aCons, wp_aNil, wp_eAnd, wp_eOr, wp_eNot, wp_eIf, wp_eChain, wp_eSl, wp_eM, wp_oSome, wp_oNone, wp_eFrz, wp_eLc, wp_iL, wp_iT, wp_iS, wp_iR1, gwp_N, gwp_nil, gwp_cons, gwp_T, gwp_sub, List.set_cons_zero, List.set_cons_succ, Bool.not_true, Bool.not_false, Bool.false_eq_true, if_true, if_false, cmp_ii, neg_i, add_ii, sub_ii, decide_eq_true_eq, Nat.reduceLeDiff, Nat.reduceEqDiff, D.bl.injEq, D.int.injEq, D.str.injEq, D.tup.injEq, D.lst.injEq, exists_eq_left', exists_eq_left, true_and, and_true, Option.some.injEq, List.cons.injEq, eq_self, reduceCtorEq, or_false, false_or, false_and, and_false, and_self, wipeD, len_lst, len_ro, len_tup, okL_ok, tyChk_str, Den.sl_tup, list_tup, max_ii, min_ii, abs_i, wp_eCall, wp_iEA, okC_ok, wp_outD_keep, mkL_ok, mkT_ok, mkC_ok, le_size, wp_eFld, wp_eMeth, wp_sFldD, Den.len_str, name_eq hn, base_eq hb, grains_eq hg, wp_outD_same, jarB]
      cases nameB n <;> cases baseB b <;> simp
    | [], _ => try simp only [Den.envOf, List.map_cons, List.map_nil, List.length_cons, List.length_nil, List.replicate, List.cons_append, List.nil_append, List.append_nil, Nat.reduceAdd, Nat.reduceSub, Nat.zero_add, Nat.add_zero, wp_sSeq, wp_fnD, wp_ok, wp_next, wp_ret, wp_ite, wp_ites, outP_ret, wp_sIf, wp_sRet, wp_sRetN, wp_sAsg, wp_sExpr, wp_sNext, wp_sFor, wp_sPar, par2_ok, wp_tOf, wp_tOr, wp_tAnd, wp_tNot, wp_tYes, wp_eBin, wp_eVar0, wp_eVars, wp_eK, wp_eUn, wp_eArgs, wp_aCons, wp_aNil, wp_eAnd, wp_eOr, wp_eNot, wp_eIf, wp_eChain, wp_eSl, wp_eM, wp_oSome, wp_oNone, wp_eFrz, wp_eLc, wp_iL, wp_iT, wp_iS, wp_iR1, gwp_N, gwp_nil, gwp_cons, gwp_T, gwp_sub, List.set_cons_zero, List.set_cons_succ, Bool.not_true, Bool.not_false, Bool.false_eq_true, if_true, if_false, cmp_ii, neg_i, add_ii, sub_ii, decide_eq_true_eq, Nat.reduceLeDiff, Nat.reduceEqDiff, D.bl.injEq, D.int.injEq, D.str.injEq, D.tup.injEq, D.lst.injEq, exists_eq_left', exists_eq_left, true_and, and_true, Option.some.injEq, List.cons.injEq, eq_self, reduceCtorEq, or_false, false_or, false_and, and_false, and_self, wipeD, len_lst, len_ro, len_tup, okL_ok, tyChk_str, Den.sl_tup, list_tup, max_ii, min_ii, abs_i, wp_eCall, wp_iEA, okC_ok, wp_outD_keep, mkL_ok, mkT_ok, mkC_ok, le_size, wp_eFld, wp_eMeth, wp_sFldD, Den.len_str, jarB, wp_outD_same]; simp
    | [_], _ => try simp only [Den.envOf, List.map_cons, List.map_nil, List.length_cons, List.length_nil, List.replicate, List.cons_append, List.nil_append, List.append_nil, Nat.reduceAdd, Nat.reduceSub, Nat.zero_add, Nat.add_zero, wp_sSeq, wp_fnD, wp_ok, wp_next, wp_ret, wp_ite, wp_ites, outP_ret, wp_sIf, wp_sRet, wp_sRetN, wp_sAsg, wp_sExpr, wp_sNext, wp_sFor, wp_sPar, par2_ok, wp_tOf, wp_tOr, wp_tAnd, wp_tNot, wp_tYes, wp_eBin, wp_eVar0, wp_eVars, wp_eK, wp_eUn, wp_eArgs, wp_aCons, wp_aNil, wp_eAnd, wp_eOr, wp_eNot, wp_eIf, wp_eChain, wp_eSl, wp_eM, wp_oSome, wp_oNone, wp_eFrz, wp_eLc, wp_iL, wp_iT, wp_iS, wp_iR1, gwp_N, gwp_nil, gwp_cons, gwp_T, gwp_sub, List.set_cons_zero, List.set_cons_succ, Bool.not_true, Bool.not_false, Bool.false_eq_true, if_true, if_false, cmp_ii, neg_i, add_ii, sub_ii, decide_eq_true_eq, Nat.reduceLeDiff, Nat.reduceEqDiff, D.bl.injEq, D.int.injEq, D.str.injEq, D.tup.injEq, D.lst.injEq, exists_eq_left', exists_eq_left, true_and, and_true, Option.some.injEq, List.cons.injEq, eq_self, reduceCtorEq, or_false, false_or, false_and, and_false, and_self, wipeD, len_lst, len_ro, len_tup, okL_ok, tyChk_str, Den.sl_tup, list_tup, max_ii, min_ii, abs_i, wp_eCall, wp_iEA, okC_ok, wp_outD_keep, mkL_ok, mkT_ok, mkC_ok, le_size, wp_eFld, wp_eMeth, wp_sFldD, Den.len_str, jarB, wp_outD_same]; simp
    | [_, _], _ => try simp only [Den.envOf, List.map_cons, List.map_nil, List.length_cons, List.length_nil, List.replicate, List.cons_append, List.nil_append, List.append_nil, Nat.reduceAdd, Nat.reduceSub, Nat.zero_add, Nat.add_zero, wp_sSeq, wp_fnD, wp_ok, wp_next, wp_ret, wp_ite, wp_ites, outP_ret, wp_sIf, wp_sRet, wp_sRetN, wp_sAsg, wp_sExpr, wp_sNext, wp_sFor, wp_sPar, par2_ok, wp_tOf, wp_tOr, wp_tAnd, wp_tNot, wp_tYes, wp_eBin, wp_eVar0, wp_eVars, wp_eK, wp_eUn, wp_eArgs, wp_aCons, wp_aNil, wp_eAnd, wp_eOr, wp_eNot, wp_eIf, wp_eChain, wp_eSl, wp_eM, wp_oSome, wp_oNone, wp_eFrz, wp_eLc, wp_iL, wp_iT, wp_iS, wp_iR1, gwp_N, gwp_nil, gwp_cons, gwp_T, gwp_sub, List.set_cons_zero, List.set_cons_succ, Bool.not_true, Bool.not_false, Bool.false_eq_true, if_true, if_false, cmp_ii, neg_i, add_ii, sub_ii, decide_eq_true_eq, Nat.reduceLeDiff, Nat.reduceEqDiff, D.bl.injEq, D.int.injEq, D.str.injEq, D.tup.injEq, D.lst.injEq, exists_eq_left', exists_eq_left, true_and, and_true, Option.some.injEq, List.cons.injEq, eq_self, reduceCtorEq, or_false, false_or, false_and, and_false, and_self, wipeD, len_lst, len_ro, len_tup, okL_ok, tyChk_str, Den.sl_tup, list_tup, max_ii, min_ii, abs_i, wp_eCall, wp_iEA, okC_ok, wp_outD_keep, mkL_ok, mkT_ok, mkC_ok, le_size, wp_eFld, wp_eMeth, wp_sFldD, Den.len_str, jarB, wp_outD_same]; simp
    | _ :: _ :: _ :: _ :: r, _ =>
      have : ¬ ((r.length : Int) + 1 + 1 + 1 + 1 = 3) := by omega
      try simp only [Den.envOf, List.map_cons, List.map_nil, List.length_cons, List.length_nil, List.replicate, List.cons_append, List.nil_append, List.append_nil, Nat.reduceAdd, Nat.reduceSub, Nat.zero_add, Nat.add_zero, wp_sSeq, wp_fnD, wp_ok, wp_next, wp_ret, wp_ite, wp_ites, outP_ret, wp_sIf, wp_sRet, wp_sRetN, wp_sAsg, wp_sExpr, wp_sNext, wp_sFor, wp_sPar, par2_ok, wp_tOf, wp_tOr, wp_tAnd, wp_tNot, wp_tYes, wp_eBin, wp_eVar0, wp_eVars, wp_eK, wp_eUn, wp_eArgs, wp_aCons, wp_aNil, wp_eAnd, wp_eOr, wp_eNot, wp_eIf, wp_eChain, wp_eSl, wp_eM, wp_oSome, wp_oNone, wp_eFrz, wp_eLc, wp_iL, wp_iT, wp_iS, wp_iR1, gwp_N, gwp_nil, gwp_cons, gwp_T, gwp_sub, List.set_cons_zero, List.set_cons_succ, Bool.not_true, Bool.not_false, Bool.false_eq_true, if_true, if_false, cmp_ii, neg_i, add_ii, sub_ii, decide_eq_true_eq, Nat.reduceLeDiff, Nat.reduceEqDiff, D.bl.injEq, D.int.injEq, D.str.injEq, D.tup.injEq, D.lst.injEq, exists_eq_left', exists_eq_left, true_and, and_true, Option.some.injEq, List.cons.injEq, eq_self, reduceCtorEq, or_false, false_or, false_and, and_false, and_self, wipeD, len_lst, len_ro, len_tup, okL_ok, tyChk_str, Den.sl_tup, list_tup, max_ii, min_ii, abs_i, wp_eCall, wp_iEA, okC_ok, wp_outD_keep, mkL_ok, mkT_ok, mkC_ok, le_size, wp_eFld, wp_eMeth, wp_sFldD, Den.len_str, jarB, wp_outD_same]
      simp
      omega
  | _ => try simp only [Den.envOf, List.map_cons, List.map_nil, List.length_cons, List.length_nil, List.replicate, List.cons_append, List.nil_append, List.append_nil, Nat.reduceAdd, Nat.reduceSub, Nat.zero_add, Nat.add_zero, wp_sSeq, wp_fnD, wp_ok, wp_next, wp_ret, wp_ite, wp_ites, outP_ret, wp_sIf, wp_sRet, wp_sRetN, wp_sAsg, wp_sExpr, wp_sNext, wp_sFor, wp_sPar, par2_ok, wp_tOf, wp_tOr, wp_tAnd, wp_tNot, wp_tYes, wp_eBin, wp_eVar0, wp_eVars, wp_eK, wp_eUn, wp_eArgs, wp_aCons, wp_aNil, wp_eAnd, wp_eOr, wp_eNot, wp_eIf, wp_eChain, wp_eSl, wp_eM, wp_oSome, wp_oNone, wp_eFrz, wp_eLc, wp_iL, wp_iT, wp_iS, wp_iR1, gwp_N, gwp_nil, gwp_cons, gwp_T, gwp_sub, List.set_cons_zero, List.set_cons_succ, Bool.not_true, Bool.not_false, Bool.false_eq_true, if_true, if_false, cmp_ii, neg_i, add_ii, sub_ii, decide_eq_true_eq, Nat.reduceLeDiff, Nat.reduceEqDiff, D.bl.injEq, D.int.injEq, D.str.injEq, D.tup.injEq, D.lst.injEq, exists_eq_left', exists_eq_left, true_and, and_true, Option.some.injEq, List.cons.injEq, eq_self, reduceCtorEq, or_false, false_or, false_and, and_false, and_self, wipeD, len_lst, len_ro, len_tup, okL_ok, tyChk_str, Den.sl_tup, list_tup, max_ii, min_ii, abs_i, wp_eCall, wp_iEA, okC_ok, wp_outD_keep, mkL_ok, mkT_ok, mkC_ok, le_size, wp_eFld, wp_eMeth, wp_sFldD, Den.len_str, isT, jarB, wp_outD_same]
end

theorem Lb.nameB {x : Str} (h : Lb x) : nameB (.str x) = true := by
  obtain ⟨cs, rfl, h1, h8, hc⟩ := h
  simp only [Q.nameB, nameX, Bool.and_eq_true, decide_eq_true_eq, List.all_eq_true, SX.S_len]
  refine ⟨⟨h1, h8⟩, fun c hm => ?_⟩
  exact az_mem.mpr (hc c (by simpa [SX.S] using hm))
theorem jarB_ok {B : Int} {ts : List J3} (h : JsB B ts) : ∀ t ∈ ts, jarB (jD t) = true := fun t ht => by
  have h1 := h.b2 t ht
  have h2 := h.b6 t ht
  have h3 := h.g0 t ht
  simp only [jarB, jD, (h.lb t ht).nameB, baseB, atLeast, Bool.and_eq_true, decide_eq_true_eq, true_and]
  omega
theorem Lb.fd {x : Str} (h : Lb x) : Fd 8 0 (.str x) := by
  obtain ⟨cs, rfl, h1, h8, hc⟩ := h
  refine Sf.fd ⟨fun c hm => ?_, by simpa [SX.S] using h8⟩
  have := hc c (by simpa [SX.S] using hm)
  omega
theorem fd_int {i : Int} (h : i.natAbs < 10 ^ 150) : Fd 500 0 (.int i) := Fd.int h
theorem jD_fd {B : Int} {ts : List J3} (h : JsB B ts) (hB : B ≤ 10 ^ 150) : ∀ t ∈ ts, Fd 1503 1 (jD t) := fun t ht => by
  have h1 := h.b2 t ht
  have h2 := h.b6 t ht
  have h3 := h.g0 t ht
  have h4 := h.gB t ht
  refine (Fd.tup (m := 500) (k := 0) (n := 3) (fun d hd => ?_) (by simp)).mono
  simp only [jD, List.mem_cons, List.not_mem_nil, or_false] at hd
  rcases hd with rfl | rfl | rfl
  · exact (h.lb t ht).fd.mono
  · exact Fd.int (by omega)
  · exact Fd.int (by omega)
theorem isjar_ok {B : Int} {ts : List J3} {st : Store} (h : JsB B ts) (hB : B ≤ 10 ^ 150) : ∀ t ∈ ts, denis_jar [jD t] st = .ok (.bl true) st := fun t ht => by
  rw [isjar_eq ((jD_fd h hB t ht).fine), jarB_ok h t ht]
theorem grains_ok {i : Int} {st : Store} (h0 : 0 ≤ i) (h1 : i < 10 ^ 150) : denis_grains [.int i] st = .ok (.bl true) st := by
  rw [grains_eq (by simp only [lf, intFit, decide_eq_true_eq]; omega)]
  simp [atLeast, h0]
end Q

namespace Q
open PySem PySem.Spec PyProof.Rows L2 Den
/-! ### the product -/
def prodB (ts : List J3) : Int := ts.foldl (fun a t => a * t.2.1) 1
section
variable {st : Store} {d : D} {c : Nat} {fs : List (Str × D)} {ts : List J3} {x : Str} {B : Int}
/-! ### shapes are made -/
theorem zip_fst {α : Type} : ∀ (k : Nat) (ts : List α), (ts.zipIdx k).map (·.1) = ts
  | _, [] => rfl
  | k, t :: ts => by simp [List.zipIdx_cons, zip_fst (k + 1) ts]
local macro_rules
  | `(tactic| simp! only [$xs,*]) => `(tactic| simp (disch := first | assumption | exact id rfl | omega | (simp only [List.length_map, List.length_append, List.length_cons, List.length_nil, List.length_set, List.length_replicate, List.length_take, List.length_drop, List.length_reverse] <;> omega) | (simp only [if_true, if_false, eq_self, Nat.reduceEqDiff]; done) | (simp only [lo_non, lo_bl, lo_int, lo_str, lo_lst, lo_tup, lo_ins, loS_nil, loS_cons, loF_nil, loF_cons, loC_lst, loC_ins, loS_app, ev_1, ev_2, ev_3, ev_4, ev_6, ev_7, ev_8, ev_9, ev_10, ev_13, ev_14, ev_15, ev_16, ev_17, ev_18, ev_26, ev_27, ev_30, ev_31, ev_32, ev_33, ev_34, ev_35, ev_44, ev_45, ev_46, ev_47, ev_48, ev_49, ev_50, ev_51, ev_57, ev_58, lo_jars, lo_strs, lo_jD, lo_own, lo_rowL, lo_sh]; done) | fail) only [↓wp_ok, ↓wp_next, ↓wp_ret, ↓wp_sSeq, ↓wp_fnD, ↓outP_ret, ↓wp_outD_same, ↓wp_outD_keep, cmp_ii, neg_i, add_ii, sub_ii, mod_ii, len_lst, len_ro, len_tup, ↓wp_eK, ↓wp_eVar0, ↓wp_eVars, ↓wp_eBin, ↓wp_eUn, ↓wp_eArgs, ↓wp_aNil, ↓wp_aCons, ↓wp_tYes, ↓wp_tNot, ↓wp_tAnd, ↓wp_tOr, ↓wp_eIf, ↓wp_oNone, ↓wp_eSl, ↓wp_eFrz, ↓wp_eLc, ↓gwp_N, ↓gwp_nil, ↓gwp_cons, ↓gwp_T, ↓wp_sNext, ↓wp_sRet, ↓wp_sRetN, ↓wp_sExpr, ↓wp_sIf, ↓wp_sAsg, ↓par2_ok, ↓wp_sPar, ↓wp_sFor, tyChk_str, Den.sl_tup, okL_ok, list_tup, max_ii, min_ii, abs_i, ne_ii, eq_ii, eq_ss, ↓wp_eCall, okC_ok, ↓wp_outD_app, ↓wp_outD_st, app_app, mul_ib, fdiv_ib, divmod_ib, pow_ib, ofO_some, ↓wp_ofO, ix_lstE, ix_roE, ix_tupE, atI_0, atI_1, atI_2, atI_3, atI_4, atI_map, tyChk_lst, lo_non, lo_bl, lo_int, lo_str, lo_lst, lo_tup, lo_ins, loS_nil, loS_cons, loF_nil, loF_cons, loC_lst, loC_ins, loS_app, insOf_ins, add_ll', add_tt', add_ss', mkL_ok', mkT_ok', mkC_ok', len_str', ne_ss, imul_ib, iadd_ii, ↓wp_sAug, isN_non, isN_int, isN_str, isN_tup, isN_lst, notN_non, notN_int, notN_str, notN_tup, notN_lst, isi_str_non, isi_str_bl, isi_str_int, isi_str_str, isi_str_lst, isi_str_tup, isi_str_dct, isi_int_non, isi_int_bl, isi_int_int, isi_int_str, isi_int_lst, isi_int_tup, isi_int_dct, isi_bool_non, isi_bool_bl, isi_bool_int, isi_bool_str, isi_bool_lst, isi_bool_tup, isi_bool_dct, isi_list_non, isi_list_bl, isi_list_int, isi_list_str, isi_list_lst, isi_list_tup, isi_list_dct, isi_tuple_non, isi_tuple_bl, isi_tuple_int, isi_tuple_str, isi_tuple_lst, isi_tuple_tup, isi_tuple_dct, isi_dict_non, isi_dict_bl, isi_dict_int, isi_dict_str, isi_dict_lst, isi_dict_tup, isi_dict_dct, ↓insK_some, ↓optK_some, ↓cinK_app, ↓wp_eFldK, ↓wp_eMethK, ↓wp_sFldK, look_eq, look_ne, look_nil, put_nil, put_eq, put_ne, ↓blK_ok, ↓intK_ok, ↓strK_ok, ↓lstK_lst, ↓lstK_ro, ↓tupK_ok, ↓sqK_lst, ↓sqK_ro, ↓sqK_tup, ↓oneK_ok, ↓twoK_ok, ↓rngK_ok, ↓andK_true, ↓wk_tOf, ↓wk_eAnd, ↓wk_eOr, ↓wk_eNot, ↓wk_eChain, ↓wk_eM, ↓wk_oSome, ↓wk_iL, ↓wk_iT, ↓wk_iS, ↓wk_iR1, ↓wk_iR2, ↓wk_iEA, ↓wk_gsub, ↓lcK_ok, ↓lfK_ok, ↓lfK_fz, ↓szK_ok, ↓wk_append, ↓wk_reverse, ↓wk_clear, ↓wk_ixc, ↓frK_ok, ↓frK_fz, ↓wk_frz, ↓wk_frzL, ↓wk_lenc, ↓wk_setc, ↓wk_tyc, get_at0, get_at1, get_at2, get_at3, set_at0, set_at1, set_at2, set_at3, ↓wp_itemF, filterMap_some', filterMap_if, ↓itK_none, ↓itK_some, ↓wp_compN, ↓wp_forN, ↓wp_forC, ev_1, ev_2, ev_3, ev_4, ev_6, ev_7, ev_8, ev_9, ev_10, ev_11, ev_12, ev_13, ev_14, ev_15, ev_16, ev_17, ev_18, ev_19, ev_20, ev_21, ev_22, ev_23, ev_24, ev_25, ev_26, ev_27, ev_28, ev_29, ev_30, ev_31, ev_32, ev_33, ev_34, ev_35, ev_37, ev_38, ev_39, ev_40, ev_41, ev_42, ev_43, ev_44, ev_45, ev_46, ev_47, ev_48, ev_49, ev_50, ev_51, ev_54, ev_55, ev_56, ev_57, ev_58, ev_envOf, ev_wipe0, ev_wipe1, ev_rep0, ev_rep1, pick_cons, pick_nil, ↓szS_ok, ↓wk_jsN, ↓wk_js, fmt_s, fmt_i, str_i, str_s, int1_i, int1_b, isi_own, ↓wk_iZ, ↓wk_iV, zip_map, rev_lst, ↓par3_ok, ↓wp_sPar3, ↓truK_t, ↓truK_f, ↓wp_eOrT, truD_non, truD_bl, truD_int, truD_tup, truD_lst, ↓wk_slc, beqI_f, beqI_t, isub_ii, ifdiv_ib, ↓gwp_star1, ↓gwp_star0, lo_jars, lo_strs, lo_jD, lo_own, lo_rowL, lo_sh, ↓lstK_rowL, ↓sqK_rowL, ↓tupK_own, len_rowL, len_own, ix_rowL, ix_own, sl_rowL, tup_rowL, list_rowL, list_own, ↓reduceIte, Nat.reduceAdd, Nat.reduceSub, Nat.reduceLeDiff, Nat.reduceEqDiff, Nat.reduceLT, Nat.reduceBEq, Int.reduceDiv, reduceCtorEq, $xs,*])
  | `(tactic| dsimp! only [$xs,*]) => `(tactic| simp (disch := first | assumption | exact id rfl | omega | (simp only [List.length_map, List.length_append, List.length_cons, List.length_nil, List.length_set, List.length_replicate, List.length_take, List.length_drop, List.length_reverse] <;> omega) | (simp only [if_true, if_false, eq_self, Nat.reduceEqDiff]; done) | (simp only [lo_non, lo_bl, lo_int, lo_str, lo_lst, lo_tup, lo_ins, loS_nil, loS_cons, loF_nil, loF_cons, loC_lst, loC_ins, loS_app, ev_1, ev_2, ev_3, ev_4, ev_6, ev_7, ev_8, ev_9, ev_10, ev_13, ev_14, ev_15, ev_16, ev_17, ev_18, ev_26, ev_27, ev_30, ev_31, ev_32, ev_33, ev_34, ev_35, ev_44, ev_45, ev_46, ev_47, ev_48, ev_49, ev_50, ev_51, ev_57, ev_58, lo_jars, lo_strs, lo_jD, lo_own, lo_rowL, lo_sh]; done) | exact fun _ => id rfl | fail) only [↓wp_ok, ↓wp_next, ↓wp_ret, ↓wp_sSeq, ↓wp_fnD, ↓outP_ret, ↓wp_outD_same, ↓wp_outD_keep, cmp_ii, neg_i, add_ii, sub_ii, mod_ii, len_lst, len_ro, len_tup, ↓wp_eK, ↓wp_eVar0, ↓wp_eVars, ↓wp_eBin, ↓wp_eUn, ↓wp_eArgs, ↓wp_aNil, ↓wp_aCons, ↓wp_tYes, ↓wp_tNot, ↓wp_tAnd, ↓wp_tOr, ↓wp_eIf, ↓wp_oNone, ↓wp_eSl, ↓wp_eFrz, ↓wp_eLc, ↓gwp_N, ↓gwp_nil, ↓gwp_cons, ↓gwp_T, ↓wp_sNext, ↓wp_sRet, ↓wp_sRetN, ↓wp_sExpr, ↓wp_sIf, ↓wp_sAsg, ↓par2_ok, ↓wp_sPar, ↓wp_sFor, tyChk_str, Den.sl_tup, okL_ok, list_tup, max_ii, min_ii, abs_i, ne_ii, eq_ii, eq_ss, ↓wp_eCall, okC_ok, ↓wp_outD_app, ↓wp_outD_st, app_app, mul_ib, fdiv_ib, divmod_ib, pow_ib, ofO_some, ↓wp_ofO, ix_lstE, ix_roE, ix_tupE, atI_0, atI_1, atI_2, atI_3, atI_4, atI_map, tyChk_lst, lo_non, lo_bl, lo_int, lo_str, lo_lst, lo_tup, lo_ins, loS_nil, loS_cons, loF_nil, loF_cons, loC_lst, loC_ins, loS_app, insOf_ins, add_ll', add_tt', add_ss', mkL_ok', mkT_ok', mkC_ok', len_str', ne_ss, imul_ib, iadd_ii, ↓wp_sAug, isN_non, isN_int, isN_str, isN_tup, isN_lst, notN_non, notN_int, notN_str, notN_tup, notN_lst, isi_str_non, isi_str_bl, isi_str_int, isi_str_str, isi_str_lst, isi_str_tup, isi_str_dct, isi_int_non, isi_int_bl, isi_int_int, isi_int_str, isi_int_lst, isi_int_tup, isi_int_dct, isi_bool_non, isi_bool_bl, isi_bool_int, isi_bool_str, isi_bool_lst, isi_bool_tup, isi_bool_dct, isi_list_non, isi_list_bl, isi_list_int, isi_list_str, isi_list_lst, isi_list_tup, isi_list_dct, isi_tuple_non, isi_tuple_bl, isi_tuple_int, isi_tuple_str, isi_tuple_lst, isi_tuple_tup, isi_tuple_dct, isi_dict_non, isi_dict_bl, isi_dict_int, isi_dict_str, isi_dict_lst, isi_dict_tup, isi_dict_dct, ↓insK_some, ↓optK_some, ↓cinK_app, ↓wp_eFldK, ↓wp_eMethK, ↓wp_sFldK, look_eq, look_ne, look_nil, put_nil, put_eq, put_ne, ↓blK_ok, ↓intK_ok, ↓strK_ok, ↓lstK_lst, ↓lstK_ro, ↓tupK_ok, ↓sqK_lst, ↓sqK_ro, ↓sqK_tup, ↓oneK_ok, ↓twoK_ok, ↓rngK_ok, ↓andK_true, ↓wk_tOf, ↓wk_eAnd, ↓wk_eOr, ↓wk_eNot, ↓wk_eChain, ↓wk_eM, ↓wk_oSome, ↓wk_iL, ↓wk_iT, ↓wk_iS, ↓wk_iR1, ↓wk_iR2, ↓wk_iEA, ↓wk_gsub, ↓lcK_ok, ↓lfK_ok, ↓lfK_fz, ↓szK_ok, ↓wk_append, ↓wk_reverse, ↓wk_clear, ↓wk_ixc, ↓frK_ok, ↓frK_fz, ↓wk_frz, ↓wk_frzL, ↓wk_lenc, ↓wk_setc, ↓wk_tyc, get_at0, get_at1, get_at2, get_at3, set_at0, set_at1, set_at2, set_at3, ↓wp_itemF, filterMap_some', filterMap_if, ↓itK_none, ↓itK_some, ↓wp_compN, ↓wp_forN, ↓wp_forC, ev_1, ev_2, ev_3, ev_4, ev_6, ev_7, ev_8, ev_9, ev_10, ev_11, ev_12, ev_13, ev_14, ev_15, ev_16, ev_17, ev_18, ev_19, ev_20, ev_21, ev_22, ev_23, ev_24, ev_25, ev_26, ev_27, ev_28, ev_29, ev_30, ev_31, ev_32, ev_33, ev_34, ev_35, ev_37, ev_38, ev_39, ev_40, ev_41, ev_42, ev_43, ev_44, ev_45, ev_46, ev_47, ev_48, ev_49, ev_50, ev_51, ev_54, ev_55, ev_56, ev_57, ev_58, ev_envOf, ev_wipe0, ev_wipe1, ev_rep0, ev_rep1, pick_cons, pick_nil, ↓szS_ok, ↓wk_jsN, ↓wk_js, fmt_s, fmt_i, str_i, str_s, int1_i, int1_b, isi_own, ↓wk_iZ, ↓wk_iV, zip_map, rev_lst, ↓par3_ok, ↓wp_sPar3, ↓truK_t, ↓truK_f, ↓wp_eOrT, truD_non, truD_bl, truD_int, truD_tup, truD_lst, ↓wk_slc, beqI_f, beqI_t, isub_ii, ifdiv_ib, ↓gwp_star1, ↓gwp_star0, lo_jars, lo_strs, lo_jD, lo_own, lo_rowL, lo_sh, ↓lstK_rowL, ↓sqK_rowL, ↓tupK_own, len_rowL, len_own, ix_rowL, ix_own, sl_rowL, tup_rowL, list_rowL, list_own, ↓reduceIte, Nat.reduceAdd, Nat.reduceSub, Nat.reduceLeDiff, Nat.reduceEqDiff, Nat.reduceLT, Nat.reduceBEq, Int.reduceDiv, reduceCtorEq, $xs,*])
  | `(tactic| simp_all! only [$xs,*]) => `(tactic| simp only [↓wp_ok, ↓wp_next, ↓wp_ret, ↓wp_sSeq, ↓wp_fnD, ↓outP_ret, ↓wp_outD_same, ↓wp_outD_keep, cmp_ii, neg_i, add_ii, sub_ii, mod_ii, len_lst, len_ro, len_tup, ↓wp_eK, ↓wp_eVar0, ↓wp_eVars, ↓wp_eBin, ↓wp_eUn, ↓wp_eArgs, ↓wp_aNil, ↓wp_aCons, ↓wp_tYes, ↓wp_tNot, ↓wp_tAnd, ↓wp_tOr, ↓wp_eIf, ↓wp_oNone, ↓wp_eSl, ↓wp_eFrz, ↓wp_eLc, ↓gwp_N, ↓gwp_nil, ↓gwp_cons, ↓gwp_T, ↓wp_sNext, ↓wp_sRet, ↓wp_sRetN, ↓wp_sExpr, ↓wp_sIf, ↓wp_sAsg, ↓par2_ok, ↓wp_sPar, ↓wp_sFor, tyChk_str, Den.sl_tup, okL_ok, list_tup, max_ii, min_ii, abs_i, ne_ii, eq_ii, eq_ss, ↓wp_eCall, okC_ok, ↓wp_outD_app, ↓wp_outD_st, app_app, mul_ib, fdiv_ib, divmod_ib, pow_ib, ofO_some, ↓wp_ofO, ix_lstE, ix_roE, ix_tupE, atI_0, atI_1, atI_2, atI_3, atI_4, atI_map, tyChk_lst, lo_non, lo_bl, lo_int, lo_str, lo_lst, lo_tup, lo_ins, loS_nil, loS_cons, loF_nil, loF_cons, loC_lst, loC_ins, loS_app, insOf_ins, add_ll', add_tt', add_ss', mkL_ok', mkT_ok', mkC_ok', len_str', ne_ss, imul_ib, iadd_ii, ↓wp_sAug, isN_non, isN_int, isN_str, isN_tup, isN_lst, notN_non, notN_int, notN_str, notN_tup, notN_lst, isi_str_non, isi_str_bl, isi_str_int, isi_str_str, isi_str_lst, isi_str_tup, isi_str_dct, isi_int_non, isi_int_bl, isi_int_int, isi_int_str, isi_int_lst, isi_int_tup, isi_int_dct, isi_bool_non, isi_bool_bl, isi_bool_int, isi_bool_str, isi_bool_lst, isi_bool_tup, isi_bool_dct, isi_list_non, isi_list_bl, isi_list_int, isi_list_str, isi_list_lst, isi_list_tup, isi_list_dct, isi_tuple_non, isi_tuple_bl, isi_tuple_int, isi_tuple_str, isi_tuple_lst, isi_tuple_tup, isi_tuple_dct, isi_dict_non, isi_dict_bl, isi_dict_int, isi_dict_str, isi_dict_lst, isi_dict_tup, isi_dict_dct, ↓insK_some, ↓optK_some, ↓cinK_app, ↓wp_eFldK, ↓wp_eMethK, ↓wp_sFldK, look_eq, look_ne, look_nil, put_nil, put_eq, put_ne, ↓blK_ok, ↓intK_ok, ↓strK_ok, ↓lstK_lst, ↓lstK_ro, ↓tupK_ok, ↓sqK_lst, ↓sqK_ro, ↓sqK_tup, ↓oneK_ok, ↓twoK_ok, ↓rngK_ok, ↓andK_true, ↓wk_tOf, ↓wk_eAnd, ↓wk_eOr, ↓wk_eNot, ↓wk_eChain, ↓wk_eM, ↓wk_oSome, ↓wk_iL, ↓wk_iT, ↓wk_iS, ↓wk_iR1, ↓wk_iR2, ↓wk_iEA, ↓wk_gsub, ↓lcK_ok, ↓lfK_ok, ↓lfK_fz, ↓szK_ok, ↓wk_append, ↓wk_reverse, ↓wk_clear, ↓wk_ixc, ↓frK_ok, ↓frK_fz, ↓wk_frz, ↓wk_frzL, ↓wk_lenc, ↓wk_setc, ↓wk_tyc, get_at0, get_at1, get_at2, get_at3, set_at0, set_at1, set_at2, set_at3, ↓wp_itemF, filterMap_some', filterMap_if, ↓itK_none, ↓itK_some, ↓wp_compN, ↓wp_forN, ↓wp_forC, ev_1, ev_2, ev_3, ev_4, ev_6, ev_7, ev_8, ev_9, ev_10, ev_11, ev_12, ev_13, ev_14, ev_15, ev_16, ev_17, ev_18, ev_19, ev_20, ev_21, ev_22, ev_23, ev_24, ev_25, ev_26, ev_27, ev_28, ev_29, ev_30, ev_31, ev_32, ev_33, ev_34, ev_35, ev_37, ev_38, ev_39, ev_40, ev_41, ev_42, ev_43, ev_44, ev_45, ev_46, ev_47, ev_48, ev_49, ev_50, ev_51, ev_54, ev_55, ev_56, ev_57, ev_58, ev_envOf, ev_wipe0, ev_wipe1, ev_rep0, ev_rep1, pick_cons, pick_nil, ↓szS_ok, ↓wk_jsN, ↓wk_js, fmt_s, fmt_i, str_i, str_s, int1_i, int1_b, isi_own, ↓wk_iZ, ↓wk_iV, zip_map, rev_lst, ↓par3_ok, ↓wp_sPar3, ↓truK_t, ↓truK_f, ↓wp_eOrT, truD_non, truD_bl, truD_int, truD_tup, truD_lst, ↓wk_slc, beqI_f, beqI_t, isub_ii, ifdiv_ib, ↓gwp_star1, ↓gwp_star0, lo_jars, lo_strs, lo_jD, lo_own, lo_rowL, lo_sh, ↓lstK_rowL, ↓sqK_rowL, ↓tupK_own, len_rowL, len_own, ix_rowL, ix_own, sl_rowL, tup_rowL, list_rowL, list_own, $xs,*])
theorem want_ok (h : JsB B ts) (hB : B ≤ 10 ^ 150) (hd : d = .lst (ts.map jD) ∨ d = .tup (ts.map jD)) : denwant_jars [d] st = .ok .non st := by
  refine Res.eq_of_wp ?_
  unfold denwant_jars
  have h1 := h.pos
  have h12 := h.le
  have e1 : isi3 "list" "tuple" [d, .tup [.ty "list", .ty "tuple"]] st = .ok (.bl true) st := by rcases hd with rfl | rfl <;> rfl
  have b1 : (1 : Int) ≤ ts.length := by omega
  have b2 : (ts.length : Int) ≤ 12 := by omega
  have loop : ∀ (d : D) (N : Den.Env → Store → Prop) (P : SRes → Prop), (∀ e1 e2 cs, N [some d, some (.cell st.length), e1, e2] (st ++ [.lst cs])) →
      (forD (gT (gsCons (gN 2) (gsCons (gN 3) gsNil)) 2) (sSeq (sIf (tOrD (tNotD (tOf (eArgs denis_jar (aCons (eVar 3) aNil)))) (tOf (eBin inD (eBin ixD (eVar 3) (eK (.int 0))) (eVar 1)))) sBad sNext)
    (sExpr (eM "list" appendD (eVar 1) (aCons (eBin ixD (eVar 3) (eK (.int 0))) aNil)))) (enumD 0 (ts.map jD)) [some d, some (.cell st.length), none, none] (st ++ [.lst []])).wp N P := by
    intro d N P fin
    rw [enum_map]
    refine wp_forL (fun ys env s => ∃ e1 e2, env = [some d, some (.cell st.length), e1, e2] ∧ s = st ++ [.lst ((nms (ys.map (·.1))).map D.str)]) ⟨none, none, rfl, rfl⟩ ?_ ?_
    · rintro ys ⟨t, k⟩ zs env s e ⟨e1, e2, rfl, rfl⟩
      have ez : ts = ys.map (·.1) ++ t :: zs.map (·.1) := by
        have := congrArg (List.map (·.1)) e
        rw [zip_fst] at this; simpa using this
      have ht : t ∈ ts := by rw [ez]; simp
      have hn : t.1 ∉ nms (ys.map (·.1)) := by
        have nd := h.nd
        rw [ez] at nd
        simp only [nms, List.map_append, List.map_cons] at nd
        have := (List.nodup_append.mp nd).2.2
        intro hm
        exact this t.1 hm t.1 (by simp) rfl
      have hl : (ys.map (·.1)).length + 1 ≤ ts.length := by rw [ez]; simp
      have hc : (nms (ys.map (·.1))).contains t.1 = false := by simpa using hn
      have e0 := isjar_ok (st := st ++ [.lst ((nms (ys.map (·.1))).map D.str)]) h hB t ht
      have ein := in_strsG (st := st ++ [.lst ((nms (ys.map (·.1))).map D.str)]) (used := .cell st.length) (us := nms (ys.map (·.1))) (x := t.1) (toPy_cell get_app0) (h.lb t ht).fit (fun y hy => (h.lbn y (by rw [ez, nms, List.map_append]; exact List.mem_append_left _ hy)).fit)
      have hz : ((nms (ys.map (·.1))).map D.str).length < 1000 := by simp [nms]; simp at hl; omega
      simp! only [e0]
      simp only [jD]
      simp! only [ein, hc]
      simp [nms]
    · rintro env s ⟨e1, e2, rfl, rfl⟩
      exact fin e1 e2 _
  rcases hd with rfl | rfl
  · simp! only [e1, b1, b2, decide_true, List.length_map]
    refine loop _ _ _ fun e1 e2 cs => ?_
    simp! only [and_self]
  · simp! only [e1, b1, b2, decide_true, List.length_map]
    refine loop _ _ _ fun e1 e2 cs => ?_
    simp! only [and_self]
end
end Q

namespace Q
open PySem PySem.Spec PyProof.Rows L2 Den
/-! ### rounds and rows made -/
theorem thaw_jars {st : Store} : ∀ ts : List J3, thawS st (ts.map jD) = ts.map jD
  | [] => rfl
  | t :: ts => by simp only [List.map_cons, thawS, thaw, jD, thaw_jars ts]
/-- what is handed in as a list of jars -/
def JArg (st : Store) (jd : D) (ts : List J3) : Prop := jd = .lst (ts.map jD) ∨ jd = .tup (ts.map jD) ∨ ∃ m, jd = .cell m ∧ st[m]? = some (.lst (ts.map jD))
section
variable {st : Store} {jd : D} {ts : List J3} {B : Int} {c : Nat} {fs : List (Str × D)}
theorem JArg.ofRow : JArg st (rowL ts) ts := .inl rfl
theorem JArg.ofCell {m : Nat} (h : st[m]? = some (.lst (ts.map jD))) : JArg st (.cell m) ts := .inr (.inr ⟨m, rfl, h⟩)
theorem JArg.ext {cs : Store} (h : JArg st jd ts) : JArg (st ++ cs) jd ts := by
  rcases h with h | h | ⟨m, h, e⟩
  · exact .inl h
  · exact .inr (.inl h)
  · exact .inr (.inr ⟨m, h, by rw [List.getElem?_append_left (List.getElem?_eq_some_iff.mp e).1]; exact e⟩)
theorem JArg.tup (h : JArg st jd ts) : tupleD [jd] st = .ok (own ts) st := by
  rcases h with rfl | rfl | ⟨m, rfl, e⟩
  · rfl
  · rfl
  · simp only [tupleD, asR_cell e, own]
theorem JArg.thaw (h : JArg st jd ts) : thaw st jd = .lst (ts.map jD) ∨ thaw st jd = .tup (ts.map jD) := by
  rcases h with rfl | rfl | ⟨m, rfl, e⟩
  · left; simp only [Den.thaw, thaw_jars]
  · right; simp only [Den.thaw, thaw_jars]
  · left; simp only [Den.thaw, e, Option.bind_some, asC]
local macro_rules
  | `(tactic| simp! only [$xs,*]) => `(tactic| simp (disch := first | assumption | exact id rfl | omega | (simp only [List.length_map, List.length_append, List.length_cons, List.length_nil, List.length_set, List.length_replicate, List.length_take, List.length_drop, List.length_reverse] <;> omega) | (simp only [if_true, if_false, eq_self, Nat.reduceEqDiff]; done) | (simp only [lo_non, lo_bl, lo_int, lo_str, lo_lst, lo_tup, lo_ins, loS_nil, loS_cons, loF_nil, loF_cons, loC_lst, loC_ins, loS_app, ev_1, ev_2, ev_3, ev_4, ev_6, ev_7, ev_8, ev_9, ev_10, ev_13, ev_14, ev_15, ev_16, ev_17, ev_18, ev_26, ev_27, ev_30, ev_31, ev_32, ev_33, ev_34, ev_35, ev_44, ev_45, ev_46, ev_47, ev_48, ev_49, ev_50, ev_51, ev_57, ev_58, lo_jars, lo_strs, lo_jD, lo_own, lo_rowL, lo_sh]; done) | fail) only [↓wp_ok, ↓wp_next, ↓wp_ret, ↓wp_sSeq, ↓wp_fnD, ↓outP_ret, ↓wp_outD_same, ↓wp_outD_keep, cmp_ii, neg_i, add_ii, sub_ii, mod_ii, len_lst, len_ro, len_tup, ↓wp_eK, ↓wp_eVar0, ↓wp_eVars, ↓wp_eBin, ↓wp_eUn, ↓wp_eArgs, ↓wp_aNil, ↓wp_aCons, ↓wp_tYes, ↓wp_tNot, ↓wp_tAnd, ↓wp_tOr, ↓wp_eIf, ↓wp_oNone, ↓wp_eSl, ↓wp_eFrz, ↓wp_eLc, ↓gwp_N, ↓gwp_nil, ↓gwp_cons, ↓gwp_T, ↓wp_sNext, ↓wp_sRet, ↓wp_sRetN, ↓wp_sExpr, ↓wp_sIf, ↓wp_sAsg, ↓par2_ok, ↓wp_sPar, ↓wp_sFor, tyChk_str, Den.sl_tup, okL_ok, list_tup, max_ii, min_ii, abs_i, ne_ii, eq_ii, eq_ss, ↓wp_eCall, okC_ok, ↓wp_outD_app, ↓wp_outD_st, app_app, mul_ib, fdiv_ib, divmod_ib, pow_ib, ofO_some, ↓wp_ofO, ix_lstE, ix_roE, ix_tupE, atI_0, atI_1, atI_2, atI_3, atI_4, atI_map, tyChk_lst, lo_non, lo_bl, lo_int, lo_str, lo_lst, lo_tup, lo_ins, loS_nil, loS_cons, loF_nil, loF_cons, loC_lst, loC_ins, loS_app, insOf_ins, add_ll', add_tt', add_ss', mkL_ok', mkT_ok', mkC_ok', len_str', ne_ss, imul_ib, iadd_ii, ↓wp_sAug, isN_non, isN_int, isN_str, isN_tup, isN_lst, notN_non, notN_int, notN_str, notN_tup, notN_lst, isi_str_non, isi_str_bl, isi_str_int, isi_str_str, isi_str_lst, isi_str_tup, isi_str_dct, isi_int_non, isi_int_bl, isi_int_int, isi_int_str, isi_int_lst, isi_int_tup, isi_int_dct, isi_bool_non, isi_bool_bl, isi_bool_int, isi_bool_str, isi_bool_lst, isi_bool_tup, isi_bool_dct, isi_list_non, isi_list_bl, isi_list_int, isi_list_str, isi_list_lst, isi_list_tup, isi_list_dct, isi_tuple_non, isi_tuple_bl, isi_tuple_int, isi_tuple_str, isi_tuple_lst, isi_tuple_tup, isi_tuple_dct, isi_dict_non, isi_dict_bl, isi_dict_int, isi_dict_str, isi_dict_lst, isi_dict_tup, isi_dict_dct, ↓insK_some, ↓optK_some, ↓cinK_app, ↓wp_eFldK, ↓wp_eMethK, ↓wp_sFldK, look_eq, look_ne, look_nil, put_nil, put_eq, put_ne, ↓blK_ok, ↓intK_ok, ↓strK_ok, ↓lstK_lst, ↓lstK_ro, ↓tupK_ok, ↓sqK_lst, ↓sqK_ro, ↓sqK_tup, ↓oneK_ok, ↓twoK_ok, ↓rngK_ok, ↓andK_true, ↓wk_tOf, ↓wk_eAnd, ↓wk_eOr, ↓wk_eNot, ↓wk_eChain, ↓wk_eM, ↓wk_oSome, ↓wk_iL, ↓wk_iT, ↓wk_iS, ↓wk_iR1, ↓wk_iR2, ↓wk_iEA, ↓wk_gsub, ↓lcK_ok, ↓lfK_ok, ↓lfK_fz, ↓szK_ok, ↓wk_append, ↓wk_reverse, ↓wk_clear, ↓wk_ixc, ↓frK_ok, ↓frK_fz, ↓wk_frz, ↓wk_frzL, ↓wk_lenc, ↓wk_setc, ↓wk_tyc, get_at0, get_at1, get_at2, get_at3, set_at0, set_at1, set_at2, set_at3, ↓wp_itemF, filterMap_some', filterMap_if, ↓itK_none, ↓itK_some, ↓wp_compN, ↓wp_forN, ↓wp_forC, ev_1, ev_2, ev_3, ev_4, ev_6, ev_7, ev_8, ev_9, ev_10, ev_11, ev_12, ev_13, ev_14, ev_15, ev_16, ev_17, ev_18, ev_19, ev_20, ev_21, ev_22, ev_23, ev_24, ev_25, ev_26, ev_27, ev_28, ev_29, ev_30, ev_31, ev_32, ev_33, ev_34, ev_35, ev_37, ev_38, ev_39, ev_40, ev_41, ev_42, ev_43, ev_44, ev_45, ev_46, ev_47, ev_48, ev_49, ev_50, ev_51, ev_54, ev_55, ev_56, ev_57, ev_58, ev_envOf, ev_wipe0, ev_wipe1, ev_rep0, ev_rep1, pick_cons, pick_nil, ↓szS_ok, ↓wk_jsN, ↓wk_js, fmt_s, fmt_i, str_i, str_s, int1_i, int1_b, isi_own, ↓wk_iZ, ↓wk_iV, zip_map, rev_lst, ↓par3_ok, ↓wp_sPar3, ↓truK_t, ↓truK_f, ↓wp_eOrT, truD_non, truD_bl, truD_int, truD_tup, truD_lst, ↓wk_slc, beqI_f, beqI_t, isub_ii, ifdiv_ib, ↓gwp_star1, ↓gwp_star0, lo_jars, lo_strs, lo_jD, lo_own, lo_rowL, lo_sh, ↓lstK_rowL, ↓sqK_rowL, ↓tupK_own, len_rowL, len_own, ix_rowL, ix_own, sl_rowL, tup_rowL, list_rowL, list_own, ↓reduceIte, Nat.reduceAdd, Nat.reduceSub, Nat.reduceLeDiff, Nat.reduceEqDiff, Nat.reduceLT, Nat.reduceBEq, Int.reduceDiv, reduceCtorEq, $xs,*])
  | `(tactic| dsimp! only [$xs,*]) => `(tactic| simp (disch := first | assumption | exact id rfl | omega | (simp only [List.length_map, List.length_append, List.length_cons, List.length_nil, List.length_set, List.length_replicate, List.length_take, List.length_drop, List.length_reverse] <;> omega) | (simp only [if_true, if_false, eq_self, Nat.reduceEqDiff]; done) | (simp only [lo_non, lo_bl, lo_int, lo_str, lo_lst, lo_tup, lo_ins, loS_nil, loS_cons, loF_nil, loF_cons, loC_lst, loC_ins, loS_app, ev_1, ev_2, ev_3, ev_4, ev_6, ev_7, ev_8, ev_9, ev_10, ev_13, ev_14, ev_15, ev_16, ev_17, ev_18, ev_26, ev_27, ev_30, ev_31, ev_32, ev_33, ev_34, ev_35, ev_44, ev_45, ev_46, ev_47, ev_48, ev_49, ev_50, ev_51, ev_57, ev_58, lo_jars, lo_strs, lo_jD, lo_own, lo_rowL, lo_sh]; done) | exact fun _ => id rfl | fail) only [↓wp_ok, ↓wp_next, ↓wp_ret, ↓wp_sSeq, ↓wp_fnD, ↓outP_ret, ↓wp_outD_same, ↓wp_outD_keep, cmp_ii, neg_i, add_ii, sub_ii, mod_ii, len_lst, len_ro, len_tup, ↓wp_eK, ↓wp_eVar0, ↓wp_eVars, ↓wp_eBin, ↓wp_eUn, ↓wp_eArgs, ↓wp_aNil, ↓wp_aCons, ↓wp_tYes, ↓wp_tNot, ↓wp_tAnd, ↓wp_tOr, ↓wp_eIf, ↓wp_oNone, ↓wp_eSl, ↓wp_eFrz, ↓wp_eLc, ↓gwp_N, ↓gwp_nil, ↓gwp_cons, ↓gwp_T, ↓wp_sNext, ↓wp_sRet, ↓wp_sRetN, ↓wp_sExpr, ↓wp_sIf, ↓wp_sAsg, ↓par2_ok, ↓wp_sPar, ↓wp_sFor, tyChk_str, Den.sl_tup, okL_ok, list_tup, max_ii, min_ii, abs_i, ne_ii, eq_ii, eq_ss, ↓wp_eCall, okC_ok, ↓wp_outD_app, ↓wp_outD_st, app_app, mul_ib, fdiv_ib, divmod_ib, pow_ib, ofO_some, ↓wp_ofO, ix_lstE, ix_roE, ix_tupE, atI_0, atI_1, atI_2, atI_3, atI_4, atI_map, tyChk_lst, lo_non, lo_bl, lo_int, lo_str, lo_lst, lo_tup, lo_ins, loS_nil, loS_cons, loF_nil, loF_cons, loC_lst, loC_ins, loS_app, insOf_ins, add_ll', add_tt', add_ss', mkL_ok', mkT_ok', mkC_ok', len_str', ne_ss, imul_ib, iadd_ii, ↓wp_sAug, isN_non, isN_int, isN_str, isN_tup, isN_lst, notN_non, notN_int, notN_str, notN_tup, notN_lst, isi_str_non, isi_str_bl, isi_str_int, isi_str_str, isi_str_lst, isi_str_tup, isi_str_dct, isi_int_non, isi_int_bl, isi_int_int, isi_int_str, isi_int_lst, isi_int_tup, isi_int_dct, isi_bool_non, isi_bool_bl, isi_bool_int, isi_bool_str, isi_bool_lst, isi_bool_tup, isi_bool_dct, isi_list_non, isi_list_bl, isi_list_int, isi_list_str, isi_list_lst, isi_list_tup, isi_list_dct, isi_tuple_non, isi_tuple_bl, isi_tuple_int, isi_tuple_str, isi_tuple_lst, isi_tuple_tup, isi_tuple_dct, isi_dict_non, isi_dict_bl, isi_dict_int, isi_dict_str, isi_dict_lst, isi_dict_tup, isi_dict_dct, ↓insK_some, ↓optK_some, ↓cinK_app, ↓wp_eFldK, ↓wp_eMethK, ↓wp_sFldK, look_eq, look_ne, look_nil, put_nil, put_eq, put_ne, ↓blK_ok, ↓intK_ok, ↓strK_ok, ↓lstK_lst, ↓lstK_ro, ↓tupK_ok, ↓sqK_lst, ↓sqK_ro, ↓sqK_tup, ↓oneK_ok, ↓twoK_ok, ↓rngK_ok, ↓andK_true, ↓wk_tOf, ↓wk_eAnd, ↓wk_eOr, ↓wk_eNot, ↓wk_eChain, ↓wk_eM, ↓wk_oSome, ↓wk_iL, ↓wk_iT, ↓wk_iS, ↓wk_iR1, ↓wk_iR2, ↓wk_iEA, ↓wk_gsub, ↓lcK_ok, ↓lfK_ok, ↓lfK_fz, ↓szK_ok, ↓wk_append, ↓wk_reverse, ↓wk_clear, ↓wk_ixc, ↓frK_ok, ↓frK_fz, ↓wk_frz, ↓wk_frzL, ↓wk_lenc, ↓wk_setc, ↓wk_tyc, get_at0, get_at1, get_at2, get_at3, set_at0, set_at1, set_at2, set_at3, ↓wp_itemF, filterMap_some', filterMap_if, ↓itK_none, ↓itK_some, ↓wp_compN, ↓wp_forN, ↓wp_forC, ev_1, ev_2, ev_3, ev_4, ev_6, ev_7, ev_8, ev_9, ev_10, ev_11, ev_12, ev_13, ev_14, ev_15, ev_16, ev_17, ev_18, ev_19, ev_20, ev_21, ev_22, ev_23, ev_24, ev_25, ev_26, ev_27, ev_28, ev_29, ev_30, ev_31, ev_32, ev_33, ev_34, ev_35, ev_37, ev_38, ev_39, ev_40, ev_41, ev_42, ev_43, ev_44, ev_45, ev_46, ev_47, ev_48, ev_49, ev_50, ev_51, ev_54, ev_55, ev_56, ev_57, ev_58, ev_envOf, ev_wipe0, ev_wipe1, ev_rep0, ev_rep1, pick_cons, pick_nil, ↓szS_ok, ↓wk_jsN, ↓wk_js, fmt_s, fmt_i, str_i, str_s, int1_i, int1_b, isi_own, ↓wk_iZ, ↓wk_iV, zip_map, rev_lst, ↓par3_ok, ↓wp_sPar3, ↓truK_t, ↓truK_f, ↓wp_eOrT, truD_non, truD_bl, truD_int, truD_tup, truD_lst, ↓wk_slc, beqI_f, beqI_t, isub_ii, ifdiv_ib, ↓gwp_star1, ↓gwp_star0, lo_jars, lo_strs, lo_jD, lo_own, lo_rowL, lo_sh, ↓lstK_rowL, ↓sqK_rowL, ↓tupK_own, len_rowL, len_own, ix_rowL, ix_own, sl_rowL, tup_rowL, list_rowL, list_own, ↓reduceIte, Nat.reduceAdd, Nat.reduceSub, Nat.reduceLeDiff, Nat.reduceEqDiff, Nat.reduceLT, Nat.reduceBEq, Int.reduceDiv, reduceCtorEq, $xs,*])
  | `(tactic| simp_all! only [$xs,*]) => `(tactic| simp only [↓wp_ok, ↓wp_next, ↓wp_ret, ↓wp_sSeq, ↓wp_fnD, ↓outP_ret, ↓wp_outD_same, ↓wp_outD_keep, cmp_ii, neg_i, add_ii, sub_ii, mod_ii, len_lst, len_ro, len_tup, ↓wp_eK, ↓wp_eVar0, ↓wp_eVars, ↓wp_eBin, ↓wp_eUn, ↓wp_eArgs, ↓wp_aNil, ↓wp_aCons, ↓wp_tYes, ↓wp_tNot, ↓wp_tAnd, ↓wp_tOr, ↓wp_eIf, ↓wp_oNone, ↓wp_eSl, ↓wp_eFrz, ↓wp_eLc, ↓gwp_N, ↓gwp_nil, ↓gwp_cons, ↓gwp_T, ↓wp_sNext, ↓wp_sRet, ↓wp_sRetN, ↓wp_sExpr, ↓wp_sIf, ↓wp_sAsg, ↓par2_ok, ↓wp_sPar, ↓wp_sFor, tyChk_str, Den.sl_tup, okL_ok, list_tup, max_ii, min_ii, abs_i, ne_ii, eq_ii, eq_ss, ↓wp_eCall, okC_ok, ↓wp_outD_app, ↓wp_outD_st, app_app, mul_ib, fdiv_ib, divmod_ib, pow_ib, ofO_some, ↓wp_ofO, ix_lstE, ix_roE, ix_tupE, atI_0, atI_1, atI_2, atI_3, atI_4, atI_map, tyChk_lst, lo_non, lo_bl, lo_int, lo_str, lo_lst, lo_tup, lo_ins, loS_nil, loS_cons, loF_nil, loF_cons, loC_lst, loC_ins, loS_app, insOf_ins, add_ll', add_tt', add_ss', mkL_ok', mkT_ok', mkC_ok', len_str', ne_ss, imul_ib, iadd_ii, ↓wp_sAug, isN_non, isN_int, isN_str, isN_tup, isN_lst, notN_non, notN_int, notN_str, notN_tup, notN_lst, isi_str_non, isi_str_bl, isi_str_int, isi_str_str, isi_str_lst, isi_str_tup, isi_str_dct, isi_int_non, isi_int_bl, isi_int_int, isi_int_str, isi_int_lst, isi_int_tup, isi_int_dct, isi_bool_non, isi_bool_bl, isi_bool_int, isi_bool_str, isi_bool_lst, isi_bool_tup, isi_bool_dct, isi_list_non, isi_list_bl, isi_list_int, isi_list_str, isi_list_lst, isi_list_tup, isi_list_dct, isi_tuple_non, isi_tuple_bl, isi_tuple_int, isi_tuple_str, isi_tuple_lst, isi_tuple_tup, isi_tuple_dct, isi_dict_non, isi_dict_bl, isi_dict_int, isi_dict_str, isi_dict_lst, isi_dict_tup, isi_dict_dct, ↓insK_some, ↓optK_some, ↓cinK_app, ↓wp_eFldK, ↓wp_eMethK, ↓wp_sFldK, look_eq, look_ne, look_nil, put_nil, put_eq, put_ne, ↓blK_ok, ↓intK_ok, ↓strK_ok, ↓lstK_lst, ↓lstK_ro, ↓tupK_ok, ↓sqK_lst, ↓sqK_ro, ↓sqK_tup, ↓oneK_ok, ↓twoK_ok, ↓rngK_ok, ↓andK_true, ↓wk_tOf, ↓wk_eAnd, ↓wk_eOr, ↓wk_eNot, ↓wk_eChain, ↓wk_eM, ↓wk_oSome, ↓wk_iL, ↓wk_iT, ↓wk_iS, ↓wk_iR1, ↓wk_iR2, ↓wk_iEA, ↓wk_gsub, ↓lcK_ok, ↓lfK_ok, ↓lfK_fz, ↓szK_ok, ↓wk_append, ↓wk_reverse, ↓wk_clear, ↓wk_ixc, ↓frK_ok, ↓frK_fz, ↓wk_frz, ↓wk_frzL, ↓wk_lenc, ↓wk_setc, ↓wk_tyc, get_at0, get_at1, get_at2, get_at3, set_at0, set_at1, set_at2, set_at3, ↓wp_itemF, filterMap_some', filterMap_if, ↓itK_none, ↓itK_some, ↓wp_compN, ↓wp_forN, ↓wp_forC, ev_1, ev_2, ev_3, ev_4, ev_6, ev_7, ev_8, ev_9, ev_10, ev_11, ev_12, ev_13, ev_14, ev_15, ev_16, ev_17, ev_18, ev_19, ev_20, ev_21, ev_22, ev_23, ev_24, ev_25, ev_26, ev_27, ev_28, ev_29, ev_30, ev_31, ev_32, ev_33, ev_34, ev_35, ev_37, ev_38, ev_39, ev_40, ev_41, ev_42, ev_43, ev_44, ev_45, ev_46, ev_47, ev_48, ev_49, ev_50, ev_51, ev_54, ev_55, ev_56, ev_57, ev_58, ev_envOf, ev_wipe0, ev_wipe1, ev_rep0, ev_rep1, pick_cons, pick_nil, ↓szS_ok, ↓wk_jsN, ↓wk_js, fmt_s, fmt_i, str_i, str_s, int1_i, int1_b, isi_own, ↓wk_iZ, ↓wk_iV, zip_map, rev_lst, ↓par3_ok, ↓wp_sPar3, ↓truK_t, ↓truK_f, ↓wp_eOrT, truD_non, truD_bl, truD_int, truD_tup, truD_lst, ↓wk_slc, beqI_f, beqI_t, isub_ii, ifdiv_ib, ↓gwp_star1, ↓gwp_star0, lo_jars, lo_strs, lo_jD, lo_own, lo_rowL, lo_sh, ↓lstK_rowL, ↓sqK_rowL, ↓tupK_own, len_rowL, len_own, ix_rowL, ix_own, sl_rowL, tup_rowL, list_rowL, list_own, $xs,*])
theorem want_hide {o : Option D} {Q : D → Store → Prop} {E : Xc → Store → Prop} (a : JArg st jd ts) (h : JsB B ts) (hB : B ≤ 10 ^ 150) : (eHide (eArgs denwant_jars (aCons (eVar 1) aNil)) [o, some jd] st).wp Q E = Q .non st := by
  refine wp_eHide (st' := []) ?_ rfl
  refine Res.eq_of_wp ?_
  have lo : (Den.thaw st jd).lo 0 = true := by
    rcases a.thaw with e | e <;> rw [e] <;> simp only [lo_lst, lo_tup, lo_jars]
  have e : thawE st [o, some jd] = [(o.bind fun d => if (Den.thaw st d).lo 0 then some (Den.thaw st d) else none), some (Den.thaw st jd)] := by
    simp only [thawE, List.map_cons, List.map_nil, Option.bind_some, lo, if_true]
  rw [e]
  simp! only [want_ok h hB a.thaw]
theorem init_eq (hc : c = 22 ∨ c = 23) (a : JArg st jd ts) (h : JsB B ts) (hB : B ≤ 10 ^ 150) : denShape_init [.cell st.length, jd] (st ++ [.ins c []]) = .ok .non (st ++ [.ins c [("own_jars", own ts)]]) := by
  refine Res.eq_of_wp ?_
  unfold denShape_init
  have a2 := a.ext (cs := [.ins c []])
  rcases hc with rfl | rfl
  all_goals
    simp! only [and_self]
    rw [want_hide a2 h hB]
    simp! only [a2.tup]
/-- the list from the least name on -/
def turn (ts : List J3) : List J3 := rot (at1 (minStr (nms ts)) ts) ts
theorem hasC {ts : List J3} : HasJ (st ++ [.ins 22 [("own_jars", own ts)]]) (.cell st.length) 22 [("own_jars", own ts)] ts := by
  refine ⟨?_, .inl rfl, rfl, fun m h _ => ?_⟩
  · simp only [insOf, get_app0, Option.bind_some, insC]
  · rw [look_ne (by simpa using h)]; rfl
theorem nms_ne (h : JsB B ts) : nms ts ≠ [] := by
  have hp := h.pos
  intro e
  have := congrArg List.length e
  rw [nms_len] at this
  simp only [List.length_nil] at this
  omega
theorem rinit_eq (a : JArg st jd ts) (h : JsB B ts) (hB : B ≤ 10 ^ 150) : denRound_init [.cell st.length, jd] (st ++ [.ins 22 []]) = .ok .non (st ++ [.ins 22 [("own_jars", own (turn ts))]]) := by
  refine Res.eq_of_wp ?_
  unfold denRound_init
  have h12 := h.le
  have hj := hasC (st := st) (ts := ts)
  have e : tupleD [rowL (turn ts)] (st ++ [.ins 22 [("own_jars", own ts)]]) = .ok (own (turn ts)) (st ++ [.ins 22 [("own_jars", own ts)]]) := rfl
  have em : rot (at1 (minStr (nms ts)) ts) ts = turn ts := rfl
  simp! only [init_eq (.inl rfl) a h hB, hj.at_, names_eq hj (by omega), min_strs (nms_ne h), rjarsAt_eq hj (by omega) h.lbn (minStr_mem (nms_ne h)), em, e]
theorem winit_eq {tr : Int} (a : JArg st jd ts) (h : JsB B ts) (hB : B ≤ 10 ^ 150) (t0 : 0 ≤ tr) (t1 : tr < 10 ^ 150) : denRow_init [.cell st.length, jd, .int tr] (st ++ [.ins 23 []]) = .ok .non (st ++ [.ins 23 [("own_jars", own ts), ("own_tray", .int tr)]]) := by
  refine Res.eq_of_wp ?_
  unfold denRow_init
  simp! only [init_eq (.inr rfl) a h hB, grains_ok t0 t1]
theorem newI_ok {hh : List D → List D → Store → Res D} {ds es : List D} (e : hh (.cell st.length :: ds) es (st ++ [.ins c []]) = .ok .non (st ++ [.ins c fs])) (hf : loF st.length fs = true) : newI c hh ds es st = .ok (.ins c fs) st := by
  unfold newI
  simp only [e, get_app0]
  rw [if_pos ⟨rfl, hf, KeepLo.app⟩]
  simp
theorem mkRd (h : JsB B ts) (hB : B ≤ 10 ^ 150) (a : JArg st jd ts) : newI 22 (fun ds es st => denRound_init ds st) [jd] [] st = .ok (shD (.rd (turn ts))) st :=
  newI_ok (rinit_eq a h hB) (by simp only [loF_cons, loF_nil, lo_own, Bool.and_self])
theorem mkRw {tr : Int} (h : JsB B ts) (hB : B ≤ 10 ^ 150) (t0 : 0 ≤ tr) (t1 : tr < 10 ^ 150) (a : JArg st jd ts) : newI 23 (fun ds es st => denRow_init (ds ++ es) st) [jd] [.int tr] st = .ok (shD (.rw ts tr)) st :=
  newI_ok (winit_eq a h hB t0 t1) (by simp only [loF_cons, loF_nil, lo_own, lo_int, Bool.and_self])
theorem hasRd : HasJ st (shD (.rd ts)) 22 [("own_jars", own ts)] ts := ⟨rfl, .inl rfl, rfl, fun m h _ => by rw [look_ne (by simpa using h)]; rfl⟩
theorem hasRw {tr : Int} : HasJ st (shD (.rw ts tr)) 23 [("own_jars", own ts), ("own_tray", .int tr)] ts := ⟨rfl, .inr rfl, rfl, fun m h h' => by rw [look_ne (by simpa using h), look_ne (by simpa using h')]; rfl⟩
theorem at_rd : insOf st (shD (.rd ts)) = some (22, [(("own_jars" : Str), own ts)]) := id rfl
theorem at_rw {tr : Int} : insOf st (shD (.rw ts tr)) = some (23, [(("own_jars" : Str), own ts), (("own_tray" : Str), .int tr)]) := id rfl
theorem mem_rot {n : Nat} {t : J3} : t ∈ rot n ts ↔ t ∈ ts := by
  unfold rot
  rw [List.mem_append, or_comm, ← List.mem_append, List.take_append_drop]
theorem nms_rot {n : Nat} : nms (rot n ts) = (nms ts).drop n ++ (nms ts).take n := by simp [nms, rot]
theorem JsB.rot {n : Nat} (h : JsB B ts) : JsB B (rot n ts) := by
  refine ⟨fun t ht => h.lb t (mem_rot.mp ht), fun t ht => h.b2 t (mem_rot.mp ht), fun t ht => h.b6 t (mem_rot.mp ht), fun t ht => h.g0 t (mem_rot.mp ht), fun t ht => h.gB t (mem_rot.mp ht), ?_, by rw [rot_len]; exact h.pos, by rw [rot_len]; exact h.le⟩
  rw [nms_rot]
  have := h.nd
  rw [← List.take_append_drop n (nms ts), List.nodup_append] at this
  obtain ⟨h1, h2, h3⟩ := this
  rw [List.nodup_append]
  exact ⟨h2, h1, fun a ha b hb e => h3 b hb a ha e.symm⟩
theorem JsB.turn (h : JsB B ts) : JsB B (turn ts) := h.rot
/-! ### turned about, the same -/
theorem argBest_min {zs : List Str} : ∀ (k j : Nat), j ≤ k → ¬ (zs.getD j "").cps.toList < (zs.getD (argBest (ltAt zs) k) "").cps.toList
  | 0, j, h => by
    have : j = 0 := by omega
    subst this
    exact List.lt_irrefl _
  | k + 1, j, h => by
    unfold argBest
    by_cases hb : ltAt zs (k + 1) (argBest (ltAt zs) k) = true
    · rw [if_pos hb]
      rcases Nat.lt_or_ge j (k + 1) with z | z
      · intro hl
        have h2 : (zs.getD (k + 1) "").cps.toList < (zs.getD (argBest (ltAt zs) k) "").cps.toList := of_decide_eq_true hb
        exact argBest_min k j (by omega) (List.lt_trans hl h2)
      · have : j = k + 1 := by omega
        subst this; exact List.lt_irrefl _
    · rw [if_neg hb]
      rcases Nat.lt_or_ge j (k + 1) with z | z
      · exact argBest_min k j (by omega)
      · have : j = k + 1 := by omega
        subst this
        exact fun h2 => hb (decide_eq_true h2)
theorem minStr_least {us : List Str} {x : Str} (hx : x ∈ us) : ¬ x.cps.toList < (minStr us).cps.toList := by
  obtain ⟨j, hj, rfl⟩ := List.mem_iff_getElem.mp hx
  have := argBest_min (zs := us) (us.length - 1) j (by omega)
  unfold minStr
  rw [List.getD, List.getElem?_eq_getElem hj] at this
  exact this
theorem minStr_eq {us vs : List Str} (h : ∀ x, x ∈ us ↔ x ∈ vs) (hu : us ≠ []) (hv : vs ≠ []) : minStr us = minStr vs := by
  have h1 := minStr_least ((h _).mpr (minStr_mem hv))
  have h2 := minStr_least ((h _).mp (minStr_mem hu))
  have e : (minStr us).cps.toList = (minStr vs).cps.toList := List.le_antisymm (List.not_lt.mp h1) (List.not_lt.mp h2)
  exact Str.ext' (Array.toList_inj.mp e)
theorem at1_of {k : Nat} {x : Str} (nd : (nms ts).Nodup) (e : (nms ts)[k]? = some x) : at1 x ts = k := by
  obtain ⟨hk, e⟩ := List.getElem?_eq_some_iff.mp e
  have hx : x ∈ nms ts := by rw [← e]; exact List.getElem_mem hk
  have h2 := nms_at1 hx
  obtain ⟨h3, h4⟩ := List.getElem?_eq_some_iff.mp h2
  exact (List.getElem_inj nd).mp (h4.trans e.symm)
theorem rot_rot {k i : Nat} (hk : k ≤ ts.length) (hi : i < ts.length) : rot (if k ≤ i then i - k else ts.length - k + i) (rot k ts) = rot i ts := by
  unfold rot
  split
  · rename_i h
    have e1 : (ts.drop k).length = ts.length - k := by simp
    rw [List.drop_append_of_le_length (by rw [e1]; omega), List.take_append_of_le_length (by rw [e1]; omega), List.drop_drop, List.append_assoc]
    congr 1
    · congr 1; omega
    · have : ts.take i = ts.take (k + (i - k)) := by congr 1; omega
      rw [this, List.take_add]
  · rename_i h
    have e1 : (ts.drop k).length = ts.length - k := by simp
    have e2 : ts.length - k + i - (ts.length - k) = i := by omega
    have d1 : (ts.drop k ++ ts.take k).drop (ts.length - k + i) = (ts.take k).drop i := by
      rw [List.drop_append, e1, e2, List.drop_of_length_le (l := ts.drop k) (by rw [e1]; omega), List.nil_append]
    have t1 : (ts.drop k ++ ts.take k).take (ts.length - k + i) = ts.drop k ++ (ts.take k).take i := by
      rw [List.take_append, e1, e2, List.take_of_length_le (l := ts.drop k) (by rw [e1]; omega)]
    rw [d1, t1, List.take_take, Nat.min_eq_left (by omega), ← List.append_assoc]
    congr 1
    have : ts.drop i = (ts.take k ++ ts.drop k).drop i := by rw [List.take_append_drop]
    rw [this, List.drop_append_of_le_length (by simp; omega)]
theorem turn_rot {k : Nat} (h : JsB B ts) (hk : k ≤ ts.length) : turn (rot k ts) = turn ts := by
  have hm : minStr (nms (rot k ts)) = minStr (nms ts) := minStr_eq (fun x => by
    constructor
    · intro hx; obtain ⟨t, ht, rfl⟩ := mem_nms.mp hx; exact mem_nms.mpr ⟨t, mem_rot.mp ht, rfl⟩
    · intro hx; obtain ⟨t, ht, rfl⟩ := mem_nms.mp hx; exact mem_nms.mpr ⟨t, mem_rot.mpr ht, rfl⟩) (nms_ne h.rot) (nms_ne h)
  have hx := minStr_mem (nms_ne h)
  have hi := at1_lt hx
  unfold turn
  rw [hm]
  have e : at1 (minStr (nms ts)) (rot k ts) = if k ≤ at1 (minStr (nms ts)) ts then at1 (minStr (nms ts)) ts - k else ts.length - k + at1 (minStr (nms ts)) ts := by
    refine at1_of h.rot.nd ?_
    rw [nms_rot]
    have en := nms_at1 hx
    have hn := nms_len (ts := ts)
    split
    · rename_i hc
      rw [List.getElem?_append_left (by simp; omega), List.getElem?_drop, Nat.add_sub_cancel' hc]; exact en
    · rename_i hc
      rw [List.getElem?_append_right (by simp; omega), List.getElem?_take_of_lt (by simp; omega)]
      have : ts.length - k + at1 (minStr (nms ts)) ts - ((nms ts).drop k).length = at1 (minStr (nms ts)) ts := by simp; omega
      rw [this]; exact en
  rw [e]
  exact rot_rot hk hi
end
end Q

namespace Q
open PySem PySem.Spec PyProof.Rows L2 Den
/-! ### the pot -/
def pc (a b : Int) : Cell := .lst [.int a, .int b]
def Gd (a b : Int) : Prop := 0 ≤ a ∧ 0 ≤ b ∧ b < 2 ^ 33
/-- C with a pot at p, whatever it holds -/
def Pot (C : Store) (p : Nat) (st : Store) : Prop := p < C.length ∧ ∃ a b, Gd a b ∧ st = C.set p (pc a b)
section
variable {C : Store} {p : Nat} {st st' : Store} {Q : D → Store → Prop} {E : Xc → Store → Prop}
theorem Pot.len (h : Pot C p st) : st.length = C.length := by obtain ⟨_, a, b, _, rfl⟩ := h; simp
theorem Pot.keep (h : Pot C p st) (h' : Pot C p st') : KeepLo st st' := by
  obtain ⟨hp, a, b, _, rfl⟩ := h
  obtain ⟨_, a', b', _, rfl⟩ := h'
  refine KeepLo.of_set (KeepLo.set KeepLo.refl rfl) (c' := pc a' b') ?_ rfl
  simp [hp]
theorem Pot.app (h : Pot C p st) (cs : Store) : Pot (C ++ cs) p (st ++ cs) := by
  obtain ⟨hp, a, b, g, rfl⟩ := h
  exact ⟨by simp; omega, a, b, g, by rw [List.set_append_left _ _ hp]⟩
theorem Pot.unapp {cs s : Store} (hp : Pot C p st) (h : Pot (C ++ cs) p s) : ∃ st', s = st' ++ cs ∧ Pot C p st' ∧ st'.length = C.length := by
  obtain ⟨_, a, b, g, rfl⟩ := h
  exact ⟨C.set p (pc a b), by rw [List.set_append_left _ _ hp.1], ⟨hp.1, a, b, g, rfl⟩, by simp⟩
theorem get_pc {a b : Int} (hp : p < C.length) : (C.set p (pc a b))[p]? = some (.lst [.int a, .int b]) := by simp [hp, pc]
theorem get_lst {xs : List D} (hp : p < C.length) : (C.set p (.lst xs))[p]? = some (.lst xs) := by simp [hp]
theorem ixN2_0 : L2.ixN 2 0 = some 0 := by decide
theorem ixN2_1 : L2.ixN 2 1 = some 1 := by decide
local macro_rules
  | `(tactic| simp! only [$xs,*]) => `(tactic| simp (disch := first | assumption | exact id rfl | omega | (simp only [List.length_map, List.length_append, List.length_cons, List.length_nil, List.length_set, List.length_replicate, List.length_take, List.length_drop, List.length_reverse] <;> omega) | (simp only [if_true, if_false, eq_self, Nat.reduceEqDiff]; done) | (simp only [lo_non, lo_bl, lo_int, lo_str, lo_lst, lo_tup, lo_ins, loS_nil, loS_cons, loF_nil, loF_cons, loC_lst, loC_ins, loS_app, ev_1, ev_2, ev_3, ev_4, ev_6, ev_7, ev_8, ev_9, ev_10, ev_13, ev_14, ev_15, ev_16, ev_17, ev_18, ev_26, ev_27, ev_30, ev_31, ev_32, ev_33, ev_34, ev_35, ev_44, ev_45, ev_46, ev_47, ev_48, ev_49, ev_50, ev_51, ev_57, ev_58, lo_jars, lo_strs, lo_jD, lo_own, lo_rowL, lo_sh]; done) | fail) only [↓wp_ok, ↓wp_next, ↓wp_ret, ↓wp_sSeq, ↓wp_fnD, ↓outP_ret, ↓wp_outD_same, ↓wp_outD_keep, cmp_ii, neg_i, add_ii, sub_ii, mod_ii, len_lst, len_ro, len_tup, ↓wp_eK, ↓wp_eVar0, ↓wp_eVars, ↓wp_eBin, ↓wp_eUn, ↓wp_eArgs, ↓wp_aNil, ↓wp_aCons, ↓wp_tYes, ↓wp_tNot, ↓wp_tAnd, ↓wp_tOr, ↓wp_eIf, ↓wp_oNone, ↓wp_eSl, ↓wp_eFrz, ↓wp_eLc, ↓gwp_N, ↓gwp_nil, ↓gwp_cons, ↓gwp_T, ↓wp_sNext, ↓wp_sRet, ↓wp_sRetN, ↓wp_sExpr, ↓wp_sIf, ↓wp_sAsg, ↓par2_ok, ↓wp_sPar, ↓wp_sFor, tyChk_str, Den.sl_tup, okL_ok, list_tup, max_ii, min_ii, abs_i, ne_ii, eq_ii, eq_ss, ↓wp_eCall, okC_ok, ↓wp_outD_app, ↓wp_outD_st, app_app, mul_ib, fdiv_ib, divmod_ib, pow_ib, ofO_some, ↓wp_ofO, ix_lstE, ix_roE, ix_tupE, atI_0, atI_1, atI_2, atI_3, atI_4, atI_map, tyChk_lst, lo_non, lo_bl, lo_int, lo_str, lo_lst, lo_tup, lo_ins, loS_nil, loS_cons, loF_nil, loF_cons, loC_lst, loC_ins, loS_app, insOf_ins, add_ll', add_tt', add_ss', mkL_ok', mkT_ok', mkC_ok', len_str', ne_ss, imul_ib, iadd_ii, ↓wp_sAug, isN_non, isN_int, isN_str, isN_tup, isN_lst, notN_non, notN_int, notN_str, notN_tup, notN_lst, isi_str_non, isi_str_bl, isi_str_int, isi_str_str, isi_str_lst, isi_str_tup, isi_str_dct, isi_int_non, isi_int_bl, isi_int_int, isi_int_str, isi_int_lst, isi_int_tup, isi_int_dct, isi_bool_non, isi_bool_bl, isi_bool_int, isi_bool_str, isi_bool_lst, isi_bool_tup, isi_bool_dct, isi_list_non, isi_list_bl, isi_list_int, isi_list_str, isi_list_lst, isi_list_tup, isi_list_dct, isi_tuple_non, isi_tuple_bl, isi_tuple_int, isi_tuple_str, isi_tuple_lst, isi_tuple_tup, isi_tuple_dct, isi_dict_non, isi_dict_bl, isi_dict_int, isi_dict_str, isi_dict_lst, isi_dict_tup, isi_dict_dct, ↓insK_some, ↓optK_some, ↓cinK_app, ↓wp_eFldK, ↓wp_eMethK, ↓wp_sFldK, look_eq, look_ne, look_nil, put_nil, put_eq, put_ne, ↓blK_ok, ↓intK_ok, ↓strK_ok, ↓lstK_lst, ↓lstK_ro, ↓tupK_ok, ↓sqK_lst, ↓sqK_ro, ↓sqK_tup, ↓oneK_ok, ↓twoK_ok, ↓rngK_ok, ↓andK_true, ↓wk_tOf, ↓wk_eAnd, ↓wk_eOr, ↓wk_eNot, ↓wk_eChain, ↓wk_eM, ↓wk_oSome, ↓wk_iL, ↓wk_iT, ↓wk_iS, ↓wk_iR1, ↓wk_iR2, ↓wk_iEA, ↓wk_gsub, ↓lcK_ok, ↓lfK_ok, ↓lfK_fz, ↓szK_ok, ↓wk_append, ↓wk_reverse, ↓wk_clear, ↓wk_ixc, ↓frK_ok, ↓frK_fz, ↓wk_frz, ↓wk_frzL, ↓wk_lenc, ↓wk_setc, ↓wk_tyc, get_at0, get_at1, get_at2, get_at3, set_at0, set_at1, set_at2, set_at3, ↓wp_itemF, filterMap_some', filterMap_if, ↓itK_none, ↓itK_some, ↓wp_compN, ↓wp_forN, ↓wp_forC, ev_1, ev_2, ev_3, ev_4, ev_6, ev_7, ev_8, ev_9, ev_10, ev_11, ev_12, ev_13, ev_14, ev_15, ev_16, ev_17, ev_18, ev_19, ev_20, ev_21, ev_22, ev_23, ev_24, ev_25, ev_26, ev_27, ev_28, ev_29, ev_30, ev_31, ev_32, ev_33, ev_34, ev_35, ev_37, ev_38, ev_39, ev_40, ev_41, ev_42, ev_43, ev_44, ev_45, ev_46, ev_47, ev_48, ev_49, ev_50, ev_51, ev_54, ev_55, ev_56, ev_57, ev_58, ev_envOf, ev_wipe0, ev_wipe1, ev_rep0, ev_rep1, pick_cons, pick_nil, ↓szS_ok, ↓wk_jsN, ↓wk_js, fmt_s, fmt_i, str_i, str_s, int1_i, int1_b, isi_own, ↓wk_iZ, ↓wk_iV, zip_map, rev_lst, ↓par3_ok, ↓wp_sPar3, ↓truK_t, ↓truK_f, ↓wp_eOrT, truD_non, truD_bl, truD_int, truD_tup, truD_lst, ↓wk_slc, beqI_f, beqI_t, isub_ii, ifdiv_ib, ↓gwp_star1, ↓gwp_star0, lo_jars, lo_strs, lo_jD, lo_own, lo_rowL, lo_sh, ↓lstK_rowL, ↓sqK_rowL, ↓tupK_own, len_rowL, len_own, ix_rowL, ix_own, sl_rowL, tup_rowL, list_rowL, list_own, at_rd, at_rw, ↓reduceIte, Nat.reduceAdd, Nat.reduceSub, Nat.reduceLeDiff, Nat.reduceEqDiff, Nat.reduceLT, Nat.reduceBEq, Int.reduceDiv, reduceCtorEq, $xs,*])
  | `(tactic| dsimp! only [$xs,*]) => `(tactic| simp (disch := first | assumption | exact id rfl | omega | (simp only [List.length_map, List.length_append, List.length_cons, List.length_nil, List.length_set, List.length_replicate, List.length_take, List.length_drop, List.length_reverse] <;> omega) | (simp only [if_true, if_false, eq_self, Nat.reduceEqDiff]; done) | (simp only [lo_non, lo_bl, lo_int, lo_str, lo_lst, lo_tup, lo_ins, loS_nil, loS_cons, loF_nil, loF_cons, loC_lst, loC_ins, loS_app, ev_1, ev_2, ev_3, ev_4, ev_6, ev_7, ev_8, ev_9, ev_10, ev_13, ev_14, ev_15, ev_16, ev_17, ev_18, ev_26, ev_27, ev_30, ev_31, ev_32, ev_33, ev_34, ev_35, ev_44, ev_45, ev_46, ev_47, ev_48, ev_49, ev_50, ev_51, ev_57, ev_58, lo_jars, lo_strs, lo_jD, lo_own, lo_rowL, lo_sh]; done) | exact fun _ => id rfl | fail) only [↓wp_ok, ↓wp_next, ↓wp_ret, ↓wp_sSeq, ↓wp_fnD, ↓outP_ret, ↓wp_outD_same, ↓wp_outD_keep, cmp_ii, neg_i, add_ii, sub_ii, mod_ii, len_lst, len_ro, len_tup, ↓wp_eK, ↓wp_eVar0, ↓wp_eVars, ↓wp_eBin, ↓wp_eUn, ↓wp_eArgs, ↓wp_aNil, ↓wp_aCons, ↓wp_tYes, ↓wp_tNot, ↓wp_tAnd, ↓wp_tOr, ↓wp_eIf, ↓wp_oNone, ↓wp_eSl, ↓wp_eFrz, ↓wp_eLc, ↓gwp_N, ↓gwp_nil, ↓gwp_cons, ↓gwp_T, ↓wp_sNext, ↓wp_sRet, ↓wp_sRetN, ↓wp_sExpr, ↓wp_sIf, ↓wp_sAsg, ↓par2_ok, ↓wp_sPar, ↓wp_sFor, tyChk_str, Den.sl_tup, okL_ok, list_tup, max_ii, min_ii, abs_i, ne_ii, eq_ii, eq_ss, ↓wp_eCall, okC_ok, ↓wp_outD_app, ↓wp_outD_st, app_app, mul_ib, fdiv_ib, divmod_ib, pow_ib, ofO_some, ↓wp_ofO, ix_lstE, ix_roE, ix_tupE, atI_0, atI_1, atI_2, atI_3, atI_4, atI_map, tyChk_lst, lo_non, lo_bl, lo_int, lo_str, lo_lst, lo_tup, lo_ins, loS_nil, loS_cons, loF_nil, loF_cons, loC_lst, loC_ins, loS_app, insOf_ins, add_ll', add_tt', add_ss', mkL_ok', mkT_ok', mkC_ok', len_str', ne_ss, imul_ib, iadd_ii, ↓wp_sAug, isN_non, isN_int, isN_str, isN_tup, isN_lst, notN_non, notN_int, notN_str, notN_tup, notN_lst, isi_str_non, isi_str_bl, isi_str_int, isi_str_str, isi_str_lst, isi_str_tup, isi_str_dct, isi_int_non, isi_int_bl, isi_int_int, isi_int_str, isi_int_lst, isi_int_tup, isi_int_dct, isi_bool_non, isi_bool_bl, isi_bool_int, isi_bool_str, isi_bool_lst, isi_bool_tup, isi_bool_dct, isi_list_non, isi_list_bl, isi_list_int, isi_list_str, isi_list_lst, isi_list_tup, isi_list_dct, isi_tuple_non, isi_tuple_bl, isi_tuple_int, isi_tuple_str, isi_tuple_lst, isi_tuple_tup, isi_tuple_dct, isi_dict_non, isi_dict_bl, isi_dict_int, isi_dict_str, isi_dict_lst, isi_dict_tup, isi_dict_dct, ↓insK_some, ↓optK_some, ↓cinK_app, ↓wp_eFldK, ↓wp_eMethK, ↓wp_sFldK, look_eq, look_ne, look_nil, put_nil, put_eq, put_ne, ↓blK_ok, ↓intK_ok, ↓strK_ok, ↓lstK_lst, ↓lstK_ro, ↓tupK_ok, ↓sqK_lst, ↓sqK_ro, ↓sqK_tup, ↓oneK_ok, ↓twoK_ok, ↓rngK_ok, ↓andK_true, ↓wk_tOf, ↓wk_eAnd, ↓wk_eOr, ↓wk_eNot, ↓wk_eChain, ↓wk_eM, ↓wk_oSome, ↓wk_iL, ↓wk_iT, ↓wk_iS, ↓wk_iR1, ↓wk_iR2, ↓wk_iEA, ↓wk_gsub, ↓lcK_ok, ↓lfK_ok, ↓lfK_fz, ↓szK_ok, ↓wk_append, ↓wk_reverse, ↓wk_clear, ↓wk_ixc, ↓frK_ok, ↓frK_fz, ↓wk_frz, ↓wk_frzL, ↓wk_lenc, ↓wk_setc, ↓wk_tyc, get_at0, get_at1, get_at2, get_at3, set_at0, set_at1, set_at2, set_at3, ↓wp_itemF, filterMap_some', filterMap_if, ↓itK_none, ↓itK_some, ↓wp_compN, ↓wp_forN, ↓wp_forC, ev_1, ev_2, ev_3, ev_4, ev_6, ev_7, ev_8, ev_9, ev_10, ev_11, ev_12, ev_13, ev_14, ev_15, ev_16, ev_17, ev_18, ev_19, ev_20, ev_21, ev_22, ev_23, ev_24, ev_25, ev_26, ev_27, ev_28, ev_29, ev_30, ev_31, ev_32, ev_33, ev_34, ev_35, ev_37, ev_38, ev_39, ev_40, ev_41, ev_42, ev_43, ev_44, ev_45, ev_46, ev_47, ev_48, ev_49, ev_50, ev_51, ev_54, ev_55, ev_56, ev_57, ev_58, ev_envOf, ev_wipe0, ev_wipe1, ev_rep0, ev_rep1, pick_cons, pick_nil, ↓szS_ok, ↓wk_jsN, ↓wk_js, fmt_s, fmt_i, str_i, str_s, int1_i, int1_b, isi_own, ↓wk_iZ, ↓wk_iV, zip_map, rev_lst, ↓par3_ok, ↓wp_sPar3, ↓truK_t, ↓truK_f, ↓wp_eOrT, truD_non, truD_bl, truD_int, truD_tup, truD_lst, ↓wk_slc, beqI_f, beqI_t, isub_ii, ifdiv_ib, ↓gwp_star1, ↓gwp_star0, lo_jars, lo_strs, lo_jD, lo_own, lo_rowL, lo_sh, ↓lstK_rowL, ↓sqK_rowL, ↓tupK_own, len_rowL, len_own, ix_rowL, ix_own, sl_rowL, tup_rowL, list_rowL, list_own, at_rd, at_rw, ↓reduceIte, Nat.reduceAdd, Nat.reduceSub, Nat.reduceLeDiff, Nat.reduceEqDiff, Nat.reduceLT, Nat.reduceBEq, Int.reduceDiv, reduceCtorEq, $xs,*])
  | `(tactic| simp_all! only [$xs,*]) => `(tactic| simp only [↓wp_ok, ↓wp_next, ↓wp_ret, ↓wp_sSeq, ↓wp_fnD, ↓outP_ret, ↓wp_outD_same, ↓wp_outD_keep, cmp_ii, neg_i, add_ii, sub_ii, mod_ii, len_lst, len_ro, len_tup, ↓wp_eK, ↓wp_eVar0, ↓wp_eVars, ↓wp_eBin, ↓wp_eUn, ↓wp_eArgs, ↓wp_aNil, ↓wp_aCons, ↓wp_tYes, ↓wp_tNot, ↓wp_tAnd, ↓wp_tOr, ↓wp_eIf, ↓wp_oNone, ↓wp_eSl, ↓wp_eFrz, ↓wp_eLc, ↓gwp_N, ↓gwp_nil, ↓gwp_cons, ↓gwp_T, ↓wp_sNext, ↓wp_sRet, ↓wp_sRetN, ↓wp_sExpr, ↓wp_sIf, ↓wp_sAsg, ↓par2_ok, ↓wp_sPar, ↓wp_sFor, tyChk_str, Den.sl_tup, okL_ok, list_tup, max_ii, min_ii, abs_i, ne_ii, eq_ii, eq_ss, ↓wp_eCall, okC_ok, ↓wp_outD_app, ↓wp_outD_st, app_app, mul_ib, fdiv_ib, divmod_ib, pow_ib, ofO_some, ↓wp_ofO, ix_lstE, ix_roE, ix_tupE, atI_0, atI_1, atI_2, atI_3, atI_4, atI_map, tyChk_lst, lo_non, lo_bl, lo_int, lo_str, lo_lst, lo_tup, lo_ins, loS_nil, loS_cons, loF_nil, loF_cons, loC_lst, loC_ins, loS_app, insOf_ins, add_ll', add_tt', add_ss', mkL_ok', mkT_ok', mkC_ok', len_str', ne_ss, imul_ib, iadd_ii, ↓wp_sAug, isN_non, isN_int, isN_str, isN_tup, isN_lst, notN_non, notN_int, notN_str, notN_tup, notN_lst, isi_str_non, isi_str_bl, isi_str_int, isi_str_str, isi_str_lst, isi_str_tup, isi_str_dct, isi_int_non, isi_int_bl, isi_int_int, isi_int_str, isi_int_lst, isi_int_tup, isi_int_dct, isi_bool_non, isi_bool_bl, isi_bool_int, isi_bool_str, isi_bool_lst, isi_bool_tup, isi_bool_dct, isi_list_non, isi_list_bl, isi_list_int, isi_list_str, isi_list_lst, isi_list_tup, isi_list_dct, isi_tuple_non, isi_tuple_bl, isi_tuple_int, isi_tuple_str, isi_tuple_lst, isi_tuple_tup, isi_tuple_dct, isi_dict_non, isi_dict_bl, isi_dict_int, isi_dict_str, isi_dict_lst, isi_dict_tup, isi_dict_dct, ↓insK_some, ↓optK_some, ↓cinK_app, ↓wp_eFldK, ↓wp_eMethK, ↓wp_sFldK, look_eq, look_ne, look_nil, put_nil, put_eq, put_ne, ↓blK_ok, ↓intK_ok, ↓strK_ok, ↓lstK_lst, ↓lstK_ro, ↓tupK_ok, ↓sqK_lst, ↓sqK_ro, ↓sqK_tup, ↓oneK_ok, ↓twoK_ok, ↓rngK_ok, ↓andK_true, ↓wk_tOf, ↓wk_eAnd, ↓wk_eOr, ↓wk_eNot, ↓wk_eChain, ↓wk_eM, ↓wk_oSome, ↓wk_iL, ↓wk_iT, ↓wk_iS, ↓wk_iR1, ↓wk_iR2, ↓wk_iEA, ↓wk_gsub, ↓lcK_ok, ↓lfK_ok, ↓lfK_fz, ↓szK_ok, ↓wk_append, ↓wk_reverse, ↓wk_clear, ↓wk_ixc, ↓frK_ok, ↓frK_fz, ↓wk_frz, ↓wk_frzL, ↓wk_lenc, ↓wk_setc, ↓wk_tyc, get_at0, get_at1, get_at2, get_at3, set_at0, set_at1, set_at2, set_at3, ↓wp_itemF, filterMap_some', filterMap_if, ↓itK_none, ↓itK_some, ↓wp_compN, ↓wp_forN, ↓wp_forC, ev_1, ev_2, ev_3, ev_4, ev_6, ev_7, ev_8, ev_9, ev_10, ev_11, ev_12, ev_13, ev_14, ev_15, ev_16, ev_17, ev_18, ev_19, ev_20, ev_21, ev_22, ev_23, ev_24, ev_25, ev_26, ev_27, ev_28, ev_29, ev_30, ev_31, ev_32, ev_33, ev_34, ev_35, ev_37, ev_38, ev_39, ev_40, ev_41, ev_42, ev_43, ev_44, ev_45, ev_46, ev_47, ev_48, ev_49, ev_50, ev_51, ev_54, ev_55, ev_56, ev_57, ev_58, ev_envOf, ev_wipe0, ev_wipe1, ev_rep0, ev_rep1, pick_cons, pick_nil, ↓szS_ok, ↓wk_jsN, ↓wk_js, fmt_s, fmt_i, str_i, str_s, int1_i, int1_b, isi_own, ↓wk_iZ, ↓wk_iV, zip_map, rev_lst, ↓par3_ok, ↓wp_sPar3, ↓truK_t, ↓truK_f, ↓wp_eOrT, truD_non, truD_bl, truD_int, truD_tup, truD_lst, ↓wk_slc, beqI_f, beqI_t, isub_ii, ifdiv_ib, ↓gwp_star1, ↓gwp_star0, lo_jars, lo_strs, lo_jD, lo_own, lo_rowL, lo_sh, ↓lstK_rowL, ↓sqK_rowL, ↓tupK_own, len_rowL, len_own, ix_rowL, ix_own, sl_rowL, tup_rowL, list_rowL, list_own, at_rd, at_rw, $xs,*])
theorem take_wp {n : Int} (h : Pot C p st) (n0 : 0 < n) (n1 : n.natAbs < 10 ^ 150 * 10 ^ 150)
    (nx : ∀ k st', 0 ≤ k → k < n → Pot C p st' → st'.length = C.length → Q (.int k) st') : (den_law_take [.cell p, .int n] st).wp Q E := by
  obtain ⟨hp, a, b, ⟨g1, g2, g3⟩, rfl⟩ := h
  unfold den_law_take
  have hl : ∀ c, (C.set p c).length = C.length := fun c => List.length_set
  have key : ∀ k a' b', 0 ≤ k → k < n → Gd a' b' → Q (.int k) (C.set p (pc a' b')) := fun k a' b' h0 h1 g => nx k _ h0 h1 ⟨hp, a', b', g, rfl⟩ (hl _)
  simp! only [get_pc hp]
  split
  · simp! only [get_pc hp, ixN2_0, List.set_set, hl]
    exact key _ _ _ (Int.emod_nonneg _ (by omega)) (Int.emod_lt_of_pos _ n0) ⟨Int.ediv_nonneg g1 (by omega), g2, g3⟩
  · have hb0 : 0 ≤ (b * 48271 + 12347) % 2147483647 := Int.emod_nonneg _ (by decide)
    have hb1 : (b * 48271 + 12347) % 2147483647 < 2147483647 := Int.emod_lt_of_pos _ (by decide)
    simp! only [get_pc hp, get_lst hp, ixN2_1, List.set_set, hl]
    exact key _ _ _ (Int.emod_nonneg _ (by omega)) (Int.emod_lt_of_pos _ n0) ⟨g1, hb0, by omega⟩
theorem among_wp {xs : List D} (h : Pot C p st) (h0 : xs ≠ []) (h1 : xs.length ≤ 1000)
    (nx : ∀ d st', d ∈ xs → Pot C p st' → st'.length = C.length → Q d st') : (den_law_among [.cell p, .lst xs] st).wp Q E := by
  unfold den_law_among
  have hx : 0 < xs.length := List.length_pos_iff.mpr h0
  have l0 := h.len
  simp! only [and_self]
  refine take_wp h (by omega) (by omega) fun k st1 k0 k1 h l1 => ?_
  refine wp_ixmem k0 k1 fun d hd => ?_
  simp! only [and_self]
  exact nx d st1 hd h l1
/-! ### names -/
theorem cutS_to {cs : List Nat} {n : Nat} : cutS (SX.S cs) none (some (n : Int)) = SX.S (cs.take n) := by
  rw [C8.cutS_slice, SX.slice_to (by omega)]; simp
theorem lab_in {us : List Str} {used : D} {x : Str} (hu : toPy st used = some (.list (us.map .str))) (hx : Lb x) (hus : ∀ x ∈ us, Lb x) :
    notInD (.str x) used st = .ok (.bl (!us.contains x)) st :=
  notIn_strs hu hx.lay fun x h => (hus x h).lay
theorem one_of {α : Type} {P : α → Prop} {a b c d x : α} (h : x ∈ [a, b, c, d]) (ha : P a) (hb : P b) (hc : P c) (hd : P d) : P x := by
  simp only [List.mem_cons, List.not_mem_nil, or_false] at h
  rcases h with rfl | rfl | rfl | rfl <;> assumption
theorem label_wp {us : List Str} {used : D} (h : Pot C p st) (hu : ∀ st, Pot C p st → toPy st used = some (.list (us.map .str))) (hl : us.length ≤ 25) (hus : ∀ x ∈ us, Lb x)
    (nx : ∀ x st', Lb x → x ∉ us → Pot C p st' → st'.length = C.length → Q (.str x) st') : (den_law_label [.cell p, used] st).wp Q E := by
  unfold den_law_label
  have l0 := h.len
  simp! only [and_self]
  refine take_wp h (by decide) (by decide) fun k8 st1 k80 k81 h l1 => ?_
  simp! only [and_self]
  refine take_wp h (by decide) (by decide) fun k4 st2 k40 k41 h l2 => ?_
  refine wp_ixmem k40 k41 fun d hd => ?_
  obtain ⟨n, rfl, n1, n2⟩ : ∃ n : Int, d = .int n ∧ 1 ≤ n ∧ n ≤ 8 :=
    one_of (P := fun d => ∃ n : Int, d = .int n ∧ 1 ≤ n ∧ n ≤ 8) hd ⟨1, rfl, by omega, by omega⟩ ⟨1, rfl, by omega, by omega⟩ ⟨2, rfl, by omega, by omega⟩ ⟨1 + k8, rfl, by omega, by omega⟩
  simp! only [rngD]
  refine wp_compL (fun ys acc s => ∃ cs : List Nat, acc = (cs.map fun c => SX.S [c]).map D.str ∧ (∀ c ∈ cs, 97 ≤ c ∧ c ≤ 122) ∧ cs.length = ys.length ∧ Pot C p s) ⟨[], rfl, by simp, rfl, h⟩ ?_ ?_
  · rintro ys x zs acc s e ⟨cs, rfl, h1, h2, h⟩
    have hy : ys.length < 8 := by
      have := congrArg List.length e
      simp at this; omega
    simp! only [and_self]
    refine take_wp h (by decide) (by decide) fun k st' k0 k1 h' l' => ?_
    obtain ⟨c, e, m⟩ := atI_nat (xs := az.cps.toList) k0 (by rw [show az.cps.toList.length = 26 from by decide +kernel]; exact k1)
    simp! only [ix_str (z := az) (le_size (by rw [az_len]; decide)) e]
    refine ⟨Nat.lt_of_lt_of_le (m := 1000) (by simp; omega) (le_size (Nat.le_refl _)), cs ++ [c], by simp, ?_, by simp [h2], h'⟩
    intro c' hc'
    rcases List.mem_append.mp hc' with h | h
    · exact h1 _ h
    · rw [List.mem_singleton.mp h]; exact az_mem.mp m
  rintro acc s ⟨cs, rfl, h1, h2, h⟩
  have l3 := h.len
  simp only [List.length_range] at h2
  have hj : Txt.join "" (cs.map fun c => SX.S [c]) = SX.S cs := by
    have := SX.join_S [] (cs.map fun c => [c])
    rw [joinL_one, List.map_map] at this
    exact this
  have hjl : ((cs.map fun c => SX.S [c]).map (·.length)).sum + (cs.map fun c => SX.S [c]).length * (Str.length "") ≤ 16777216 := by
    have e0 : Str.length "" = 0 := rfl
    have : ((cs.map fun c => SX.S [c]).map (·.length)) = List.replicate cs.length 1 := by
      rw [List.map_map]; exact List.map_eq_replicate_iff.mpr fun c _ => rfl
    rw [this, e0]
    simp; omega
  have c1 : 1 ≤ cs.length := by omega
  have c8 : cs.length ≤ 8 := by omega
  try simp only [Den.envOf, List.map_cons, List.map_nil, List.length_cons, List.length_nil, List.replicate, List.cons_append, List.nil_append, List.append_nil, Nat.reduceAdd, Nat.reduceSub, Nat.zero_add, Nat.add_zero, wp_sSeq, wp_fnD, wp_ok, wp_next, wp_ret, wp_ite, wp_ites, outP_ret, wp_sIf, wp_sRet, wp_sRetN, wp_sAsg, wp_sExpr, wp_sNext, wp_sFor, wp_sPar, par2_ok, wp_tOf, wp_tOr, wp_tAnd, wp_tNot, wp_tYes, wp_eBin, wp_eVar0, wp_eVars, wp_eK, wp_eUn, wp_eArgs, wp_aCons, wp_aNil, wp_eAnd, wp_eOr, wp_eNot, wp_eIf, wp_eChain, wp_eSl, wp_eM, wp_oSome, wp_oNone, wp_eFrz, wp_eLc, wp_iL, wp_iT, wp_iS, wp_iR1, gwp_N, gwp_nil, gwp_cons, gwp_T, gwp_sub, List.set_cons_zero, List.set_cons_succ, Bool.not_true, Bool.not_false, Bool.false_eq_true, if_true, if_false, cmp_ii, neg_i, add_ii, sub_ii, decide_eq_true_eq, Nat.reduceLeDiff, Nat.reduceEqDiff, D.bl.injEq, D.int.injEq, D.str.injEq, D.tup.injEq, D.lst.injEq, exists_eq_left', exists_eq_left, true_and, and_true, Option.some.injEq, List.cons.injEq, eq_self, reduceCtorEq, or_false, false_or, false_and, and_false, and_self, wipeD, len_lst, len_ro, len_tup, okL_ok, tyChk_str, Den.sl_tup, list_tup, max_ii, min_ii, abs_i, wp_eCall, wp_iEA, okC_ok, wp_outD_keep, mkL_ok, mkT_ok, mkC_ok, le_size, wp_eFld, wp_eMeth, wp_sFldD, Den.len_str, join_str hjl, hj]
  refine wp_compOn (fun c => .str ⟨#[c]⟩) (fun _ => true) (fun c => .str (SX.S (cs.take 7 ++ [c]))) az.cps.toList (le_size (by decide +kernel)) (fun c _ => ?_) (fun c _ _ => ?_) ?_
  · try simp only [Den.envOf, List.map_cons, List.map_nil, List.length_cons, List.length_nil, List.replicate, List.cons_append, List.nil_append, List.append_nil, Nat.reduceAdd, Nat.reduceSub, Nat.zero_add, Nat.add_zero, wp_sSeq, wp_fnD, wp_ok, wp_next, wp_ret, wp_ite, wp_ites, outP_ret, wp_sIf, wp_sRet, wp_sRetN, wp_sAsg, wp_sExpr, wp_sNext, wp_sFor, wp_sPar, par2_ok, wp_tOf, wp_tOr, wp_tAnd, wp_tNot, wp_tYes, wp_eBin, wp_eVar0, wp_eVars, wp_eK, wp_eUn, wp_eArgs, wp_aCons, wp_aNil, wp_eAnd, wp_eOr, wp_eNot, wp_eIf, wp_eChain, wp_eSl, wp_eM, wp_oSome, wp_oNone, wp_eFrz, wp_eLc, wp_iL, wp_iT, wp_iS, wp_iR1, gwp_N, gwp_nil, gwp_cons, gwp_T, gwp_sub, List.set_cons_zero, List.set_cons_succ, Bool.not_true, Bool.not_false, Bool.false_eq_true, if_true, if_false, cmp_ii, neg_i, add_ii, sub_ii, decide_eq_true_eq, Nat.reduceLeDiff, Nat.reduceEqDiff, D.bl.injEq, D.int.injEq, D.str.injEq, D.tup.injEq, D.lst.injEq, exists_eq_left', exists_eq_left, true_and, and_true, Option.some.injEq, List.cons.injEq, eq_self, reduceCtorEq, or_false, false_or, false_and, and_false, and_self, wipeD, len_lst, len_ro, len_tup, okL_ok, tyChk_str, Den.sl_tup, list_tup, max_ii, min_ii, abs_i, wp_eCall, wp_iEA, okC_ok, wp_outD_keep, mkL_ok, mkT_ok, mkC_ok, le_size, wp_eFld, wp_eMeth, wp_sFldD, Den.len_str]
  · have e7 : cutS (SX.S cs) none (some 7) = SX.S (cs.take 7) := cutS_to (n := 7)
    have e8 : (SX.S (cs.take 7) ++ ⟨#[c]⟩ : Str) = SX.S (cs.take 7 ++ [c]) := SX.S_cat _ _
    try simp only [Den.envOf, List.map_cons, List.map_nil, List.length_cons, List.length_nil, List.replicate, List.cons_append, List.nil_append, List.append_nil, Nat.reduceAdd, Nat.reduceSub, Nat.zero_add, Nat.add_zero, wp_sSeq, wp_fnD, wp_ok, wp_next, wp_ret, wp_ite, wp_ites, outP_ret, wp_sIf, wp_sRet, wp_sRetN, wp_sAsg, wp_sExpr, wp_sNext, wp_sFor, wp_sPar, par2_ok, wp_tOf, wp_tOr, wp_tAnd, wp_tNot, wp_tYes, wp_eBin, wp_eVar0, wp_eVars, wp_eK, wp_eUn, wp_eArgs, wp_aCons, wp_aNil, wp_eAnd, wp_eOr, wp_eNot, wp_eIf, wp_eChain, wp_eSl, wp_eM, wp_oSome, wp_oNone, wp_eFrz, wp_eLc, wp_iL, wp_iT, wp_iS, wp_iR1, gwp_N, gwp_nil, gwp_cons, gwp_T, gwp_sub, List.set_cons_zero, List.set_cons_succ, Bool.not_true, Bool.not_false, Bool.false_eq_true, if_true, if_false, cmp_ii, neg_i, add_ii, sub_ii, decide_eq_true_eq, Nat.reduceLeDiff, Nat.reduceEqDiff, D.bl.injEq, D.int.injEq, D.str.injEq, D.tup.injEq, D.lst.injEq, exists_eq_left', exists_eq_left, true_and, and_true, Option.some.injEq, List.cons.injEq, eq_self, reduceCtorEq, or_false, false_or, false_and, and_false, and_self, wipeD, len_lst, len_ro, len_tup, okL_ok, tyChk_str, Den.sl_tup, list_tup, max_ii, min_ii, abs_i, wp_eCall, wp_iEA, okC_ok, wp_outD_keep, mkL_ok, mkT_ok, mkC_ok, le_size, wp_eFld, wp_eMeth, wp_sFldD, Den.len_str, sl_str (z := SX.S cs) (le_size (by rw [SX.S_len]; omega)), e7, add_ss (a := SX.S (cs.take 7)) (b := ⟨#[c]⟩) (le_size (by rw [SX.S_len, List.length_take]; show _ + 1 ≤ 1000; omega)), e8]
  rw [filter_yes]
  have hcand : az.cps.toList.map (fun c => D.str (SX.S (cs.take 7 ++ [c]))) = (az.cps.toList.map fun c => SX.S (cs.take 7 ++ [c])).map D.str := by rw [List.map_map]; rfl
  rw [hcand]
  generalize hcd : (az.cps.toList.map fun c => SX.S (cs.take 7 ++ [c])) = cand
  have hcl : cand.length = 26 := by rw [← hcd, List.length_map]; decide +kernel
  try simp only [Den.envOf, List.map_cons, List.map_nil, List.length_cons, List.length_nil, List.replicate, List.cons_append, List.nil_append, List.append_nil, Nat.reduceAdd, Nat.reduceSub, Nat.zero_add, Nat.add_zero, wp_sSeq, wp_fnD, wp_ok, wp_next, wp_ret, wp_ite, wp_ites, outP_ret, wp_sIf, wp_sRet, wp_sRetN, wp_sAsg, wp_sExpr, wp_sNext, wp_sFor, wp_sPar, par2_ok, wp_tOf, wp_tOr, wp_tAnd, wp_tNot, wp_tYes, wp_eBin, wp_eVar0, wp_eVars, wp_eK, wp_eUn, wp_eArgs, wp_aCons, wp_aNil, wp_eAnd, wp_eOr, wp_eNot, wp_eIf, wp_eChain, wp_eSl, wp_eM, wp_oSome, wp_oNone, wp_eFrz, wp_eLc, wp_iL, wp_iT, wp_iS, wp_iR1, gwp_N, gwp_nil, gwp_cons, gwp_T, gwp_sub, List.set_cons_zero, List.set_cons_succ, Bool.not_true, Bool.not_false, Bool.false_eq_true, if_true, if_false, cmp_ii, neg_i, add_ii, sub_ii, decide_eq_true_eq, Nat.reduceLeDiff, Nat.reduceEqDiff, D.bl.injEq, D.int.injEq, D.str.injEq, D.tup.injEq, D.lst.injEq, exists_eq_left', exists_eq_left, true_and, and_true, Option.some.injEq, List.cons.injEq, eq_self, reduceCtorEq, or_false, false_or, false_and, and_false, and_self, wipeD, len_lst, len_ro, len_tup, okL_ok, tyChk_str, Den.sl_tup, list_tup, max_ii, min_ii, abs_i, wp_eCall, wp_iEA, okC_ok, wp_outD_keep, mkL_ok, mkT_ok, mkC_ok, le_size, wp_eFld, wp_eMeth, wp_sFldD, Den.len_str, add_ll (a := [D.str (SX.S cs)]) (b := cand.map D.str) (le_size (by simp [hcl]))]
  have hall : D.str (SX.S cs) :: cand.map D.str = (SX.S cs :: cand).map D.str := rfl
  rw [hall]
  have hLb : ∀ x ∈ SX.S cs :: cand, Lb x := by
    intro x hx
    rcases List.mem_cons.mp hx with rfl | hx
    · exact ⟨cs, rfl, c1, c8, h1⟩
    · rw [← hcd] at hx
      obtain ⟨c, hc, rfl⟩ := List.mem_map.mp hx
      refine ⟨_, rfl, by simp, by simp; omega, fun c' hc' => ?_⟩
      rcases List.mem_append.mp hc' with h | h
      · exact h1 _ (List.mem_of_mem_take h)
      · rw [List.mem_singleton.mp h]; exact az_mem.mp hc
  refine wp_compOn D.str (fun x => !us.contains x) D.str (SX.S cs :: cand) (le_size (by simp [hcl])) (fun x hx => ?_) (fun x _ _ => ?_) ?_
  · try simp only [Den.envOf, List.map_cons, List.map_nil, List.length_cons, List.length_nil, List.replicate, List.cons_append, List.nil_append, List.append_nil, Nat.reduceAdd, Nat.reduceSub, Nat.zero_add, Nat.add_zero, wp_sSeq, wp_fnD, wp_ok, wp_next, wp_ret, wp_ite, wp_ites, outP_ret, wp_sIf, wp_sRet, wp_sRetN, wp_sAsg, wp_sExpr, wp_sNext, wp_sFor, wp_sPar, par2_ok, wp_tOf, wp_tOr, wp_tAnd, wp_tNot, wp_tYes, wp_eBin, wp_eVar0, wp_eVars, wp_eK, wp_eUn, wp_eArgs, wp_aCons, wp_aNil, wp_eAnd, wp_eOr, wp_eNot, wp_eIf, wp_eChain, wp_eSl, wp_eM, wp_oSome, wp_oNone, wp_eFrz, wp_eLc, wp_iL, wp_iT, wp_iS, wp_iR1, gwp_N, gwp_nil, gwp_cons, gwp_T, gwp_sub, List.set_cons_zero, List.set_cons_succ, Bool.not_true, Bool.not_false, Bool.false_eq_true, if_true, if_false, cmp_ii, neg_i, add_ii, sub_ii, decide_eq_true_eq, Nat.reduceLeDiff, Nat.reduceEqDiff, D.bl.injEq, D.int.injEq, D.str.injEq, D.tup.injEq, D.lst.injEq, exists_eq_left', exists_eq_left, true_and, and_true, Option.some.injEq, List.cons.injEq, eq_self, reduceCtorEq, or_false, false_or, false_and, and_false, and_self, wipeD, len_lst, len_ro, len_tup, okL_ok, tyChk_str, Den.sl_tup, list_tup, max_ii, min_ii, abs_i, wp_eCall, wp_iEA, okC_ok, wp_outD_keep, mkL_ok, mkT_ok, mkC_ok, le_size, wp_eFld, wp_eMeth, wp_sFldD, Den.len_str, lab_in (hu _ h) (hLb x hx) hus]
  · try simp only [Den.envOf, List.map_cons, List.map_nil, List.length_cons, List.length_nil, List.replicate, List.cons_append, List.nil_append, List.append_nil, Nat.reduceAdd, Nat.reduceSub, Nat.zero_add, Nat.add_zero, wp_sSeq, wp_fnD, wp_ok, wp_next, wp_ret, wp_ite, wp_ites, outP_ret, wp_sIf, wp_sRet, wp_sRetN, wp_sAsg, wp_sExpr, wp_sNext, wp_sFor, wp_sPar, par2_ok, wp_tOf, wp_tOr, wp_tAnd, wp_tNot, wp_tYes, wp_eBin, wp_eVar0, wp_eVars, wp_eK, wp_eUn, wp_eArgs, wp_aCons, wp_aNil, wp_eAnd, wp_eOr, wp_eNot, wp_eIf, wp_eChain, wp_eSl, wp_eM, wp_oSome, wp_oNone, wp_eFrz, wp_eLc, wp_iL, wp_iT, wp_iS, wp_iR1, gwp_N, gwp_nil, gwp_cons, gwp_T, gwp_sub, List.set_cons_zero, List.set_cons_succ, Bool.not_true, Bool.not_false, Bool.false_eq_true, if_true, if_false, cmp_ii, neg_i, add_ii, sub_ii, decide_eq_true_eq, Nat.reduceLeDiff, Nat.reduceEqDiff, D.bl.injEq, D.int.injEq, D.str.injEq, D.tup.injEq, D.lst.injEq, exists_eq_left', exists_eq_left, true_and, and_true, Option.some.injEq, List.cons.injEq, eq_self, reduceCtorEq, or_false, false_or, false_and, and_false, and_self, wipeD, len_lst, len_ro, len_tup, okL_ok, tyChk_str, Den.sl_tup, list_tup, max_ii, min_ii, abs_i, wp_eCall, wp_iEA, okC_ok, wp_outD_keep, mkL_ok, mkT_ok, mkC_ok, le_size, wp_eFld, wp_eMeth, wp_sFldD, Den.len_str]
  have hpig : ∃ x ∈ cand, x ∉ us := by
    refine Classical.byContradiction fun hn => ?_
    have hs : ∀ x ∈ cand, x ∈ us := fun x hx => Classical.byContradiction fun h => hn ⟨x, hx, h⟩
    have nd : cand.Nodup := by
      rw [← hcd]
      have nz : az.cps.toList.Nodup := by decide +kernel
      refine List.pairwise_map.mpr (List.Pairwise.imp (fun {a b} hab e => hab ?_) nz)
      have := SX.S_inj e
      simpa using this
    have := len_nodup nd hs
    omega
  cases hf : (SX.S cs :: cand).filter (fun x => !us.contains x) with
  | nil =>
    obtain ⟨x, hx, hn⟩ := hpig
    have := List.filter_eq_nil_iff.mp hf x (List.mem_cons_of_mem _ hx)
    simp [hn] at this
  | cons x r =>
    have hx : x ∈ (SX.S cs :: cand).filter (fun x => !us.contains x) := by rw [hf]; exact List.mem_cons_self ..
    obtain ⟨hx1, hx2⟩ := List.mem_filter.mp hx
    simp! only [and_self]
    exact nx x _ (hLb x hx1) (by simpa using hx2) h l3
/-! ### bases, grains, rows -/
theorem size_wp (h : Pot C p st) (nx : ∀ s st', 2 ≤ s → s ≤ 1000000 → Pot C p st' → st'.length = C.length → Q (.int s) st') : (den_law_size [.cell p] st).wp Q E := by
  unfold den_law_size
  have l0 := h.len
  simp! only [and_self]
  refine take_wp h (by decide) (by decide) fun k1 st1 k10 k11 h l1 => ?_
  simp! only [and_self]
  refine take_wp h (by decide) (by decide) fun k2 st2 k20 k21 h l2 => ?_
  simp! only [and_self]
  refine take_wp h (by decide) (by decide) fun k3 st3 k30 k31 h l3 => ?_
  simp! only [and_self]
  refine take_wp h (by decide) (by decide) fun k4 st4 k40 k41 h l4 => ?_
  simp! only [and_self]
  refine take_wp h (by decide) (by decide) fun k5 st5 k50 k51 h l5 => ?_
  refine wp_ixmem k50 k51 fun d hd => ?_
  have hk4 : k4 < 999999 := k41
  obtain ⟨n, rfl, n1, n2⟩ : ∃ n : Int, d = .int n ∧ 2 ≤ n ∧ n ≤ 1000000 := by
    refine one_of (P := fun d => ∃ n : Int, d = .int n ∧ 2 ≤ n ∧ n ≤ 1000000) hd ⟨_, rfl, by omega, by omega⟩ ⟨_, rfl, by omega, by omega⟩ ⟨_, rfl, ?_, ?_⟩ ⟨_, rfl, by omega, by omega⟩
    · have := Int.mul_le_mul (show (2 : Int) ≤ 2 + k1 by omega) (show (2 : Int) ≤ 2 + k2 by omega) (by omega) (by omega)
      omega
    · have := Int.mul_le_mul (show 2 + k1 ≤ (10 : Int) by omega) (show 2 + k2 ≤ (10 : Int) by omega) (by omega) (by omega)
      omega
  simp! only [and_self]
  exact nx n st5 n1 n2 h l5
theorem heap_wp {s : Int} (h : Pot C p st) (s1 : 2 ≤ s) (s2 : s ≤ 1000000)
    (nx : ∀ g st', 0 ≤ g → g < 10 ^ 60 → Pot C p st' → st'.length = C.length → Q (.int g) st') : (den_law_heap [.cell p, .int s] st).wp Q E := by
  unfold den_law_heap
  have l0 := h.len
  simp! only [and_self]
  refine take_wp h (by decide) (by decide) fun k1 st1 k10 k11 h l1 => ?_
  have b1 := Int.mul_le_mul s2 (show k1 ≤ 4 by omega) k10 (by omega)
  have b0 := Int.mul_nonneg (show 0 ≤ s by omega) k10
  simp! only [and_self]
  refine take_wp h (by decide) (by decide) fun k2 st2 k20 k21 h l2 => ?_
  simp! only [and_self]
  refine take_wp h (by decide) (by decide +kernel) fun k3 st3 k30 k31 h l3 => ?_
  have k31' : k3 < 10 ^ 60 := k31
  simp! only [and_self]
  refine take_wp h (by omega) (by omega) fun k4 st4 k40 k41 h l4 => ?_
  simp! only [and_self]
  refine take_wp h (by omega) (by omega) fun k5 st5 k50 k51 h l5 => ?_
  simp! only [and_self]
  refine among_wp h (by simp) (by simp) fun d st6 m h l6 => ?_
  simp! only [and_self]
  have key : ∀ g, 0 ≤ g → g < 10 ^ 60 → Q (.int g) st6 := fun g h0 h1 => nx g st6 h0 h1 h l6
  simp only [List.mem_cons, List.not_mem_nil, or_false] at m
  rcases m with rfl | rfl | rfl | rfl | rfl | rfl
  · exact key _ (by omega) (by omega)
  · exact key _ (by omega) (by omega)
  · exact key _ (by omega) (by omega)
  · refine key _ ?_ ?_ <;> split <;> omega
  · exact key _ (by omega) (by omega)
  · exact key _ (by omega) (by omega)
theorem row_wp {up : Int} (h : Pot C p st) (u1 : 3 ≤ up) (u2 : up ≤ 12)
    (nx : ∀ ts st', JsB (10 ^ 60) ts → ts.length ≤ up.toNat → Pot C p st' → st'.length = C.length → Q (rowL ts) st') : (den_law_row [.cell p, .int up] st).wp Q E := by
  unfold den_law_row
  have l0 := h.len
  have hP0 := h
  simp! only [and_self]
  refine take_wp (h.app _) (by omega) (by omega) fun k1 st1 k10 k11 h1 l1 => ?_
  obtain ⟨st1, rfl, h, l1⟩ := h.unapp h1
  simp! only [and_self]
  refine take_wp (h.app _) (by omega) (by omega) fun k2 st2 k20 k21 h2 l2 => ?_
  obtain ⟨st2, rfl, h, l2⟩ := h.unapp h2
  refine wp_ixmem k20 k21 fun d hd => ?_
  obtain ⟨n, rfl, n1, n2⟩ : ∃ n : Int, d = .int n ∧ 1 ≤ n ∧ n ≤ up :=
    one_of (P := fun d => ∃ n : Int, d = .int n ∧ 1 ≤ n ∧ n ≤ up) hd ⟨_, rfl, by omega, by omega⟩ ⟨_, rfl, by omega, by omega⟩ ⟨_, rfl, by omega, by omega⟩ ⟨_, rfl, by omega, by omega⟩
  simp! only [rngD]
  refine wp_forL (fun ys env s => ∃ ts s' e1 e2, env = [some (.cell p), some (.int up), some (.cell st.length), some (.cell (st ++ [Cell.lst []]).length), e1, e2] ∧ s = s' ++ [.lst ((nms ts).map .str), .lst (ts.map jD)] ∧ Pot C p s' ∧
    (∀ t ∈ ts, Lb t.1 ∧ 2 ≤ t.2.1 ∧ t.2.1 ≤ 1000000 ∧ 0 ≤ t.2.2 ∧ t.2.2 < 10 ^ 60) ∧ (nms ts).Nodup ∧ ts.length = ys.length) ⟨[], st2, none, none, rfl, rfl, h, by simp, by simp [nms], rfl⟩ ?_ ?_
  · rintro ys x zs env s e ⟨ts, s', e1, e2, rfl, rfl, h, h1, h2, h3⟩
    have hy : ts.length < 12 := by
      have := congrArg List.length e
      simp at this; omega
    have lx := h.len
    have ll : (st ++ [Cell.lst []]).length = st.length + 1 := by simp
    simp! only [ll]
    refine label_wp (us := nms ts) (h.app _) (fun s hs => ?_) (by rw [nms_len]; omega) (fun x hx => by obtain ⟨t, ht, rfl⟩ := mem_nms.mp hx; exact (h1 t ht).1) fun x s1 hx hn hs1 ls1 => ?_
    · obtain ⟨s2, rfl, hs2, l2⟩ := h.unapp hs
      exact toPy_cell (get_at0 (by omega))
    obtain ⟨s1, rfl, h, l1⟩ := h.unapp hs1
    have hz : (nms ts).length < 1000 := by rw [nms_len]; omega
    have hz2 : ((nms ts).map D.str).length < 1000 := by simp [nms_len]; omega
    have hz3 : (ts.map jD).length < 1000 := by simp; omega
    simp! only [and_self]
    refine size_wp (h.app _) fun b s2 b2 b6 hs2 ls2 => ?_
    obtain ⟨s2, rfl, h, l2⟩ := h.unapp hs2
    simp! only [Den.atI_last]
    refine heap_wp (h.app _) b2 b6 fun g s3 g0 g1 hs3 ls3 => ?_
    obtain ⟨s3, rfl, h, l3⟩ := h.unapp hs3
    simp! only [and_self]
    refine ⟨ts ++ [(x, b, g)], s3, _, _, ⟨rfl, rfl⟩, by simp [nms, jD], h, ?_, ?_, by simp [h3]⟩
    · intro t ht
      rcases List.mem_append.mp ht with ht | ht
      · exact h1 t ht
      · rw [List.mem_singleton.mp ht]; exact ⟨hx, b2, b6, g0, g1⟩
    · simp only [nms, List.map_append, List.map_cons, List.map_nil]
      rw [List.nodup_append]
      exact ⟨h2, by simp, fun a ha b hb e => hn (by simp at hb; rw [← hb, ← e]; exact ha)⟩
  rintro env s ⟨ts, s', e1, e2, rfl, rfl, h, h1, h2, h3⟩
  simp only [List.length_range] at h3
  have lx := h.len
  have ll : (st ++ [Cell.lst []]).length = st.length + 1 := by simp
  simp! only [ll]
  rw [wp_outD_appR (by omega) (hP0.keep h) (by simp only [lo_lst, lo_jars])]
  exact nx ts s' ⟨fun t ht => (h1 t ht).1, fun t ht => (h1 t ht).2.1, fun t ht => (h1 t ht).2.2.1, fun t ht => (h1 t ht).2.2.2.1, fun t ht => (h1 t ht).2.2.2.2, h2, by omega, by omega⟩ (by omega) h lx
end
end Q

namespace Q
open PySem PySem.Spec PyProof.Rows L2 Den
/-! ### texts -/
theorem joinL_nil : ∀ l : List (List Nat), TL.joinL [] l = l.flatten
  | [] => rfl
  | [p] => by simp [TL.joinL]
  | p :: q :: r => by
    show p ++ ([] ++ TL.joinL [] (q :: r)) = _
    rw [joinL_nil (q :: r)]; simp
theorem joinL_sp (c : Nat) : ∀ (a : List Nat) (l : List (List Nat)), TL.joinL [c] (a :: l) = a ++ (l.map fun w => c :: w).flatten
  | a, [] => by simp [TL.joinL]
  | a, q :: r => by
    show a ++ ([c] ++ TL.joinL [c] (q :: r)) = _
    rw [joinL_sp c q r]; simp
theorem strs_S : ∀ ws : List Str, ws = (ws.map fun w => w.cps.toList).map SX.S
  | [] => rfl
  | w :: ws => by simp only [List.map_cons, SX.S_tl]; rw [← strs_S ws]
theorem join_sp (a : Str) (ws : List Str) : Txt.join " " (a :: ws) = a ++ Txt.join "" (ws.map fun w => (" " : Str) ++ w) := by
  have e1 : (a :: ws) = (a.cps.toList :: ws.map fun w => w.cps.toList).map SX.S := strs_S (a :: ws)
  have e2 : (ws.map fun w => (" " : Str) ++ w) = ((ws.map fun w => w.cps.toList).map fun l => 32 :: l).map SX.S := by
    simp only [List.map_map]
    refine List.map_congr_left fun w _ => ?_
    show (SX.S [32]) ++ w = SX.S (32 :: w.cps.toList)
    conv => lhs; rw [← SX.S_tl w]
    rw [SX.S_cat]; rfl
  have j1 : Txt.join " " ((a.cps.toList :: ws.map fun w => w.cps.toList).map SX.S) = SX.S (TL.joinL [32] (a.cps.toList :: ws.map fun w => w.cps.toList)) := SX.join_S [32] _
  have j2 : Txt.join "" (((ws.map fun w => w.cps.toList).map fun l => 32 :: l).map SX.S) = SX.S (TL.joinL [] ((ws.map fun w => w.cps.toList).map fun l => 32 :: l)) := SX.join_S [] _
  rw [e1, e2, j1, j2, joinL_sp, joinL_nil]
  conv => rhs; rw [← SX.S_tl a]
  rw [SX.S_cat]
theorem join_len (sep : Str) (l : List Str) : (Txt.join sep l).length ≤ (l.map (·.length)).sum + l.length * sep.length := by rw [TL.join_eq]; exact StrLaws.join_length_le sep l
theorem int_len {i : Int} (h : i.natAbs < 10 ^ 150) : (Str.ofString (toString i)).length ≤ 151 := by
  have := int_text_length_le10 (k := 150) (by decide) h
  rw [PySem.ofString_length]; omega
/-- a jar's word -/
def jw (t : J3) : Str := Txt.join ":" [t.1, Str.ofString (toString t.2.1), Str.ofString (toString t.2.2)]
section
variable {st : Store} {ts : List J3} {B : Int} {t : J3}
theorem jw_len (h : Lb t.1) (h1 : t.2.1.natAbs < 10 ^ 150) (h2 : t.2.2.natAbs < 10 ^ 150) : (jw t).length ≤ 320 := by
  have a := join_len ":" [t.1, Str.ofString (toString t.2.1), Str.ofString (toString t.2.2)]
  have b := h.len
  have c := int_len h1
  have d := int_len h2
  have e : Str.length ":" = 1 := rfl
  simp only [List.map_cons, List.map_nil, List.sum_cons, List.sum_nil, List.length_cons, List.length_nil, e] at a
  unfold jw; omega
theorem join3 {a b c : Str} (h : a.length + b.length + c.length ≤ 1000) : joinD (.str ":") [.lst [.str a, .str b, .str c]] st = .ok (.str (Txt.join ":" [a, b, c])) st := by
  have e : Str.length ":" = 1 := rfl
  exact join_str (ys := [a, b, c]) (by simp only [List.map_cons, List.map_nil, List.sum_cons, List.sum_nil, List.length_cons, List.length_nil, e]; omega)
local macro_rules
  | `(tactic| simp! only [$xs,*]) => `(tactic| simp (disch := first | assumption | exact id rfl | omega | (simp only [List.length_map, List.length_append, List.length_cons, List.length_nil, List.length_set, List.length_replicate, List.length_take, List.length_drop, List.length_reverse] <;> omega) | (simp only [if_true, if_false, eq_self, Nat.reduceEqDiff]; done) | (simp only [lo_non, lo_bl, lo_int, lo_str, lo_lst, lo_tup, lo_ins, loS_nil, loS_cons, loF_nil, loF_cons, loC_lst, loC_ins, loS_app, ev_1, ev_2, ev_3, ev_4, ev_6, ev_7, ev_8, ev_9, ev_10, ev_13, ev_14, ev_15, ev_16, ev_17, ev_18, ev_26, ev_27, ev_30, ev_31, ev_32, ev_33, ev_34, ev_35, ev_44, ev_45, ev_46, ev_47, ev_48, ev_49, ev_50, ev_51, ev_57, ev_58, lo_jars, lo_strs, lo_jD, lo_own, lo_rowL, lo_sh]; done) | fail) only [↓wp_ok, ↓wp_next, ↓wp_ret, ↓wp_sSeq, ↓wp_fnD, ↓outP_ret, ↓wp_outD_same, ↓wp_outD_keep, cmp_ii, neg_i, add_ii, sub_ii, mod_ii, len_lst, len_ro, len_tup, ↓wp_eK, ↓wp_eVar0, ↓wp_eVars, ↓wp_eBin, ↓wp_eUn, ↓wp_eArgs, ↓wp_aNil, ↓wp_aCons, ↓wp_tYes, ↓wp_tNot, ↓wp_tAnd, ↓wp_tOr, ↓wp_eIf, ↓wp_oNone, ↓wp_eSl, ↓wp_eFrz, ↓wp_eLc, ↓gwp_N, ↓gwp_nil, ↓gwp_cons, ↓gwp_T, ↓wp_sNext, ↓wp_sRet, ↓wp_sRetN, ↓wp_sExpr, ↓wp_sIf, ↓wp_sAsg, ↓par2_ok, ↓wp_sPar, ↓wp_sFor, tyChk_str, Den.sl_tup, okL_ok, list_tup, max_ii, min_ii, abs_i, ne_ii, eq_ii, eq_ss, ↓wp_eCall, okC_ok, ↓wp_outD_app, ↓wp_outD_st, app_app, mul_ib, fdiv_ib, divmod_ib, pow_ib, ofO_some, ↓wp_ofO, ix_lstE, ix_roE, ix_tupE, atI_0, atI_1, atI_2, atI_3, atI_4, atI_map, tyChk_lst, lo_non, lo_bl, lo_int, lo_str, lo_lst, lo_tup, lo_ins, loS_nil, loS_cons, loF_nil, loF_cons, loC_lst, loC_ins, loS_app, insOf_ins, add_ll', add_tt', add_ss', mkL_ok', mkT_ok', mkC_ok', len_str', ne_ss, imul_ib, iadd_ii, ↓wp_sAug, isN_non, isN_int, isN_str, isN_tup, isN_lst, notN_non, notN_int, notN_str, notN_tup, notN_lst, isi_str_non, isi_str_bl, isi_str_int, isi_str_str, isi_str_lst, isi_str_tup, isi_str_dct, isi_int_non, isi_int_bl, isi_int_int, isi_int_str, isi_int_lst, isi_int_tup, isi_int_dct, isi_bool_non, isi_bool_bl, isi_bool_int, isi_bool_str, isi_bool_lst, isi_bool_tup, isi_bool_dct, isi_list_non, isi_list_bl, isi_list_int, isi_list_str, isi_list_lst, isi_list_tup, isi_list_dct, isi_tuple_non, isi_tuple_bl, isi_tuple_int, isi_tuple_str, isi_tuple_lst, isi_tuple_tup, isi_tuple_dct, isi_dict_non, isi_dict_bl, isi_dict_int, isi_dict_str, isi_dict_lst, isi_dict_tup, isi_dict_dct, ↓insK_some, ↓optK_some, ↓cinK_app, ↓wp_eFldK, ↓wp_eMethK, ↓wp_sFldK, look_eq, look_ne, look_nil, put_nil, put_eq, put_ne, ↓blK_ok, ↓intK_ok, ↓strK_ok, ↓lstK_lst, ↓lstK_ro, ↓tupK_ok, ↓sqK_lst, ↓sqK_ro, ↓sqK_tup, ↓oneK_ok, ↓twoK_ok, ↓rngK_ok, ↓andK_true, ↓wk_tOf, ↓wk_eAnd, ↓wk_eOr, ↓wk_eNot, ↓wk_eChain, ↓wk_eM, ↓wk_oSome, ↓wk_iL, ↓wk_iT, ↓wk_iS, ↓wk_iR1, ↓wk_iR2, ↓wk_iEA, ↓wk_gsub, ↓lcK_ok, ↓lfK_ok, ↓lfK_fz, ↓szK_ok, ↓wk_append, ↓wk_reverse, ↓wk_clear, ↓wk_ixc, ↓frK_ok, ↓frK_fz, ↓wk_frz, ↓wk_frzL, ↓wk_lenc, ↓wk_setc, ↓wk_tyc, get_at0, get_at1, get_at2, get_at3, set_at0, set_at1, set_at2, set_at3, ↓wp_itemF, filterMap_some', filterMap_if, ↓itK_none, ↓itK_some, ↓wp_compN, ↓wp_forN, ↓wp_forC, ev_1, ev_2, ev_3, ev_4, ev_6, ev_7, ev_8, ev_9, ev_10, ev_11, ev_12, ev_13, ev_14, ev_15, ev_16, ev_17, ev_18, ev_19, ev_20, ev_21, ev_22, ev_23, ev_24, ev_25, ev_26, ev_27, ev_28, ev_29, ev_30, ev_31, ev_32, ev_33, ev_34, ev_35, ev_37, ev_38, ev_39, ev_40, ev_41, ev_42, ev_43, ev_44, ev_45, ev_46, ev_47, ev_48, ev_49, ev_50, ev_51, ev_54, ev_55, ev_56, ev_57, ev_58, ev_envOf, ev_wipe0, ev_wipe1, ev_rep0, ev_rep1, pick_cons, pick_nil, ↓szS_ok, ↓wk_jsN, ↓wk_js, fmt_s, fmt_i, str_i, str_s, int1_i, int1_b, isi_own, ↓wk_iZ, ↓wk_iV, zip_map, rev_lst, ↓par3_ok, ↓wp_sPar3, ↓truK_t, ↓truK_f, ↓wp_eOrT, truD_non, truD_bl, truD_int, truD_tup, truD_lst, ↓wk_slc, beqI_f, beqI_t, isub_ii, ifdiv_ib, ↓gwp_star1, ↓gwp_star0, lo_jars, lo_strs, lo_jD, lo_own, lo_rowL, lo_sh, ↓lstK_rowL, ↓sqK_rowL, ↓tupK_own, len_rowL, len_own, ix_rowL, ix_own, sl_rowL, tup_rowL, list_rowL, list_own, at_rd, at_rw, ↓reduceIte, Nat.reduceAdd, Nat.reduceSub, Nat.reduceLeDiff, Nat.reduceEqDiff, Nat.reduceLT, Nat.reduceBEq, Int.reduceDiv, reduceCtorEq, $xs,*])
  | `(tactic| dsimp! only [$xs,*]) => `(tactic| simp (disch := first | assumption | exact id rfl | omega | (simp only [List.length_map, List.length_append, List.length_cons, List.length_nil, List.length_set, List.length_replicate, List.length_take, List.length_drop, List.length_reverse] <;> omega) | (simp only [if_true, if_false, eq_self, Nat.reduceEqDiff]; done) | (simp only [lo_non, lo_bl, lo_int, lo_str, lo_lst, lo_tup, lo_ins, loS_nil, loS_cons, loF_nil, loF_cons, loC_lst, loC_ins, loS_app, ev_1, ev_2, ev_3, ev_4, ev_6, ev_7, ev_8, ev_9, ev_10, ev_13, ev_14, ev_15, ev_16, ev_17, ev_18, ev_26, ev_27, ev_30, ev_31, ev_32, ev_33, ev_34, ev_35, ev_44, ev_45, ev_46, ev_47, ev_48, ev_49, ev_50, ev_51, ev_57, ev_58, lo_jars, lo_strs, lo_jD, lo_own, lo_rowL, lo_sh]; done) | exact fun _ => id rfl | fail) only [↓wp_ok, ↓wp_next, ↓wp_ret, ↓wp_sSeq, ↓wp_fnD, ↓outP_ret, ↓wp_outD_same, ↓wp_outD_keep, cmp_ii, neg_i, add_ii, sub_ii, mod_ii, len_lst, len_ro, len_tup, ↓wp_eK, ↓wp_eVar0, ↓wp_eVars, ↓wp_eBin, ↓wp_eUn, ↓wp_eArgs, ↓wp_aNil, ↓wp_aCons, ↓wp_tYes, ↓wp_tNot, ↓wp_tAnd, ↓wp_tOr, ↓wp_eIf, ↓wp_oNone, ↓wp_eSl, ↓wp_eFrz, ↓wp_eLc, ↓gwp_N, ↓gwp_nil, ↓gwp_cons, ↓gwp_T, ↓wp_sNext, ↓wp_sRet, ↓wp_sRetN, ↓wp_sExpr, ↓wp_sIf, ↓wp_sAsg, ↓par2_ok, ↓wp_sPar, ↓wp_sFor, tyChk_str, Den.sl_tup, okL_ok, list_tup, max_ii, min_ii, abs_i, ne_ii, eq_ii, eq_ss, ↓wp_eCall, okC_ok, ↓wp_outD_app, ↓wp_outD_st, app_app, mul_ib, fdiv_ib, divmod_ib, pow_ib, ofO_some, ↓wp_ofO, ix_lstE, ix_roE, ix_tupE, atI_0, atI_1, atI_2, atI_3, atI_4, atI_map, tyChk_lst, lo_non, lo_bl, lo_int, lo_str, lo_lst, lo_tup, lo_ins, loS_nil, loS_cons, loF_nil, loF_cons, loC_lst, loC_ins, loS_app, insOf_ins, add_ll', add_tt', add_ss', mkL_ok', mkT_ok', mkC_ok', len_str', ne_ss, imul_ib, iadd_ii, ↓wp_sAug, isN_non, isN_int, isN_str, isN_tup, isN_lst, notN_non, notN_int, notN_str, notN_tup, notN_lst, isi_str_non, isi_str_bl, isi_str_int, isi_str_str, isi_str_lst, isi_str_tup, isi_str_dct, isi_int_non, isi_int_bl, isi_int_int, isi_int_str, isi_int_lst, isi_int_tup, isi_int_dct, isi_bool_non, isi_bool_bl, isi_bool_int, isi_bool_str, isi_bool_lst, isi_bool_tup, isi_bool_dct, isi_list_non, isi_list_bl, isi_list_int, isi_list_str, isi_list_lst, isi_list_tup, isi_list_dct, isi_tuple_non, isi_tuple_bl, isi_tuple_int, isi_tuple_str, isi_tuple_lst, isi_tuple_tup, isi_tuple_dct, isi_dict_non, isi_dict_bl, isi_dict_int, isi_dict_str, isi_dict_lst, isi_dict_tup, isi_dict_dct, ↓insK_some, ↓optK_some, ↓cinK_app, ↓wp_eFldK, ↓wp_eMethK, ↓wp_sFldK, look_eq, look_ne, look_nil, put_nil, put_eq, put_ne, ↓blK_ok, ↓intK_ok, ↓strK_ok, ↓lstK_lst, ↓lstK_ro, ↓tupK_ok, ↓sqK_lst, ↓sqK_ro, ↓sqK_tup, ↓oneK_ok, ↓twoK_ok, ↓rngK_ok, ↓andK_true, ↓wk_tOf, ↓wk_eAnd, ↓wk_eOr, ↓wk_eNot, ↓wk_eChain, ↓wk_eM, ↓wk_oSome, ↓wk_iL, ↓wk_iT, ↓wk_iS, ↓wk_iR1, ↓wk_iR2, ↓wk_iEA, ↓wk_gsub, ↓lcK_ok, ↓lfK_ok, ↓lfK_fz, ↓szK_ok, ↓wk_append, ↓wk_reverse, ↓wk_clear, ↓wk_ixc, ↓frK_ok, ↓frK_fz, ↓wk_frz, ↓wk_frzL, ↓wk_lenc, ↓wk_setc, ↓wk_tyc, get_at0, get_at1, get_at2, get_at3, set_at0, set_at1, set_at2, set_at3, ↓wp_itemF, filterMap_some', filterMap_if, ↓itK_none, ↓itK_some, ↓wp_compN, ↓wp_forN, ↓wp_forC, ev_1, ev_2, ev_3, ev_4, ev_6, ev_7, ev_8, ev_9, ev_10, ev_11, ev_12, ev_13, ev_14, ev_15, ev_16, ev_17, ev_18, ev_19, ev_20, ev_21, ev_22, ev_23, ev_24, ev_25, ev_26, ev_27, ev_28, ev_29, ev_30, ev_31, ev_32, ev_33, ev_34, ev_35, ev_37, ev_38, ev_39, ev_40, ev_41, ev_42, ev_43, ev_44, ev_45, ev_46, ev_47, ev_48, ev_49, ev_50, ev_51, ev_54, ev_55, ev_56, ev_57, ev_58, ev_envOf, ev_wipe0, ev_wipe1, ev_rep0, ev_rep1, pick_cons, pick_nil, ↓szS_ok, ↓wk_jsN, ↓wk_js, fmt_s, fmt_i, str_i, str_s, int1_i, int1_b, isi_own, ↓wk_iZ, ↓wk_iV, zip_map, rev_lst, ↓par3_ok, ↓wp_sPar3, ↓truK_t, ↓truK_f, ↓wp_eOrT, truD_non, truD_bl, truD_int, truD_tup, truD_lst, ↓wk_slc, beqI_f, beqI_t, isub_ii, ifdiv_ib, ↓gwp_star1, ↓gwp_star0, lo_jars, lo_strs, lo_jD, lo_own, lo_rowL, lo_sh, ↓lstK_rowL, ↓sqK_rowL, ↓tupK_own, len_rowL, len_own, ix_rowL, ix_own, sl_rowL, tup_rowL, list_rowL, list_own, at_rd, at_rw, ↓reduceIte, Nat.reduceAdd, Nat.reduceSub, Nat.reduceLeDiff, Nat.reduceEqDiff, Nat.reduceLT, Nat.reduceBEq, Int.reduceDiv, reduceCtorEq, $xs,*])
  | `(tactic| simp_all! only [$xs,*]) => `(tactic| simp only [↓wp_ok, ↓wp_next, ↓wp_ret, ↓wp_sSeq, ↓wp_fnD, ↓outP_ret, ↓wp_outD_same, ↓wp_outD_keep, cmp_ii, neg_i, add_ii, sub_ii, mod_ii, len_lst, len_ro, len_tup, ↓wp_eK, ↓wp_eVar0, ↓wp_eVars, ↓wp_eBin, ↓wp_eUn, ↓wp_eArgs, ↓wp_aNil, ↓wp_aCons, ↓wp_tYes, ↓wp_tNot, ↓wp_tAnd, ↓wp_tOr, ↓wp_eIf, ↓wp_oNone, ↓wp_eSl, ↓wp_eFrz, ↓wp_eLc, ↓gwp_N, ↓gwp_nil, ↓gwp_cons, ↓gwp_T, ↓wp_sNext, ↓wp_sRet, ↓wp_sRetN, ↓wp_sExpr, ↓wp_sIf, ↓wp_sAsg, ↓par2_ok, ↓wp_sPar, ↓wp_sFor, tyChk_str, Den.sl_tup, okL_ok, list_tup, max_ii, min_ii, abs_i, ne_ii, eq_ii, eq_ss, ↓wp_eCall, okC_ok, ↓wp_outD_app, ↓wp_outD_st, app_app, mul_ib, fdiv_ib, divmod_ib, pow_ib, ofO_some, ↓wp_ofO, ix_lstE, ix_roE, ix_tupE, atI_0, atI_1, atI_2, atI_3, atI_4, atI_map, tyChk_lst, lo_non, lo_bl, lo_int, lo_str, lo_lst, lo_tup, lo_ins, loS_nil, loS_cons, loF_nil, loF_cons, loC_lst, loC_ins, loS_app, insOf_ins, add_ll', add_tt', add_ss', mkL_ok', mkT_ok', mkC_ok', len_str', ne_ss, imul_ib, iadd_ii, ↓wp_sAug, isN_non, isN_int, isN_str, isN_tup, isN_lst, notN_non, notN_int, notN_str, notN_tup, notN_lst, isi_str_non, isi_str_bl, isi_str_int, isi_str_str, isi_str_lst, isi_str_tup, isi_str_dct, isi_int_non, isi_int_bl, isi_int_int, isi_int_str, isi_int_lst, isi_int_tup, isi_int_dct, isi_bool_non, isi_bool_bl, isi_bool_int, isi_bool_str, isi_bool_lst, isi_bool_tup, isi_bool_dct, isi_list_non, isi_list_bl, isi_list_int, isi_list_str, isi_list_lst, isi_list_tup, isi_list_dct, isi_tuple_non, isi_tuple_bl, isi_tuple_int, isi_tuple_str, isi_tuple_lst, isi_tuple_tup, isi_tuple_dct, isi_dict_non, isi_dict_bl, isi_dict_int, isi_dict_str, isi_dict_lst, isi_dict_tup, isi_dict_dct, ↓insK_some, ↓optK_some, ↓cinK_app, ↓wp_eFldK, ↓wp_eMethK, ↓wp_sFldK, look_eq, look_ne, look_nil, put_nil, put_eq, put_ne, ↓blK_ok, ↓intK_ok, ↓strK_ok, ↓lstK_lst, ↓lstK_ro, ↓tupK_ok, ↓sqK_lst, ↓sqK_ro, ↓sqK_tup, ↓oneK_ok, ↓twoK_ok, ↓rngK_ok, ↓andK_true, ↓wk_tOf, ↓wk_eAnd, ↓wk_eOr, ↓wk_eNot, ↓wk_eChain, ↓wk_eM, ↓wk_oSome, ↓wk_iL, ↓wk_iT, ↓wk_iS, ↓wk_iR1, ↓wk_iR2, ↓wk_iEA, ↓wk_gsub, ↓lcK_ok, ↓lfK_ok, ↓lfK_fz, ↓szK_ok, ↓wk_append, ↓wk_reverse, ↓wk_clear, ↓wk_ixc, ↓frK_ok, ↓frK_fz, ↓wk_frz, ↓wk_frzL, ↓wk_lenc, ↓wk_setc, ↓wk_tyc, get_at0, get_at1, get_at2, get_at3, set_at0, set_at1, set_at2, set_at3, ↓wp_itemF, filterMap_some', filterMap_if, ↓itK_none, ↓itK_some, ↓wp_compN, ↓wp_forN, ↓wp_forC, ev_1, ev_2, ev_3, ev_4, ev_6, ev_7, ev_8, ev_9, ev_10, ev_11, ev_12, ev_13, ev_14, ev_15, ev_16, ev_17, ev_18, ev_19, ev_20, ev_21, ev_22, ev_23, ev_24, ev_25, ev_26, ev_27, ev_28, ev_29, ev_30, ev_31, ev_32, ev_33, ev_34, ev_35, ev_37, ev_38, ev_39, ev_40, ev_41, ev_42, ev_43, ev_44, ev_45, ev_46, ev_47, ev_48, ev_49, ev_50, ev_51, ev_54, ev_55, ev_56, ev_57, ev_58, ev_envOf, ev_wipe0, ev_wipe1, ev_rep0, ev_rep1, pick_cons, pick_nil, ↓szS_ok, ↓wk_jsN, ↓wk_js, fmt_s, fmt_i, str_i, str_s, int1_i, int1_b, isi_own, ↓wk_iZ, ↓wk_iV, zip_map, rev_lst, ↓par3_ok, ↓wp_sPar3, ↓truK_t, ↓truK_f, ↓wp_eOrT, truD_non, truD_bl, truD_int, truD_tup, truD_lst, ↓wk_slc, beqI_f, beqI_t, isub_ii, ifdiv_ib, ↓gwp_star1, ↓gwp_star0, lo_jars, lo_strs, lo_jD, lo_own, lo_rowL, lo_sh, ↓lstK_rowL, ↓sqK_rowL, ↓tupK_own, len_rowL, len_own, ix_rowL, ix_own, sl_rowL, tup_rowL, list_rowL, list_own, at_rd, at_rw, $xs,*])
theorem jtext_eq (h : Lb t.1) (h1 : t.2.1.natAbs < 10 ^ 150) (h2 : t.2.2.natAbs < 10 ^ 150) : denjar_text [jD t] st = .ok (.str (jw t)) st := by
  refine Res.eq_of_wp ?_
  unfold denjar_text
  have b := h.len
  have c := int_len h1
  have d := int_len h2
  simp! only [↓wp_compC, jD, join3, jw]
def jtx (ts : List J3) : Str := Txt.join "" (ts.map fun t => (" " : Str) ++ jw t)
theorem sum_le {l : List Nat} {m : Nat} (h : ∀ x ∈ l, x ≤ m) : l.sum ≤ l.length * m := by
  induction l with
  | nil => simp
  | cons a l ih =>
    have h1 := h a (List.mem_cons_self ..)
    have h2 := ih fun x hx => h x (List.mem_cons_of_mem _ hx)
    simp only [List.sum_cons, List.length_cons, Nat.add_mul, Nat.one_mul]; omega
theorem jnat (h : JsB B ts) (hB : B ≤ 10 ^ 150) : ∀ t ∈ ts, t.2.1.natAbs < 10 ^ 150 ∧ t.2.2.natAbs < 10 ^ 150 := fun t ht => by
  have := h.b2 t ht
  have := h.b6 t ht
  have := h.g0 t ht
  have := h.gB t ht
  omega
theorem sp_len {w : Str} : ((" " : Str) ++ w).length = w.length + 1 := by
  rw [Str.length_append]; have : Str.length " " = 1 := rfl; omega
theorem jtx_sum (h : JsB B ts) (hB : B ≤ 10 ^ 150) : ((ts.map fun t => (" " : Str) ++ jw t).map (·.length)).sum ≤ 12 * 321 := by
  have h1 := sum_le (l := (ts.map fun t => (" " : Str) ++ jw t).map (·.length)) (m := 321) (fun x hx => by
    simp only [List.map_map, List.mem_map, Function.comp] at hx
    obtain ⟨t, ht, rfl⟩ := hx
    obtain ⟨a, b⟩ := jnat h hB t ht
    have := jw_len (h.lb t ht) a b
    rw [sp_len]; omega)
  have h2 := h.le
  simp only [List.length_map] at h1
  exact Nat.le_trans h1 (Nat.mul_le_mul_right _ h2)
theorem jtx_len (h : JsB B ts) (hB : B ≤ 10 ^ 150) : (jtx ts).length ≤ 5000 := by
  have a := join_len "" (ts.map fun t => (" " : Str) ++ jw t)
  have b := jtx_sum h hB
  have e : Str.length "" = 0 := rfl
  unfold jtx
  rw [e] at a
  omega
theorem jstext_eq {d : D} {c : Nat} {fs : List (Str × D)} (hj : HasJ st d c fs ts) (h : JsB B ts) (hB : B ≤ 10 ^ 150) : denShape_jars_text [d] st = .ok (.str (jtx ts)) st := by
  refine Res.eq_of_wp ?_
  unfold denShape_jars_text
  have h12 := h.le
  have e0 : Str.length "" = 0 := rfl
  have ej : joinD (.str "") [.lst (ts.map fun t => D.str ((" " : Str) ++ jw t))] st = .ok (.str (jtx ts)) st := by
    have := join_str (st := st) (a := "") (ys := ts.map fun t => (" " : Str) ++ jw t) (by
      have := jtx_sum h hB
      rw [e0]; omega)
    rw [List.map_map] at this
    exact this
  rcases hj.kind with rfl | rfl
  all_goals
    simp! only [hj.at_, hj.own]
    refine wp_compX (F := fun t => some (D.str ((" " : Str) ++ jw t))) (fun t ht => ?_) (by omega) ?_
    · obtain ⟨a, b⟩ := jnat h hB t ht
      have hw := jw_len (h.lb t ht) a b
      have e1 : Str.length " " = 1 := rfl
      have hz : Str.length " " + (jw t).length ≤ 1000 := by omega
      simp! only [jtext_eq (h.lb t ht) a b]
    simp! only [ej]
theorem rstr_eq (h : JsB B ts) (hB : B ≤ 10 ^ 150) : denRound_str [shD (.rd ts)] st = .ok (.str ("round" ++ jtx ts)) st := by
  refine Res.eq_of_wp ?_
  unfold denRound_str
  have l := jtx_len h hB
  have e0 : Str.length (Str.empty ++ ("round" : Str)) ≤ 16000000 := by decide +kernel
  have e1 : (Str.empty ++ ("round" : Str)) = "round" := by decide +kernel
  have e2 : Str.length (("round" : Str) ++ jtx ts) ≤ 16000000 := by
    rw [Str.length_append]; have : Str.length "round" = 5 := rfl; omega
  simp! only [jstext_eq hasRd h hB, e1]
abbrev shw (d : D) : Str := (pyD d).shown
theorem reprF_fine {m k : Nat} {d : D} (h : Fd m k d) (hm : m ≤ 100000) (hk : k ≤ 60) : reprF d st = .ok (.str (pyD d).shown) st := reprD_fine (h.fine hm hk) st
theorem shw_len {m k : Nat} {d : D} (h : Fd m k d) (hm : m ≤ 100000) : (shw d).length ≤ 15300151 := by
  obtain ⟨h1, h2, h3⟩ := h
  obtain ⟨g1, g2, g3, g4⟩ := lf_py (fun _ => none) d h1
  have := PyData.shown_le 151 (by decide) _ g3
  have h5 : (151 + 2) * (pyD d).weight ≤ 153 * 100000 := Nat.mul_le_mul_left _ (Nat.le_trans g4 (Nat.le_trans h2 hm))
  show (pyD d).shown.length ≤ _
  omega
theorem rowL_fd (h : JsB B ts) (hB : B ≤ 10 ^ 150) : Fd 18048 2 (rowL ts) := by
  refine Fd.lst (m := 1503) (k := 1) (n := 12) (fun d hd => ?_) (by simp; exact h.le)
  obtain ⟨t, ht, rfl⟩ := List.mem_map.mp hd
  exact jD_fd h hB t ht
theorem repr_fine {m k : Nat} {d : D} (h : Fd m k d) (hm : m ≤ 100000) (hk : k ≤ 60) : reprD [d] st = .ok (.str (shw d)) st := reprD_fine (h.fine hm hk) st
theorem wstr_eq {tr : Int} (h : JsB B ts) (hB : B ≤ 10 ^ 150) (ht : tr.natAbs < 10 ^ 150) : denRow_str [shD (.rw ts tr)] st = .ok (.str (("row " ++ Str.ofString (toString tr)) ++ jtx ts)) st := by
  refine Res.eq_of_wp ?_
  unfold denRow_str
  have l := jtx_len h hB
  have lt := int_len ht
  have e0 : Str.length (Str.empty ++ ("row " : Str)) ≤ 16000000 := by decide +kernel
  have e1 : (Str.empty ++ ("row " : Str)) = "row " := by decide +kernel
  have l4 : Str.length "row " = 4 := rfl
  have e2 : Str.length (("row " : Str) ++ Str.ofString (toString tr)) ≤ 16000000 := by
    rw [Str.length_append]; omega
  have e3 : Str.length ((("row " : Str) ++ Str.ofString (toString tr)) ++ jtx ts) ≤ 16000000 := by
    rw [Str.length_append, Str.length_append]; omega
  simp! only [tray_eq hasRw rfl, jstext_eq hasRw h hB, e1]
theorem rrepr_eq (h : JsB B ts) (hB : B ≤ 10 ^ 150) : denRound_repr [shD (.rd ts)] st = .ok (.str (("Round(" ++ shw (rowL ts)) ++ ")")) st := by
  refine Res.eq_of_wp ?_
  unfold denRound_repr
  have h12 := h.le
  have l := shw_len (rowL_fd h hB) (by decide)
  have e0 : Str.length (Str.empty ++ ("Round(" : Str)) ≤ 16000000 := by decide +kernel
  have e1 : (Str.empty ++ ("Round(" : Str)) = "Round(" := by decide +kernel
  have l4 : Str.length "Round(" = 6 := rfl
  have l1 : Str.length ")" = 1 := rfl
  have e2 : Str.length (("Round(" : Str) ++ shw (rowL ts)) ≤ 16000000 := by
    rw [Str.length_append]; omega
  have e3 : Str.length ((("Round(" : Str) ++ shw (rowL ts)) ++ (")" : Str)) ≤ 16000000 := by
    rw [Str.length_append, Str.length_append]; omega
  simp! only [rjars_eq hasRd (show ts.length ≤ 500 by omega), reprF_fine (rowL_fd h hB) (by decide) (by decide), e1]
theorem wrepr_eq {tr : Int} (h : JsB B ts) (hB : B ≤ 10 ^ 150) (ht : tr.natAbs < 10 ^ 150) : denRow_repr [shD (.rw ts tr)] st = .ok (.str (((("Row(" ++ shw (rowL ts)) ++ ", tray=") ++ shw (.int tr)) ++ ")")) st := by
  refine Res.eq_of_wp ?_
  unfold denRow_repr
  have h12 := h.le
  have l := shw_len (rowL_fd h hB) (by decide)
  have lt := shw_len (fd_int ht) (by decide)
  have lt2 : (shw (.int tr)).length ≤ 151 := int_len ht
  have e0 : Str.length (Str.empty ++ ("Row(" : Str)) ≤ 16000000 := by decide +kernel
  have e1 : (Str.empty ++ ("Row(" : Str)) = "Row(" := by decide +kernel
  have l4 : Str.length "Row(" = 4 := rfl
  have l1 : Str.length ")" = 1 := rfl
  have l7 : Str.length ", tray=" = 7 := rfl
  have e2 : Str.length (("Row(" : Str) ++ shw (rowL ts)) ≤ 16000000 := by
    rw [Str.length_append]; omega
  have e3 : Str.length ((("Row(" : Str) ++ shw (rowL ts)) ++ (", tray=" : Str)) ≤ 16000000 := by
    rw [Str.length_append, Str.length_append]; omega
  have e4 : Str.length (((("Row(" : Str) ++ shw (rowL ts)) ++ (", tray=" : Str)) ++ shw (.int tr)) ≤ 16000000 := by
    rw [Str.length_append, Str.length_append, Str.length_append]; omega
  have e5 : Str.length ((((("Row(" : Str) ++ shw (rowL ts)) ++ (", tray=" : Str)) ++ shw (.int tr)) ++ (")" : Str)) ≤ 16000000 := by
    rw [Str.length_append, Str.length_append, Str.length_append, Str.length_append]; omega
  simp! only [jars_eq hasRw, tray_eq hasRw rfl, reprF_fine (rowL_fd h hB) (by decide) (by decide), reprF_fine (fd_int ht) (by decide) (by decide), e1]
end
end Q

namespace Q
open PySem PySem.Spec PyProof.Rows L2 Den
def plD : Option Int → D
  | none => .non
  | some i => .int i
def Shp.tr : Shp → Option Int
  | .rd _ => none
  | .rw _ t => some t
def mkS (ts : List J3) : Option Int → Shp
  | none => .rd (turn ts)
  | some t => .rw ts t
def TrOk : Option Int → Prop
  | none => True
  | some t => 0 ≤ t ∧ t < 10 ^ 150
section
variable {st : Store} {ts : List J3} {B : Int} {s : Shp} {x : Str} {d jd : D} {o : Option Int}
local macro_rules
  | `(tactic| simp! only [$xs,*]) => `(tactic| simp (disch := first | assumption | exact id rfl | omega | (simp only [List.length_map, List.length_append, List.length_cons, List.length_nil, List.length_set, List.length_replicate, List.length_take, List.length_drop, List.length_reverse] <;> omega) | (simp only [if_true, if_false, eq_self, Nat.reduceEqDiff]; done) | (simp only [lo_non, lo_bl, lo_int, lo_str, lo_lst, lo_tup, lo_ins, loS_nil, loS_cons, loF_nil, loF_cons, loC_lst, loC_ins, loS_app, ev_1, ev_2, ev_3, ev_4, ev_6, ev_7, ev_8, ev_9, ev_10, ev_13, ev_14, ev_15, ev_16, ev_17, ev_18, ev_26, ev_27, ev_30, ev_31, ev_32, ev_33, ev_34, ev_35, ev_44, ev_45, ev_46, ev_47, ev_48, ev_49, ev_50, ev_51, ev_57, ev_58, lo_jars, lo_strs, lo_jD, lo_own, lo_rowL, lo_sh]; done) | fail) only [↓wp_ok, ↓wp_next, ↓wp_ret, ↓wp_sSeq, ↓wp_fnD, ↓outP_ret, ↓wp_outD_same, ↓wp_outD_keep, cmp_ii, neg_i, add_ii, sub_ii, mod_ii, len_lst, len_ro, len_tup, ↓wp_eK, ↓wp_eVar0, ↓wp_eVars, ↓wp_eBin, ↓wp_eUn, ↓wp_eArgs, ↓wp_aNil, ↓wp_aCons, ↓wp_tYes, ↓wp_tNot, ↓wp_tAnd, ↓wp_tOr, ↓wp_eIf, ↓wp_oNone, ↓wp_eSl, ↓wp_eFrz, ↓wp_eLc, ↓gwp_N, ↓gwp_nil, ↓gwp_cons, ↓gwp_T, ↓wp_sNext, ↓wp_sRet, ↓wp_sRetN, ↓wp_sExpr, ↓wp_sIf, ↓wp_sAsg, ↓par2_ok, ↓wp_sPar, ↓wp_sFor, tyChk_str, Den.sl_tup, okL_ok, list_tup, max_ii, min_ii, abs_i, ne_ii, eq_ii, eq_ss, ↓wp_eCall, okC_ok, ↓wp_outD_app, ↓wp_outD_st, app_app, mul_ib, fdiv_ib, divmod_ib, pow_ib, ofO_some, ↓wp_ofO, ix_lstE, ix_roE, ix_tupE, atI_0, atI_1, atI_2, atI_3, atI_4, atI_map, tyChk_lst, lo_non, lo_bl, lo_int, lo_str, lo_lst, lo_tup, lo_ins, loS_nil, loS_cons, loF_nil, loF_cons, loC_lst, loC_ins, loS_app, insOf_ins, add_ll', add_tt', add_ss', mkL_ok', mkT_ok', mkC_ok', len_str', ne_ss, imul_ib, iadd_ii, ↓wp_sAug, isN_non, isN_int, isN_str, isN_tup, isN_lst, notN_non, notN_int, notN_str, notN_tup, notN_lst, isi_str_non, isi_str_bl, isi_str_int, isi_str_str, isi_str_lst, isi_str_tup, isi_str_dct, isi_int_non, isi_int_bl, isi_int_int, isi_int_str, isi_int_lst, isi_int_tup, isi_int_dct, isi_bool_non, isi_bool_bl, isi_bool_int, isi_bool_str, isi_bool_lst, isi_bool_tup, isi_bool_dct, isi_list_non, isi_list_bl, isi_list_int, isi_list_str, isi_list_lst, isi_list_tup, isi_list_dct, isi_tuple_non, isi_tuple_bl, isi_tuple_int, isi_tuple_str, isi_tuple_lst, isi_tuple_tup, isi_tuple_dct, isi_dict_non, isi_dict_bl, isi_dict_int, isi_dict_str, isi_dict_lst, isi_dict_tup, isi_dict_dct, ↓insK_some, ↓optK_some, ↓cinK_app, ↓wp_eFldK, ↓wp_eMethK, ↓wp_sFldK, look_eq, look_ne, look_nil, put_nil, put_eq, put_ne, ↓blK_ok, ↓intK_ok, ↓strK_ok, ↓lstK_lst, ↓lstK_ro, ↓tupK_ok, ↓sqK_lst, ↓sqK_ro, ↓sqK_tup, ↓oneK_ok, ↓twoK_ok, ↓rngK_ok, ↓andK_true, ↓wk_tOf, ↓wk_eAnd, ↓wk_eOr, ↓wk_eNot, ↓wk_eChain, ↓wk_eM, ↓wk_oSome, ↓wk_iL, ↓wk_iT, ↓wk_iS, ↓wk_iR1, ↓wk_iR2, ↓wk_iEA, ↓wk_gsub, ↓lcK_ok, ↓lfK_ok, ↓lfK_fz, ↓szK_ok, ↓wk_append, ↓wk_reverse, ↓wk_clear, ↓wk_ixc, ↓frK_ok, ↓frK_fz, ↓wk_frz, ↓wk_frzL, ↓wk_lenc, ↓wk_setc, ↓wk_tyc, get_at0, get_at1, get_at2, get_at3, set_at0, set_at1, set_at2, set_at3, ↓wp_itemF, filterMap_some', filterMap_if, ↓itK_none, ↓itK_some, ↓wp_compN, ↓wp_forN, ↓wp_forC, ev_1, ev_2, ev_3, ev_4, ev_6, ev_7, ev_8, ev_9, ev_10, ev_11, ev_12, ev_13, ev_14, ev_15, ev_16, ev_17, ev_18, ev_19, ev_20, ev_21, ev_22, ev_23, ev_24, ev_25, ev_26, ev_27, ev_28, ev_29, ev_30, ev_31, ev_32, ev_33, ev_34, ev_35, ev_37, ev_38, ev_39, ev_40, ev_41, ev_42, ev_43, ev_44, ev_45, ev_46, ev_47, ev_48, ev_49, ev_50, ev_51, ev_54, ev_55, ev_56, ev_57, ev_58, ev_envOf, ev_wipe0, ev_wipe1, ev_rep0, ev_rep1, pick_cons, pick_nil, ↓szS_ok, ↓wk_jsN, ↓wk_js, fmt_s, fmt_i, str_i, str_s, int1_i, int1_b, isi_own, ↓wk_iZ, ↓wk_iV, zip_map, rev_lst, ↓par3_ok, ↓wp_sPar3, ↓truK_t, ↓truK_f, ↓wp_eOrT, truD_non, truD_bl, truD_int, truD_tup, truD_lst, ↓wk_slc, beqI_f, beqI_t, isub_ii, ifdiv_ib, ↓gwp_star1, ↓gwp_star0, lo_jars, lo_strs, lo_jD, lo_own, lo_rowL, lo_sh, ↓lstK_rowL, ↓sqK_rowL, ↓tupK_own, len_rowL, len_own, ix_rowL, ix_own, sl_rowL, tup_rowL, list_rowL, list_own, at_rd, at_rw, ↓reduceIte, Nat.reduceAdd, Nat.reduceSub, Nat.reduceLeDiff, Nat.reduceEqDiff, Nat.reduceLT, Nat.reduceBEq, Int.reduceDiv, reduceCtorEq, $xs,*])
  | `(tactic| dsimp! only [$xs,*]) => `(tactic| simp (disch := first | assumption | exact id rfl | omega | (simp only [List.length_map, List.length_append, List.length_cons, List.length_nil, List.length_set, List.length_replicate, List.length_take, List.length_drop, List.length_reverse] <;> omega) | (simp only [if_true, if_false, eq_self, Nat.reduceEqDiff]; done) | (simp only [lo_non, lo_bl, lo_int, lo_str, lo_lst, lo_tup, lo_ins, loS_nil, loS_cons, loF_nil, loF_cons, loC_lst, loC_ins, loS_app, ev_1, ev_2, ev_3, ev_4, ev_6, ev_7, ev_8, ev_9, ev_10, ev_13, ev_14, ev_15, ev_16, ev_17, ev_18, ev_26, ev_27, ev_30, ev_31, ev_32, ev_33, ev_34, ev_35, ev_44, ev_45, ev_46, ev_47, ev_48, ev_49, ev_50, ev_51, ev_57, ev_58, lo_jars, lo_strs, lo_jD, lo_own, lo_rowL, lo_sh]; done) | exact fun _ => id rfl | fail) only [↓wp_ok, ↓wp_next, ↓wp_ret, ↓wp_sSeq, ↓wp_fnD, ↓outP_ret, ↓wp_outD_same, ↓wp_outD_keep, cmp_ii, neg_i, add_ii, sub_ii, mod_ii, len_lst, len_ro, len_tup, ↓wp_eK, ↓wp_eVar0, ↓wp_eVars, ↓wp_eBin, ↓wp_eUn, ↓wp_eArgs, ↓wp_aNil, ↓wp_aCons, ↓wp_tYes, ↓wp_tNot, ↓wp_tAnd, ↓wp_tOr, ↓wp_eIf, ↓wp_oNone, ↓wp_eSl, ↓wp_eFrz, ↓wp_eLc, ↓gwp_N, ↓gwp_nil, ↓gwp_cons, ↓gwp_T, ↓wp_sNext, ↓wp_sRet, ↓wp_sRetN, ↓wp_sExpr, ↓wp_sIf, ↓wp_sAsg, ↓par2_ok, ↓wp_sPar, ↓wp_sFor, tyChk_str, Den.sl_tup, okL_ok, list_tup, max_ii, min_ii, abs_i, ne_ii, eq_ii, eq_ss, ↓wp_eCall, okC_ok, ↓wp_outD_app, ↓wp_outD_st, app_app, mul_ib, fdiv_ib, divmod_ib, pow_ib, ofO_some, ↓wp_ofO, ix_lstE, ix_roE, ix_tupE, atI_0, atI_1, atI_2, atI_3, atI_4, atI_map, tyChk_lst, lo_non, lo_bl, lo_int, lo_str, lo_lst, lo_tup, lo_ins, loS_nil, loS_cons, loF_nil, loF_cons, loC_lst, loC_ins, loS_app, insOf_ins, add_ll', add_tt', add_ss', mkL_ok', mkT_ok', mkC_ok', len_str', ne_ss, imul_ib, iadd_ii, ↓wp_sAug, isN_non, isN_int, isN_str, isN_tup, isN_lst, notN_non, notN_int, notN_str, notN_tup, notN_lst, isi_str_non, isi_str_bl, isi_str_int, isi_str_str, isi_str_lst, isi_str_tup, isi_str_dct, isi_int_non, isi_int_bl, isi_int_int, isi_int_str, isi_int_lst, isi_int_tup, isi_int_dct, isi_bool_non, isi_bool_bl, isi_bool_int, isi_bool_str, isi_bool_lst, isi_bool_tup, isi_bool_dct, isi_list_non, isi_list_bl, isi_list_int, isi_list_str, isi_list_lst, isi_list_tup, isi_list_dct, isi_tuple_non, isi_tuple_bl, isi_tuple_int, isi_tuple_str, isi_tuple_lst, isi_tuple_tup, isi_tuple_dct, isi_dict_non, isi_dict_bl, isi_dict_int, isi_dict_str, isi_dict_lst, isi_dict_tup, isi_dict_dct, ↓insK_some, ↓optK_some, ↓cinK_app, ↓wp_eFldK, ↓wp_eMethK, ↓wp_sFldK, look_eq, look_ne, look_nil, put_nil, put_eq, put_ne, ↓blK_ok, ↓intK_ok, ↓strK_ok, ↓lstK_lst, ↓lstK_ro, ↓tupK_ok, ↓sqK_lst, ↓sqK_ro, ↓sqK_tup, ↓oneK_ok, ↓twoK_ok, ↓rngK_ok, ↓andK_true, ↓wk_tOf, ↓wk_eAnd, ↓wk_eOr, ↓wk_eNot, ↓wk_eChain, ↓wk_eM, ↓wk_oSome, ↓wk_iL, ↓wk_iT, ↓wk_iS, ↓wk_iR1, ↓wk_iR2, ↓wk_iEA, ↓wk_gsub, ↓lcK_ok, ↓lfK_ok, ↓lfK_fz, ↓szK_ok, ↓wk_append, ↓wk_reverse, ↓wk_clear, ↓wk_ixc, ↓frK_ok, ↓frK_fz, ↓wk_frz, ↓wk_frzL, ↓wk_lenc, ↓wk_setc, ↓wk_tyc, get_at0, get_at1, get_at2, get_at3, set_at0, set_at1, set_at2, set_at3, ↓wp_itemF, filterMap_some', filterMap_if, ↓itK_none, ↓itK_some, ↓wp_compN, ↓wp_forN, ↓wp_forC, ev_1, ev_2, ev_3, ev_4, ev_6, ev_7, ev_8, ev_9, ev_10, ev_11, ev_12, ev_13, ev_14, ev_15, ev_16, ev_17, ev_18, ev_19, ev_20, ev_21, ev_22, ev_23, ev_24, ev_25, ev_26, ev_27, ev_28, ev_29, ev_30, ev_31, ev_32, ev_33, ev_34, ev_35, ev_37, ev_38, ev_39, ev_40, ev_41, ev_42, ev_43, ev_44, ev_45, ev_46, ev_47, ev_48, ev_49, ev_50, ev_51, ev_54, ev_55, ev_56, ev_57, ev_58, ev_envOf, ev_wipe0, ev_wipe1, ev_rep0, ev_rep1, pick_cons, pick_nil, ↓szS_ok, ↓wk_jsN, ↓wk_js, fmt_s, fmt_i, str_i, str_s, int1_i, int1_b, isi_own, ↓wk_iZ, ↓wk_iV, zip_map, rev_lst, ↓par3_ok, ↓wp_sPar3, ↓truK_t, ↓truK_f, ↓wp_eOrT, truD_non, truD_bl, truD_int, truD_tup, truD_lst, ↓wk_slc, beqI_f, beqI_t, isub_ii, ifdiv_ib, ↓gwp_star1, ↓gwp_star0, lo_jars, lo_strs, lo_jD, lo_own, lo_rowL, lo_sh, ↓lstK_rowL, ↓sqK_rowL, ↓tupK_own, len_rowL, len_own, ix_rowL, ix_own, sl_rowL, tup_rowL, list_rowL, list_own, at_rd, at_rw, ↓reduceIte, Nat.reduceAdd, Nat.reduceSub, Nat.reduceLeDiff, Nat.reduceEqDiff, Nat.reduceLT, Nat.reduceBEq, Int.reduceDiv, reduceCtorEq, $xs,*])
  | `(tactic| simp_all! only [$xs,*]) => `(tactic| simp only [↓wp_ok, ↓wp_next, ↓wp_ret, ↓wp_sSeq, ↓wp_fnD, ↓outP_ret, ↓wp_outD_same, ↓wp_outD_keep, cmp_ii, neg_i, add_ii, sub_ii, mod_ii, len_lst, len_ro, len_tup, ↓wp_eK, ↓wp_eVar0, ↓wp_eVars, ↓wp_eBin, ↓wp_eUn, ↓wp_eArgs, ↓wp_aNil, ↓wp_aCons, ↓wp_tYes, ↓wp_tNot, ↓wp_tAnd, ↓wp_tOr, ↓wp_eIf, ↓wp_oNone, ↓wp_eSl, ↓wp_eFrz, ↓wp_eLc, ↓gwp_N, ↓gwp_nil, ↓gwp_cons, ↓gwp_T, ↓wp_sNext, ↓wp_sRet, ↓wp_sRetN, ↓wp_sExpr, ↓wp_sIf, ↓wp_sAsg, ↓par2_ok, ↓wp_sPar, ↓wp_sFor, tyChk_str, Den.sl_tup, okL_ok, list_tup, max_ii, min_ii, abs_i, ne_ii, eq_ii, eq_ss, ↓wp_eCall, okC_ok, ↓wp_outD_app, ↓wp_outD_st, app_app, mul_ib, fdiv_ib, divmod_ib, pow_ib, ofO_some, ↓wp_ofO, ix_lstE, ix_roE, ix_tupE, atI_0, atI_1, atI_2, atI_3, atI_4, atI_map, tyChk_lst, lo_non, lo_bl, lo_int, lo_str, lo_lst, lo_tup, lo_ins, loS_nil, loS_cons, loF_nil, loF_cons, loC_lst, loC_ins, loS_app, insOf_ins, add_ll', add_tt', add_ss', mkL_ok', mkT_ok', mkC_ok', len_str', ne_ss, imul_ib, iadd_ii, ↓wp_sAug, isN_non, isN_int, isN_str, isN_tup, isN_lst, notN_non, notN_int, notN_str, notN_tup, notN_lst, isi_str_non, isi_str_bl, isi_str_int, isi_str_str, isi_str_lst, isi_str_tup, isi_str_dct, isi_int_non, isi_int_bl, isi_int_int, isi_int_str, isi_int_lst, isi_int_tup, isi_int_dct, isi_bool_non, isi_bool_bl, isi_bool_int, isi_bool_str, isi_bool_lst, isi_bool_tup, isi_bool_dct, isi_list_non, isi_list_bl, isi_list_int, isi_list_str, isi_list_lst, isi_list_tup, isi_list_dct, isi_tuple_non, isi_tuple_bl, isi_tuple_int, isi_tuple_str, isi_tuple_lst, isi_tuple_tup, isi_tuple_dct, isi_dict_non, isi_dict_bl, isi_dict_int, isi_dict_str, isi_dict_lst, isi_dict_tup, isi_dict_dct, ↓insK_some, ↓optK_some, ↓cinK_app, ↓wp_eFldK, ↓wp_eMethK, ↓wp_sFldK, look_eq, look_ne, look_nil, put_nil, put_eq, put_ne, ↓blK_ok, ↓intK_ok, ↓strK_ok, ↓lstK_lst, ↓lstK_ro, ↓tupK_ok, ↓sqK_lst, ↓sqK_ro, ↓sqK_tup, ↓oneK_ok, ↓twoK_ok, ↓rngK_ok, ↓andK_true, ↓wk_tOf, ↓wk_eAnd, ↓wk_eOr, ↓wk_eNot, ↓wk_eChain, ↓wk_eM, ↓wk_oSome, ↓wk_iL, ↓wk_iT, ↓wk_iS, ↓wk_iR1, ↓wk_iR2, ↓wk_iEA, ↓wk_gsub, ↓lcK_ok, ↓lfK_ok, ↓lfK_fz, ↓szK_ok, ↓wk_append, ↓wk_reverse, ↓wk_clear, ↓wk_ixc, ↓frK_ok, ↓frK_fz, ↓wk_frz, ↓wk_frzL, ↓wk_lenc, ↓wk_setc, ↓wk_tyc, get_at0, get_at1, get_at2, get_at3, set_at0, set_at1, set_at2, set_at3, ↓wp_itemF, filterMap_some', filterMap_if, ↓itK_none, ↓itK_some, ↓wp_compN, ↓wp_forN, ↓wp_forC, ev_1, ev_2, ev_3, ev_4, ev_6, ev_7, ev_8, ev_9, ev_10, ev_11, ev_12, ev_13, ev_14, ev_15, ev_16, ev_17, ev_18, ev_19, ev_20, ev_21, ev_22, ev_23, ev_24, ev_25, ev_26, ev_27, ev_28, ev_29, ev_30, ev_31, ev_32, ev_33, ev_34, ev_35, ev_37, ev_38, ev_39, ev_40, ev_41, ev_42, ev_43, ev_44, ev_45, ev_46, ev_47, ev_48, ev_49, ev_50, ev_51, ev_54, ev_55, ev_56, ev_57, ev_58, ev_envOf, ev_wipe0, ev_wipe1, ev_rep0, ev_rep1, pick_cons, pick_nil, ↓szS_ok, ↓wk_jsN, ↓wk_js, fmt_s, fmt_i, str_i, str_s, int1_i, int1_b, isi_own, ↓wk_iZ, ↓wk_iV, zip_map, rev_lst, ↓par3_ok, ↓wp_sPar3, ↓truK_t, ↓truK_f, ↓wp_eOrT, truD_non, truD_bl, truD_int, truD_tup, truD_lst, ↓wk_slc, beqI_f, beqI_t, isub_ii, ifdiv_ib, ↓gwp_star1, ↓gwp_star0, lo_jars, lo_strs, lo_jD, lo_own, lo_rowL, lo_sh, ↓lstK_rowL, ↓sqK_rowL, ↓tupK_own, len_rowL, len_own, ix_rowL, ix_own, sl_rowL, tup_rowL, list_rowL, list_own, at_rd, at_rw, $xs,*])
theorem trayin_eq : dentray_in [shD s] st = .ok (plD s.tr) st := by
  refine Res.eq_of_wp ?_
  unfold dentray_in
  cases s with
  | rd ts =>
    have e : isi2 (isCl 23) (isaC [(22, false), (23, true)]) [shD (.rd ts), .cls 23] st = .ok (.bl false) st := isi_own rfl
    simp! only [e, plD, Shp.tr]
  | rw ts tr =>
    have e : isi2 (isCl 23) (isaC [(22, false), (23, true)]) [shD (.rw ts tr), .cls 23] st = .ok (.bl true) st := isi_own rfl
    simp! only [e, plD, Shp.tr, tray_eq hasRw rfl]
theorem made_eq (a : JArg st jd ts) (h : JsB B ts) (hB : B ≤ 10 ^ 150) (ht : TrOk o) : denshape_made [jd, plD o] st = .ok (shD (mkS ts o)) st := by
  refine Res.eq_of_wp ?_
  unfold denshape_made
  cases o with
  | none => simp! only [plD, mkRd h hB a, mkS]
  | some t => simp! only [plD, mkRw h hB ht.1 ht.2 a, mkS]
theorem lays_jars (h : JsB B ts) : PyData.canLayAll0 (pyDs (ts.map jD)) = true := by
  have : ∀ us : List J3, (∀ t ∈ us, Lb t.1) → PyData.canLayAll0 (pyDs (us.map jD)) = true := by
    intro us
    induction us with
    | nil => intro _; rfl
    | cons t us ih =>
      intro hu
      have h1 := (hu t (List.mem_cons_self ..)).lay
      simp only [List.map_cons, pyDs, PyData.canLayAll0, jD, pyD, PyData.canLay0, ih fun t ht => hu t (List.mem_cons_of_mem _ ht), Bool.and_true, Bool.true_and, Bool.and_self]
      simpa only [PyData.canLay0] using h1
  exact this ts h.lb
/-! ### two jars exchanged -/
def exch (i j : Nat) (ts : List J3) : List J3 :=
  match ts[i]?, ts[j]? with
  | some a, some b => (ts.set i (b.1, b.2.1, (a.2.2 * b.2.1 + b.2.2) / a.2.1)).set j (a.1, a.2.1, (a.2.2 * b.2.1 + b.2.2) % a.2.1)
  | _, _ => ts
theorem exch_eq {i j : Nat} {a b : J3} (ha : ts[i]? = some a) (hb : ts[j]? = some b) : exch i j ts = (ts.set i (b.1, b.2.1, (a.2.2 * b.2.1 + b.2.2) / a.2.1)).set j (a.1, a.2.1, (a.2.2 * b.2.1 + b.2.2) % a.2.1) := by
  simp only [exch, ha, hb]
end
end Q

namespace Q
open PySem PySem.Spec PyProof.Rows L2 Den
section
variable {C : Store} {p : Nat} {st st' : Store} {Q : D → Store → Prop} {E : Xc → Store → Prop}
end
section
variable {st : Store} {ts : List J3} {B : Int} {s : Shp} {x : Str} {d jd : D} {o : Option Int}
theorem row_cut {k : Nat} : (Den.cutD (ts.map jD) (some (k : Int)) none) ++ (Den.cutD (ts.map jD) none (some (k : Int))) = (rot k ts).map jD := by
  rw [cutD_from, cutD_to, map_rot]
end
end Q

namespace Q
open PySem PySem.Spec PyProof.Rows L2 Den
section
variable {st : Store} {ts : List J3} {B : Int} {s : Shp} {x : Str} {d jd : D} {o : Option Int}
theorem add_sb {a b : Str} (h : a.length + b.length ≤ 16000000) : addD (.str a) (.str b) st = .ok (.str (a ++ b)) st := add_ss (le_size' h)
theorem txt_str {els : List D → Store → Res D} {y : Str} {g g' : Fn} {c : Nat} {fs : List (Str × D)} (hi : insOf st d = some (c, fs)) (hc : c = 22 ∧ g [d] st = .ok (.str y) st ∨ c = 23 ∧ g' [d] st = .ok (.str y) st) : txtO (fun c => if c = 22 then some g else if c = 23 then some g' else none) els [d] st = .ok (.str y) st := by
  rcases hc with ⟨rfl, h⟩ | ⟨rfl, h⟩
  · exact txtO_ok hi rfl h
  · exact txtO_ok hi rfl h
theorem words_len (h : JsB B ts) (hB : B ≤ 10 ^ 150) : ((ts.map jw).map (·.length)).sum ≤ 12 * 320 := by
  have h1 := sum_le (l := (ts.map jw).map (·.length)) (m := 320) (fun x hx => by
    simp only [List.map_map, List.mem_map, Function.comp] at hx
    obtain ⟨t, ht, rfl⟩ := hx
    obtain ⟨a, b⟩ := jnat h hB t ht
    exact jw_len (h.lb t ht) a b)
  have h2 := h.le
  simp only [List.length_map] at h1
  exact Nat.le_trans h1 (Nat.mul_le_mul_right _ h2)
theorem str_assoc (a b c : Str) : (a ++ b) ++ c = a ++ (b ++ c) := by
  rw [← SX.S_tl a, ← SX.S_tl b, ← SX.S_tl c, SX.S_cat, SX.S_cat, SX.S_cat, SX.S_cat, List.append_assoc]
theorem join0_cons (a : Str) (ws : List Str) : Txt.join "" (a :: ws) = a ++ Txt.join "" ws := by
  have e1 : (a :: ws) = (a.cps.toList :: ws.map fun w => w.cps.toList).map SX.S := strs_S (a :: ws)
  have e2 : ws = (ws.map fun w => w.cps.toList).map SX.S := strs_S ws
  have j1 : Txt.join "" ((a.cps.toList :: ws.map fun w => w.cps.toList).map SX.S) = SX.S (TL.joinL [] (a.cps.toList :: ws.map fun w => w.cps.toList)) := SX.join_S [] _
  have j2 : Txt.join "" ((ws.map fun w => w.cps.toList).map SX.S) = SX.S (TL.joinL [] (ws.map fun w => w.cps.toList)) := SX.join_S [] _
  have : Txt.join "" ws = SX.S (TL.joinL [] (ws.map fun w => w.cps.toList)) := (congrArg (Txt.join "") e2).trans j2
  rw [this, e1, j1, joinL_nil, joinL_nil, List.flatten_cons]
  conv => rhs; rw [← SX.S_tl a]
  rw [SX.S_cat]
end
end Q

namespace Q
open PySem PySem.Spec PyProof.Rows L2 Den
section
variable {st : Store} {ts : List J3} {B : Int} {s : Shp} {x : Str} {d jd : D} {o : Option Int}
/-! ### exchanged, turned about -/
def sh (n k i : Nat) : Nat := if k ≤ i then i - k else n - k + i
theorem rot_get {k i : Nat} (hk : k ≤ ts.length) (hi : i < ts.length) : (rot k ts)[sh ts.length k i]? = ts[i]? := by
  unfold rot sh
  split
  · rename_i h
    rw [List.getElem?_append_left (by simp; omega), List.getElem?_drop, Nat.add_sub_cancel' h]
  · rename_i h
    rw [List.getElem?_append_right (by simp), List.getElem?_take_of_lt (by simp; omega)]
    congr 1; simp
theorem at1_rot {k : Nat} (h : JsB B ts) (hk : k ≤ ts.length) (hx : x ∈ nms ts) : at1 x (rot k ts) = sh ts.length k (at1 x ts) := by
  refine at1_of h.rot.nd ?_
  have hi := at1_lt hx
  have e := rot_get (k := k) hk hi
  have en := nms_at1 hx
  unfold nms at en ⊢
  rw [List.getElem?_map] at en ⊢
  rw [e]; exact en
def HasRo (ts : List J3) (o : Option Int) (i : Nat) : Prop := 2 ≤ ts.length ∧ (o = none ∨ i + 1 < ts.length)
theorem nms_turn : x ∈ nms (turn ts) ↔ x ∈ nms ts := by
  constructor
  · intro hx; obtain ⟨t, ht, rfl⟩ := mem_nms.mp hx; exact mem_nms.mpr ⟨t, mem_rot.mp ht, rfl⟩
  · intro hx; obtain ⟨t, ht, rfl⟩ := mem_nms.mp hx; exact mem_nms.mpr ⟨t, mem_rot.mpr ht, rfl⟩
end
end Q

namespace Q
open PySem PySem.Spec PyProof.Rows L2 Den
section
variable {st : Store} {ts us : List J3} {B : Int} {s : Shp} {x y : Str} {d jd : D} {o : Option Int} {a b : J3}
theorem frK_fzr {k k' : List D → Prop} : frK (some (.fz (rowL ts))) k k' = k' (ts.map jD) := id rfl
theorem lfK_fzr {k : List D → Prop} : lfK (some (.fz (rowL ts))) k = k (ts.map jD) := id rfl
/-! ### turned about -/
def Rt (a b : List J3) : Prop := ∃ A B, a = A ++ B ∧ b = B ++ A
theorem Rt.rot {k : Nat} : Rt ts (rot k ts) := ⟨ts.take k, ts.drop k, (List.take_append_drop ..).symm, rfl⟩
theorem Rt.symm (r : Rt ts us) : Rt us ts := by obtain ⟨A, B, rfl, rfl⟩ := r; exact ⟨B, A, rfl, rfl⟩
theorem Rt.map {f : J3 → J3} (r : Rt ts us) : Rt (ts.map f) (us.map f) := by obtain ⟨A, B, rfl, rfl⟩ := r; exact ⟨A.map f, B.map f, by simp, by simp⟩
theorem Rt.filter {f : J3 → Bool} (r : Rt ts us) : Rt (ts.filter f) (us.filter f) := by obtain ⟨A, B, rfl, rfl⟩ := r; exact ⟨A.filter f, B.filter f, by simp, by simp⟩
theorem Rt.as (r : Rt ts us) : ∃ k, k ≤ ts.length ∧ us = Q.rot k ts := by obtain ⟨A, B, rfl, rfl⟩ := r; exact ⟨A.length, by simp, by simp [Q.rot]⟩
theorem Rt.turn (h : JsB B ts) (r : Rt ts us) : turn us = turn ts := by obtain ⟨k, hk, rfl⟩ := r.as; exact turn_rot h hk
theorem Rt.ok (h : JsB B ts) (r : Rt ts us) : JsB B us := by obtain ⟨k, hk, rfl⟩ := r.as; exact h.rot
theorem Rt.mem (r : Rt ts us) {t : J3} : t ∈ us ↔ t ∈ ts := by obtain ⟨k, hk, rfl⟩ := r.as; exact mem_rot
theorem Rt.mkS (h : JsB B ts) (r : Rt ts us) : mkS us none = mkS ts none := by simp only [Q.mkS, r.turn h]
/-! ### places -/
theorem nm_at {i : Nat} (ha : ts[i]? = some a) : (nms ts)[i]? = some a.1 := by simp [nms, ha]
theorem at1_at {i : Nat} (h : JsB B ts) (ha : ts[i]? = some a) : at1 a.1 ts = i := at1_of h.nd (nm_at ha)
theorem nm_mem (ha : a ∈ ts) : a.1 ∈ nms ts := mem_nms.mpr ⟨a, ha, rfl⟩
/-! ### jars divided -/
/-! ### jars joined -/
theorem nms_set {i : Nat} {n : J3} (ha : ts[i]? = some a) (e : n.1 = a.1) : nms (ts.set i n) = nms ts := by
  simp only [nms, List.map_set]
  have := nm_at ha
  rw [e]
  obtain ⟨h1, h2⟩ := List.getElem?_eq_some_iff.mp this
  have e3 := List.set_getElem_self h1
  rw [h2] at e3
  exact e3
theorem set_ok {k : Nat} {n : J3} (h : JsB B ts) (ha : ts[k]? = some a) (e : n.1 = a.1) (h2 : 2 ≤ n.2.1) (h6 : n.2.1 ≤ 1000000) (g0 : 0 ≤ n.2.2) (gB : n.2.2 < B) : JsB B (ts.set k n) := by
  have ma := List.mem_of_getElem? ha
  have mem : ∀ t ∈ ts.set k n, t ∈ ts ∨ t = n := fun t ht => List.mem_or_eq_of_mem_set ht
  refine ⟨fun t ht => ?_, fun t ht => ?_, fun t ht => ?_, fun t ht => ?_, fun t ht => ?_, ?_, by simpa using h.pos, by simpa using h.le⟩
  · rcases mem t ht with q | rfl
    · exact h.lb t q
    · rw [e]; exact h.lb a ma
  · rcases mem t ht with q | rfl
    · exact h.b2 t q
    · exact h2
  · rcases mem t ht with q | rfl
    · exact h.b6 t q
    · exact h6
  · rcases mem t ht with q | rfl
    · exact h.g0 t q
    · exact g0
  · rcases mem t ht with q | rfl
    · exact h.gB t q
    · exact gB
  · rw [nms_set ha e]; exact h.nd
end
end Q

namespace Q
open PySem PySem.Spec PyProof.Rows L2 Den
/-! ### numbers of jars -/
def wor (ts : List J3) : Int := ts.foldl (fun a t => a * t.2.1 + t.2.2) 0
/-- names and bases -/
def nb (ts : List J3) : List (Str × Int) := ts.map fun t => (t.1, t.2.1)
/-- each below its base -/
def Calm (ts : List J3) : Prop := ∀ t ∈ ts, 0 ≤ t.2.2 ∧ t.2.2 < t.2.1
section
variable {ts us : List J3} {t : J3} {n m B : Int}
theorem prod_fold : ∀ (ts : List J3) (a : Int), ts.foldl (fun a t => a * t.2.1) a = a * prodB ts
  | [], a => by simp [prodB]
  | t :: ts, a => by
    have h1 := prod_fold ts (a * t.2.1)
    have h2 := prod_fold ts (1 * t.2.1)
    simp only [prodB, List.foldl_cons] at *
    rw [h1, h2, Int.one_mul, Int.mul_assoc]
theorem prodB_cons : prodB (t :: ts) = t.2.1 * prodB ts := by
  have := prod_fold ts (1 * t.2.1)
  rw [Int.one_mul] at this
  simpa [prodB] using this
theorem prodB_append : prodB (ts ++ us) = prodB ts * prodB us := by
  have := prod_fold us (prodB ts)
  rw [← this]; simp [prodB, List.foldl_append]
theorem wor_fold : ∀ (ts : List J3) (a : Int), ts.foldl (fun a t => a * t.2.1 + t.2.2) a = a * prodB ts + wor ts
  | [], a => by simp [prodB, wor]
  | t :: ts, a => by
    have h1 := wor_fold ts (a * t.2.1 + t.2.2)
    have h2 := wor_fold ts (0 * t.2.1 + t.2.2)
    simp only [wor, List.foldl_cons] at *
    rw [h1, h2, prodB_cons, Int.zero_mul, Int.zero_add, Int.add_mul, Int.mul_assoc, Int.add_assoc]
theorem wor_app : wor (ts ++ us) = wor ts * prodB us + wor us := by
  have := wor_fold us (wor ts)
  rw [← this]; simp [wor, List.foldl_append]
theorem wor_cons : wor (t :: ts) = t.2.2 * prodB ts + wor ts := by
  have := wor_app (ts := [t]) (us := ts)
  simpa [wor] using this
theorem prod_nb (e : nb ts = nb us) : prodB ts = prodB us := by
  induction ts generalizing us with
  | nil => cases us with
    | nil => rfl
    | cons u us => simp [nb] at e
  | cons t ts ih => cases us with
    | nil => simp [nb] at e
    | cons u us =>
      simp only [nb, List.map_cons, List.cons.injEq, Prod.mk.injEq] at e
      rw [prodB_cons, prodB_cons, e.1.2, ih e.2]
theorem prod_pos (h : ∀ t ∈ ts, 2 ≤ t.2.1) : 1 ≤ prodB ts := by
  induction ts with
  | nil => decide
  | cons t ts ih =>
    have h1 := h t (List.mem_cons_self ..)
    have h2 := ih fun u hu => h u (List.mem_cons_of_mem _ hu)
    rw [prodB_cons]
    have := Int.mul_le_mul h1 h2 (by omega) (by omega)
    omega
theorem wor_0 (h : ∀ t ∈ ts, 2 ≤ t.2.1) (g : ∀ t ∈ ts, 0 ≤ t.2.2) : 0 ≤ wor ts := by
  induction ts with
  | nil => decide
  | cons t ts ih =>
    have h1 := g t (List.mem_cons_self ..)
    have h2 := ih (fun u hu => h u (List.mem_cons_of_mem _ hu)) (fun u hu => g u (List.mem_cons_of_mem _ hu))
    have h3 := prod_pos (ts := ts) fun u hu => h u (List.mem_cons_of_mem _ hu)
    rw [wor_cons]
    have := Int.mul_nonneg h1 (show 0 ≤ prodB ts by omega)
    omega
/-! ### figures -/
theorem nb_nms (e : nb ts = nb us) : nms ts = nms us := by
  have := congrArg (List.map (·.1)) e
  simpa [nb, nms, List.map_map, Function.comp_def] using this
theorem nb_mem (e : nb ts = nb us) (hm : t ∈ ts) : ∃ u ∈ us, u.1 = t.1 ∧ u.2.1 = t.2.1 := by
  have : (t.1, t.2.1) ∈ nb us := by rw [← e]; exact List.mem_map.mpr ⟨t, hm, rfl⟩
  obtain ⟨u, hu, q⟩ := List.mem_map.mp this
  simp only [Prod.mk.injEq] at q
  exact ⟨u, hu, q⟩
/-! ### at rest, round about -/
end
end Q

namespace Q
open PySem PySem.Spec PyProof.Rows L2 Den
/-! ### settled, by the program -/
section
variable {st : Store} {ts us : List J3} {B : Int} {s : Shp} {x y : Str} {d jd : D} {o : Option Int} {a b : J3} {n m : Int}
end
end Q

namespace Q
open PySem PySem.Spec PyProof.Rows L2 Den
/-! ### how often each jar spills -/
def prD (p : Str × Int) : D := .tup [.str p.1, .int p.2]
def spD (l : List (Str × Int)) : D := .lst (l.map prD)
def sumG (ts : List J3) : Int := (ts.map fun t => t.2.2).sum
section
variable {st : Store} {ts us : List J3} {B : Int} {s : Shp} {x y : Str} {d jd : D} {o : Option Int} {a b : J3} {n m : Int}
theorem lo_prs (n : Nat) : ∀ l : List (Str × Int), loS n (l.map prD) = true
  | [] => rfl
  | t :: ts => by simp only [List.map_cons, loS, prD, D.lo, lo_prs n ts, Bool.and_self]
theorem lo_spD (n : Nat) (l : List (Str × Int)) : D.lo n (spD l) = true := by unfold spD; rw [lo_lst, lo_prs]
theorem lo_prD (n : Nat) (p : Str × Int) : D.lo n (prD p) = true := id rfl
theorem lstK_spD {l : List (Str × Int)} {k : List D → Prop} : lstK (spD l) k = k (l.map prD) := id rfl
theorem sqK_spD {l : List (Str × Int)} {k : List D → Prop} : sqK (spD l) k = k (l.map prD) := id rfl
theorem len_spD {l : List (Str × Int)} : lenD [spD l] st = .ok (.int l.length) st := by unfold spD; rw [len_lst, List.length_map]
theorem ix_spD {l : List (Str × Int)} {i : Int} : ixD (spD l) (.int i) st = ofO ((L2.atI l i).map prD) st := by unfold spD; rw [ix_lstE, atI_map]
/-! round about -/
/-! ### by the program -/
def allG (s : Shp) : Int := sumG s.js + s.tr.getD 0
/-! ### told from the least name on -/
def Hd : Shp → Prop
  | .rd ts => at1 (minStr (nms ts)) ts = 0
  | .rw _ _ => True
theorem hd_turn (h : JsB B ts) : at1 (minStr (nms (turn ts))) (turn ts) = 0 := by
  have hk : at1 (minStr (nms ts)) ts ≤ ts.length := Nat.le_of_lt (at1_lt (minStr_mem (nms_ne h)))
  have hm : minStr (nms (turn ts)) = minStr (nms ts) := minStr_eq (fun x => nms_turn) (nms_ne h.turn) (nms_ne h)
  have e : at1 (minStr (nms ts)) (turn ts) = sh ts.length (at1 (minStr (nms ts)) ts) (at1 (minStr (nms ts)) ts) := at1_rot h hk (minStr_mem (nms_ne h))
  rw [hm, e]; simp [sh]
theorem hd_id (h : at1 (minStr (nms ts)) ts = 0) : turn ts = ts := by unfold turn; rw [h]; simp [rot]
theorem hd_nms (e : nms us = nms ts) (h : at1 (minStr (nms ts)) ts = 0) : at1 (minStr (nms us)) us = 0 := by
  unfold at1 at *; rw [e]; exact h
theorem Hd.mkS (h : JsB B ts) : Hd (mkS ts o) := by
  cases o with
  | none => exact hd_turn h
  | some t => trivial
theorem sumG_0 (g : ∀ t ∈ ts, 0 ≤ t.2.2) : 0 ≤ sumG ts ∧ (sumG ts = 0 ↔ ∀ t ∈ ts, t.2.2 = 0) := by
  induction ts with
  | nil => simp [sumG]
  | cons t ts ih =>
    obtain ⟨i0, i1⟩ := ih fun u hu => g u (List.mem_cons_of_mem _ hu)
    have t0 := g t (List.mem_cons_self ..)
    have e : sumG (t :: ts) = t.2.2 + sumG ts := by simp [sumG]
    rw [e]
    refine ⟨by omega, ?_⟩
    constructor
    · intro q u hu
      rcases List.mem_cons.mp hu with rfl | hu
      · omega
      · exact i1.mp (by omega) u hu
    · intro q
      have := q t (List.mem_cons_self ..)
      have := i1.mpr fun u hu => q u (List.mem_cons_of_mem _ hu)
      omega
end
end Q

namespace Q
open PySem PySem.Spec PyProof.Rows L2 Den
/-! ### grains more in a jar -/
def addJ (i : Nat) (m : Int) (ts : List J3) : List J3 := match ts[i]? with
  | some a => ts.set i (a.1, a.2.1, a.2.2 + m)
  | none => ts
def Shp.add (i : Nat) (m : Int) : Shp → Shp
  | .rd ts => .rd (addJ i m ts)
  | .rw ts t => .rw (addJ i m ts) t
def Shp.addL (i : Nat) (m : Int) : Shp → Shp
  | .rd ts => .rd (addJ ((i + (ts.length - 1)) % ts.length) m ts)
  | .rw ts t => if i = 0 then .rw ts (t + m) else .rw (addJ (i - 1) m ts) t
def mst (s : Shp) (a : J3) : Int := if a.2.1 ≤ a.2.2 ∧ (decide (s.js.length = 1) && s.tr.isNone) = true then (a.2.2 - 1) / (a.2.1 - 1) else a.2.2 / a.2.1
section
variable {st : Store} {ts us : List J3} {B : Int} {s s' : Shp} {x y : Str} {d jd : D} {o : Option Int} {a b : J3} {n m : Int} {i k : Nat}
theorem addJ_at (ha : ts[i]? = some a) : addJ i m ts = ts.set i (a.1, a.2.1, a.2.2 + m) := by simp only [addJ, ha]
theorem addJ_nb : nb (addJ i m ts) = nb ts := by
  unfold addJ
  split
  · rename_i a ha
    simp only [nb, List.map_set]
    obtain ⟨hi, e⟩ := List.getElem?_eq_some_iff.mp ha
    have := List.set_getElem_self (as := ts.map fun t => (t.1, t.2.1)) (i := i) (by simpa using hi)
    simp only [List.getElem_map, e] at this
    exact this
  · rfl
theorem addJ_len : (addJ i m ts).length = ts.length := by
  have := congrArg List.length (addJ_nb (i := i) (m := m) (ts := ts))
  simpa [nb] using this
theorem addJ_get (ha : ts[i]? = some a) : (addJ i m ts)[k]? = if k = i then some (a.1, a.2.1, a.2.2 + m) else ts[k]? := by
  rw [addJ_at ha]
  have hi := (List.getElem?_eq_some_iff.mp ha).1
  by_cases e : k = i
  · subst e; rw [List.getElem?_set_self hi, if_pos rfl]
  · rw [List.getElem?_set_ne (Ne.symm e), if_neg e]
theorem addJ_ok (h : JsB B ts) (ha : ts[i]? = some a) (g0 : 0 ≤ a.2.2 + m) (gB : a.2.2 + m < B) : JsB B (addJ i m ts) := by
  rw [addJ_at ha]
  have ma := List.mem_of_getElem? ha
  exact set_ok h ha rfl (h.b2 a ma) (h.b6 a ma) g0 gB
theorem wor_set {n : J3} (ha : ts[i]? = some a) (e : n.2.1 = a.2.1) : wor (ts.set i n) = wor ts + (n.2.2 - a.2.2) * prodB (ts.drop (i + 1)) := by
  obtain ⟨hi, ea⟩ := List.getElem?_eq_some_iff.mp ha
  have es : ts = ts.take i ++ a :: ts.drop (i + 1) := by rw [← ea, List.getElem_cons_drop, List.take_append_drop]
  have e2 : ts.set i n = ts.take i ++ n :: ts.drop (i + 1) := by
    rw [List.set_eq_take_append_cons_drop, if_pos hi]
  rw [e2]
  conv => rhs; lhs; rw [es]
  rw [wor_app, wor_app, wor_cons, wor_cons, prodB_cons, prodB_cons, e, Int.sub_mul]
  omega
theorem wor_add (ha : ts[i]? = some a) : wor (addJ i m ts) = wor ts + m * prodB (ts.drop (i + 1)) := by
  rw [addJ_at ha, wor_set (n := (a.1, a.2.1, a.2.2 + m)) ha rfl]
  show wor ts + (a.2.2 + m - a.2.2) * _ = _
  rw [show a.2.2 + m - a.2.2 = m by omega]
theorem add_js : (s.add i m).js = addJ i m s.js := by cases s <;> rfl
theorem add_tr : (s.add i m).tr = s.tr := by cases s <;> rfl
theorem Hd.of_nb (hd : Hd s) (e : nb s'.js = nb s.js) (k : s'.tr.isNone = s.tr.isNone) : Hd s' := by
  cases s with
  | rd ts => cases s' with
    | rd us => exact hd_nms (nb_nms e) hd
    | rw us t => trivial
  | rw ts t => cases s' with
    | rd us => simp [Shp.tr] at k
    | rw us t => trivial
theorem mkS_of (hd : Hd s) : mkS s.js s.tr = s := by
  cases s with
  | rd ts => simp only [Shp.js, Shp.tr, mkS]; rw [hd_id hd]
  | rw ts t => rfl
/-- the program's -/
local macro_rules
  | `(tactic| simp! only [$xs,*]) => `(tactic| simp (disch := first | assumption | exact id rfl | omega | (simp only [List.length_map, List.length_append, List.length_cons, List.length_nil, List.length_set, List.length_replicate, List.length_take, List.length_drop, List.length_reverse] <;> omega) | (simp only [if_true, if_false, eq_self, Nat.reduceEqDiff]; done) | (simp only [lo_non, lo_bl, lo_int, lo_str, lo_lst, lo_tup, lo_ins, loS_nil, loS_cons, loF_nil, loF_cons, loC_lst, loC_ins, loS_app, ev_1, ev_2, ev_3, ev_4, ev_6, ev_7, ev_8, ev_9, ev_10, ev_13, ev_14, ev_15, ev_16, ev_17, ev_18, ev_26, ev_27, ev_30, ev_31, ev_32, ev_33, ev_34, ev_35, ev_44, ev_45, ev_46, ev_47, ev_48, ev_49, ev_50, ev_51, ev_57, ev_58, lo_jars, lo_strs, lo_jD, lo_own, lo_rowL, lo_sh, lo_prs, lo_spD, lo_prD]; done) | fail) only [↓wp_ok, ↓wp_next, ↓wp_ret, ↓wp_sSeq, ↓wp_fnD, ↓outP_ret, ↓wp_outD_same, ↓wp_outD_keep, cmp_ii, neg_i, add_ii, sub_ii, mod_ii, len_lst, len_ro, len_tup, ↓wp_eK, ↓wp_eVar0, ↓wp_eVars, ↓wp_eBin, ↓wp_eUn, ↓wp_eArgs, ↓wp_aNil, ↓wp_aCons, ↓wp_tYes, ↓wp_tNot, ↓wp_tAnd, ↓wp_tOr, ↓wp_eIf, ↓wp_oNone, ↓wp_eSl, ↓wp_eFrz, ↓wp_eLc, ↓gwp_N, ↓gwp_nil, ↓gwp_cons, ↓gwp_T, ↓wp_sNext, ↓wp_sRet, ↓wp_sRetN, ↓wp_sExpr, ↓wp_sIf, ↓wp_sAsg, ↓par2_ok, ↓wp_sPar, ↓wp_sFor, tyChk_str, Den.sl_tup, okL_ok, list_tup, max_ii, min_ii, abs_i, ne_ii, eq_ii, eq_ss, ↓wp_eCall, okC_ok, ↓wp_outD_app, ↓wp_outD_st, app_app, mul_ib, fdiv_ib, divmod_ib, pow_ib, ofO_some, ↓wp_ofO, ix_lstE, ix_roE, ix_tupE, atI_0, atI_1, atI_2, atI_3, atI_4, atI_map, tyChk_lst, lo_non, lo_bl, lo_int, lo_str, lo_lst, lo_tup, lo_ins, loS_nil, loS_cons, loF_nil, loF_cons, loC_lst, loC_ins, loS_app, insOf_ins, add_ll', add_tt', add_ss', mkL_ok', mkT_ok', mkC_ok', len_str', ne_ss, imul_ib, iadd_ii, ↓wp_sAug, isN_non, isN_int, isN_str, isN_tup, isN_lst, notN_non, notN_int, notN_str, notN_tup, notN_lst, isi_str_non, isi_str_bl, isi_str_int, isi_str_str, isi_str_lst, isi_str_tup, isi_str_dct, isi_int_non, isi_int_bl, isi_int_int, isi_int_str, isi_int_lst, isi_int_tup, isi_int_dct, isi_bool_non, isi_bool_bl, isi_bool_int, isi_bool_str, isi_bool_lst, isi_bool_tup, isi_bool_dct, isi_list_non, isi_list_bl, isi_list_int, isi_list_str, isi_list_lst, isi_list_tup, isi_list_dct, isi_tuple_non, isi_tuple_bl, isi_tuple_int, isi_tuple_str, isi_tuple_lst, isi_tuple_tup, isi_tuple_dct, isi_dict_non, isi_dict_bl, isi_dict_int, isi_dict_str, isi_dict_lst, isi_dict_tup, isi_dict_dct, ↓insK_some, ↓optK_some, ↓cinK_app, ↓wp_eFldK, ↓wp_eMethK, ↓wp_sFldK, look_eq, look_ne, look_nil, put_nil, put_eq, put_ne, ↓blK_ok, ↓intK_ok, ↓strK_ok, ↓lstK_lst, ↓lstK_ro, ↓tupK_ok, ↓sqK_lst, ↓sqK_ro, ↓sqK_tup, ↓oneK_ok, ↓twoK_ok, ↓rngK_ok, ↓andK_true, ↓wk_tOf, ↓wk_eAnd, ↓wk_eOr, ↓wk_eNot, ↓wk_eChain, ↓wk_eM, ↓wk_oSome, ↓wk_iL, ↓wk_iT, ↓wk_iS, ↓wk_iR1, ↓wk_iR2, ↓wk_iEA, ↓wk_gsub, ↓lcK_ok, ↓lfK_ok, ↓lfK_fz, ↓szK_ok, ↓wk_append, ↓wk_reverse, ↓wk_clear, ↓wk_ixc, ↓frK_ok, ↓frK_fz, ↓wk_frz, ↓wk_frzL, ↓wk_lenc, ↓wk_setc, ↓wk_tyc, get_at0, get_at1, get_at2, get_at3, set_at0, set_at1, set_at2, set_at3, ↓wp_itemF, filterMap_some', filterMap_if, ↓itK_none, ↓itK_some, ↓wp_compN, ↓wp_forN, ↓wp_forC, ev_1, ev_2, ev_3, ev_4, ev_6, ev_7, ev_8, ev_9, ev_10, ev_11, ev_12, ev_13, ev_14, ev_15, ev_16, ev_17, ev_18, ev_19, ev_20, ev_21, ev_22, ev_23, ev_24, ev_25, ev_26, ev_27, ev_28, ev_29, ev_30, ev_31, ev_32, ev_33, ev_34, ev_35, ev_37, ev_38, ev_39, ev_40, ev_41, ev_42, ev_43, ev_44, ev_45, ev_46, ev_47, ev_48, ev_49, ev_50, ev_51, ev_54, ev_55, ev_56, ev_57, ev_58, ev_envOf, ev_wipe0, ev_wipe1, ev_rep0, ev_rep1, pick_cons, pick_nil, ↓szS_ok, ↓wk_jsN, ↓wk_js, fmt_s, fmt_i, str_i, str_s, int1_i, int1_b, isi_own, ↓wk_iZ, ↓wk_iV, zip_map, rev_lst, ↓par3_ok, ↓wp_sPar3, ↓truK_t, ↓truK_f, ↓wp_eOrT, truD_non, truD_bl, truD_int, truD_tup, truD_lst, ↓wk_slc, beqI_f, beqI_t, isub_ii, ifdiv_ib, ↓gwp_star1, ↓gwp_star0, lo_jars, lo_strs, lo_jD, lo_own, lo_rowL, lo_sh, ↓lstK_rowL, ↓sqK_rowL, ↓tupK_own, len_rowL, len_own, ix_rowL, ix_own, sl_rowL, tup_rowL, list_rowL, list_own, at_rd, at_rw, ↓frK_fzr, ↓lfK_fzr, lo_prs, lo_spD, lo_prD, ↓lstK_spD, ↓sqK_spD, len_spD, ix_spD, ↓reduceIte, Nat.reduceAdd, Nat.reduceSub, Nat.reduceLeDiff, Nat.reduceEqDiff, Nat.reduceLT, Nat.reduceBEq, Int.reduceDiv, reduceCtorEq, $xs,*])
  | `(tactic| dsimp! only [$xs,*]) => `(tactic| simp (disch := first | assumption | exact id rfl | omega | (simp only [List.length_map, List.length_append, List.length_cons, List.length_nil, List.length_set, List.length_replicate, List.length_take, List.length_drop, List.length_reverse] <;> omega) | (simp only [if_true, if_false, eq_self, Nat.reduceEqDiff]; done) | (simp only [lo_non, lo_bl, lo_int, lo_str, lo_lst, lo_tup, lo_ins, loS_nil, loS_cons, loF_nil, loF_cons, loC_lst, loC_ins, loS_app, ev_1, ev_2, ev_3, ev_4, ev_6, ev_7, ev_8, ev_9, ev_10, ev_13, ev_14, ev_15, ev_16, ev_17, ev_18, ev_26, ev_27, ev_30, ev_31, ev_32, ev_33, ev_34, ev_35, ev_44, ev_45, ev_46, ev_47, ev_48, ev_49, ev_50, ev_51, ev_57, ev_58, lo_jars, lo_strs, lo_jD, lo_own, lo_rowL, lo_sh, lo_prs, lo_spD, lo_prD]; done) | exact fun _ => id rfl | fail) only [↓wp_ok, ↓wp_next, ↓wp_ret, ↓wp_sSeq, ↓wp_fnD, ↓outP_ret, ↓wp_outD_same, ↓wp_outD_keep, cmp_ii, neg_i, add_ii, sub_ii, mod_ii, len_lst, len_ro, len_tup, ↓wp_eK, ↓wp_eVar0, ↓wp_eVars, ↓wp_eBin, ↓wp_eUn, ↓wp_eArgs, ↓wp_aNil, ↓wp_aCons, ↓wp_tYes, ↓wp_tNot, ↓wp_tAnd, ↓wp_tOr, ↓wp_eIf, ↓wp_oNone, ↓wp_eSl, ↓wp_eFrz, ↓wp_eLc, ↓gwp_N, ↓gwp_nil, ↓gwp_cons, ↓gwp_T, ↓wp_sNext, ↓wp_sRet, ↓wp_sRetN, ↓wp_sExpr, ↓wp_sIf, ↓wp_sAsg, ↓par2_ok, ↓wp_sPar, ↓wp_sFor, tyChk_str, Den.sl_tup, okL_ok, list_tup, max_ii, min_ii, abs_i, ne_ii, eq_ii, eq_ss, ↓wp_eCall, okC_ok, ↓wp_outD_app, ↓wp_outD_st, app_app, mul_ib, fdiv_ib, divmod_ib, pow_ib, ofO_some, ↓wp_ofO, ix_lstE, ix_roE, ix_tupE, atI_0, atI_1, atI_2, atI_3, atI_4, atI_map, tyChk_lst, lo_non, lo_bl, lo_int, lo_str, lo_lst, lo_tup, lo_ins, loS_nil, loS_cons, loF_nil, loF_cons, loC_lst, loC_ins, loS_app, insOf_ins, add_ll', add_tt', add_ss', mkL_ok', mkT_ok', mkC_ok', len_str', ne_ss, imul_ib, iadd_ii, ↓wp_sAug, isN_non, isN_int, isN_str, isN_tup, isN_lst, notN_non, notN_int, notN_str, notN_tup, notN_lst, isi_str_non, isi_str_bl, isi_str_int, isi_str_str, isi_str_lst, isi_str_tup, isi_str_dct, isi_int_non, isi_int_bl, isi_int_int, isi_int_str, isi_int_lst, isi_int_tup, isi_int_dct, isi_bool_non, isi_bool_bl, isi_bool_int, isi_bool_str, isi_bool_lst, isi_bool_tup, isi_bool_dct, isi_list_non, isi_list_bl, isi_list_int, isi_list_str, isi_list_lst, isi_list_tup, isi_list_dct, isi_tuple_non, isi_tuple_bl, isi_tuple_int, isi_tuple_str, isi_tuple_lst, isi_tuple_tup, isi_tuple_dct, isi_dict_non, isi_dict_bl, isi_dict_int, isi_dict_str, isi_dict_lst, isi_dict_tup, isi_dict_dct, ↓insK_some, ↓optK_some, ↓cinK_app, ↓wp_eFldK, ↓wp_eMethK, ↓wp_sFldK, look_eq, look_ne, look_nil, put_nil, put_eq, put_ne, ↓blK_ok, ↓intK_ok, ↓strK_ok, ↓lstK_lst, ↓lstK_ro, ↓tupK_ok, ↓sqK_lst, ↓sqK_ro, ↓sqK_tup, ↓oneK_ok, ↓twoK_ok, ↓rngK_ok, ↓andK_true, ↓wk_tOf, ↓wk_eAnd, ↓wk_eOr, ↓wk_eNot, ↓wk_eChain, ↓wk_eM, ↓wk_oSome, ↓wk_iL, ↓wk_iT, ↓wk_iS, ↓wk_iR1, ↓wk_iR2, ↓wk_iEA, ↓wk_gsub, ↓lcK_ok, ↓lfK_ok, ↓lfK_fz, ↓szK_ok, ↓wk_append, ↓wk_reverse, ↓wk_clear, ↓wk_ixc, ↓frK_ok, ↓frK_fz, ↓wk_frz, ↓wk_frzL, ↓wk_lenc, ↓wk_setc, ↓wk_tyc, get_at0, get_at1, get_at2, get_at3, set_at0, set_at1, set_at2, set_at3, ↓wp_itemF, filterMap_some', filterMap_if, ↓itK_none, ↓itK_some, ↓wp_compN, ↓wp_forN, ↓wp_forC, ev_1, ev_2, ev_3, ev_4, ev_6, ev_7, ev_8, ev_9, ev_10, ev_11, ev_12, ev_13, ev_14, ev_15, ev_16, ev_17, ev_18, ev_19, ev_20, ev_21, ev_22, ev_23, ev_24, ev_25, ev_26, ev_27, ev_28, ev_29, ev_30, ev_31, ev_32, ev_33, ev_34, ev_35, ev_37, ev_38, ev_39, ev_40, ev_41, ev_42, ev_43, ev_44, ev_45, ev_46, ev_47, ev_48, ev_49, ev_50, ev_51, ev_54, ev_55, ev_56, ev_57, ev_58, ev_envOf, ev_wipe0, ev_wipe1, ev_rep0, ev_rep1, pick_cons, pick_nil, ↓szS_ok, ↓wk_jsN, ↓wk_js, fmt_s, fmt_i, str_i, str_s, int1_i, int1_b, isi_own, ↓wk_iZ, ↓wk_iV, zip_map, rev_lst, ↓par3_ok, ↓wp_sPar3, ↓truK_t, ↓truK_f, ↓wp_eOrT, truD_non, truD_bl, truD_int, truD_tup, truD_lst, ↓wk_slc, beqI_f, beqI_t, isub_ii, ifdiv_ib, ↓gwp_star1, ↓gwp_star0, lo_jars, lo_strs, lo_jD, lo_own, lo_rowL, lo_sh, ↓lstK_rowL, ↓sqK_rowL, ↓tupK_own, len_rowL, len_own, ix_rowL, ix_own, sl_rowL, tup_rowL, list_rowL, list_own, at_rd, at_rw, ↓frK_fzr, ↓lfK_fzr, lo_prs, lo_spD, lo_prD, ↓lstK_spD, ↓sqK_spD, len_spD, ix_spD, ↓reduceIte, Nat.reduceAdd, Nat.reduceSub, Nat.reduceLeDiff, Nat.reduceEqDiff, Nat.reduceLT, Nat.reduceBEq, Int.reduceDiv, reduceCtorEq, $xs,*])
  | `(tactic| simp_all! only [$xs,*]) => `(tactic| simp only [↓wp_ok, ↓wp_next, ↓wp_ret, ↓wp_sSeq, ↓wp_fnD, ↓outP_ret, ↓wp_outD_same, ↓wp_outD_keep, cmp_ii, neg_i, add_ii, sub_ii, mod_ii, len_lst, len_ro, len_tup, ↓wp_eK, ↓wp_eVar0, ↓wp_eVars, ↓wp_eBin, ↓wp_eUn, ↓wp_eArgs, ↓wp_aNil, ↓wp_aCons, ↓wp_tYes, ↓wp_tNot, ↓wp_tAnd, ↓wp_tOr, ↓wp_eIf, ↓wp_oNone, ↓wp_eSl, ↓wp_eFrz, ↓wp_eLc, ↓gwp_N, ↓gwp_nil, ↓gwp_cons, ↓gwp_T, ↓wp_sNext, ↓wp_sRet, ↓wp_sRetN, ↓wp_sExpr, ↓wp_sIf, ↓wp_sAsg, ↓par2_ok, ↓wp_sPar, ↓wp_sFor, tyChk_str, Den.sl_tup, okL_ok, list_tup, max_ii, min_ii, abs_i, ne_ii, eq_ii, eq_ss, ↓wp_eCall, okC_ok, ↓wp_outD_app, ↓wp_outD_st, app_app, mul_ib, fdiv_ib, divmod_ib, pow_ib, ofO_some, ↓wp_ofO, ix_lstE, ix_roE, ix_tupE, atI_0, atI_1, atI_2, atI_3, atI_4, atI_map, tyChk_lst, lo_non, lo_bl, lo_int, lo_str, lo_lst, lo_tup, lo_ins, loS_nil, loS_cons, loF_nil, loF_cons, loC_lst, loC_ins, loS_app, insOf_ins, add_ll', add_tt', add_ss', mkL_ok', mkT_ok', mkC_ok', len_str', ne_ss, imul_ib, iadd_ii, ↓wp_sAug, isN_non, isN_int, isN_str, isN_tup, isN_lst, notN_non, notN_int, notN_str, notN_tup, notN_lst, isi_str_non, isi_str_bl, isi_str_int, isi_str_str, isi_str_lst, isi_str_tup, isi_str_dct, isi_int_non, isi_int_bl, isi_int_int, isi_int_str, isi_int_lst, isi_int_tup, isi_int_dct, isi_bool_non, isi_bool_bl, isi_bool_int, isi_bool_str, isi_bool_lst, isi_bool_tup, isi_bool_dct, isi_list_non, isi_list_bl, isi_list_int, isi_list_str, isi_list_lst, isi_list_tup, isi_list_dct, isi_tuple_non, isi_tuple_bl, isi_tuple_int, isi_tuple_str, isi_tuple_lst, isi_tuple_tup, isi_tuple_dct, isi_dict_non, isi_dict_bl, isi_dict_int, isi_dict_str, isi_dict_lst, isi_dict_tup, isi_dict_dct, ↓insK_some, ↓optK_some, ↓cinK_app, ↓wp_eFldK, ↓wp_eMethK, ↓wp_sFldK, look_eq, look_ne, look_nil, put_nil, put_eq, put_ne, ↓blK_ok, ↓intK_ok, ↓strK_ok, ↓lstK_lst, ↓lstK_ro, ↓tupK_ok, ↓sqK_lst, ↓sqK_ro, ↓sqK_tup, ↓oneK_ok, ↓twoK_ok, ↓rngK_ok, ↓andK_true, ↓wk_tOf, ↓wk_eAnd, ↓wk_eOr, ↓wk_eNot, ↓wk_eChain, ↓wk_eM, ↓wk_oSome, ↓wk_iL, ↓wk_iT, ↓wk_iS, ↓wk_iR1, ↓wk_iR2, ↓wk_iEA, ↓wk_gsub, ↓lcK_ok, ↓lfK_ok, ↓lfK_fz, ↓szK_ok, ↓wk_append, ↓wk_reverse, ↓wk_clear, ↓wk_ixc, ↓frK_ok, ↓frK_fz, ↓wk_frz, ↓wk_frzL, ↓wk_lenc, ↓wk_setc, ↓wk_tyc, get_at0, get_at1, get_at2, get_at3, set_at0, set_at1, set_at2, set_at3, ↓wp_itemF, filterMap_some', filterMap_if, ↓itK_none, ↓itK_some, ↓wp_compN, ↓wp_forN, ↓wp_forC, ev_1, ev_2, ev_3, ev_4, ev_6, ev_7, ev_8, ev_9, ev_10, ev_11, ev_12, ev_13, ev_14, ev_15, ev_16, ev_17, ev_18, ev_19, ev_20, ev_21, ev_22, ev_23, ev_24, ev_25, ev_26, ev_27, ev_28, ev_29, ev_30, ev_31, ev_32, ev_33, ev_34, ev_35, ev_37, ev_38, ev_39, ev_40, ev_41, ev_42, ev_43, ev_44, ev_45, ev_46, ev_47, ev_48, ev_49, ev_50, ev_51, ev_54, ev_55, ev_56, ev_57, ev_58, ev_envOf, ev_wipe0, ev_wipe1, ev_rep0, ev_rep1, pick_cons, pick_nil, ↓szS_ok, ↓wk_jsN, ↓wk_js, fmt_s, fmt_i, str_i, str_s, int1_i, int1_b, isi_own, ↓wk_iZ, ↓wk_iV, zip_map, rev_lst, ↓par3_ok, ↓wp_sPar3, ↓truK_t, ↓truK_f, ↓wp_eOrT, truD_non, truD_bl, truD_int, truD_tup, truD_lst, ↓wk_slc, beqI_f, beqI_t, isub_ii, ifdiv_ib, ↓gwp_star1, ↓gwp_star0, lo_jars, lo_strs, lo_jD, lo_own, lo_rowL, lo_sh, ↓lstK_rowL, ↓sqK_rowL, ↓tupK_own, len_rowL, len_own, ix_rowL, ix_own, sl_rowL, tup_rowL, list_rowL, list_own, at_rd, at_rw, ↓frK_fzr, ↓lfK_fzr, lo_prs, lo_spD, lo_prD, ↓lstK_spD, ↓sqK_spD, len_spD, ix_spD, $xs,*])
theorem more_eq (h : JsB B s.js) (hd : Hd s) (hB : B ≤ 10 ^ 150) (ht : TrOk s.tr) (ha : s.js[i]? = some a) (g0 : 0 ≤ a.2.2 + m) (gB : a.2.2 + m < B) : denwith_more [shD s, .str a.1, .int m] st = .ok (shD (s.add i m)) st := by
  refine Res.eq_of_wp ?_
  unfold denwith_more
  have h12 := h.le
  have ma := List.mem_of_getElem? ha
  have hi := (List.getElem?_eq_some_iff.mp ha).1
  have hx := nm_mem ma
  have ea := at1_at h ha
  have e0 : jD a = .tup [.str a.1, .int a.2.1, .int a.2.2] := rfl
  have ei : L2.ixN s.js.length (i : Int) = some i := ixN_ok hi
  have em : (s.js.map jD).set i (.tup [.str a.1, .int a.2.1, .int (a.2.2 + m)]) = (addJ i m s.js).map jD := by
    rw [addJ_at ha, List.map_set]; rfl
  have ok := addJ_ok h ha g0 gB
  have hm := made_eq (st := st ++ [.lst ((addJ i m s.js).map jD)]) (o := s.tr) (.ofCell (get_at0 rfl)) ok hB ht
  have hs : mkS (addJ i m s.js) s.tr = s.add i m := by
    rw [← add_js, ← add_tr (i := i) (m := m)]
    exact mkS_of (hd.of_nb (by rw [add_js]; exact addJ_nb) (by rw [add_tr]))
  rw [hs] at hm
  cases s with
  | rd ts =>
    simp only [Shp.js] at *
    simp! only [place_eq hasRd (show ts.length ≤ 1000 by omega) h.lbn hx, ea, rjarsC_eq hasRd (show ts.length ≤ 500 by omega), atI_pos, ha, e0, List.length_map, ei, trayin_eq, em, hm]
  | rw ts t =>
    simp only [Shp.js] at *
    simp! only [place_eq hasRw (show ts.length ≤ 1000 by omega) h.lbn hx, ea, jarsC_eq hasRw, atI_pos, ha, e0, List.length_map, ei, trayin_eq, em, hm]
end
end Q

namespace Q
open PySem PySem.Spec PyProof.Rows L2 Den
/-! ### shapes that come to rest alike -/
def Eqv (s s' : Shp) : Prop := match s, s' with
  | .rd ts, .rd us => nb us = nb ts ∧ (wor us = 0 ↔ wor ts = 0) ∧ ∃ q : Int, wor us = wor ts + (prodB ts - 1) * q
  | .rw ts t, .rw us u => nb us = nb ts ∧ u * prodB ts + wor us = t * prodB ts + wor ts
  | _, _ => False
def spS (i : Nat) (k : Int) (a : J3) (s : Shp) : Shp := (s.addL i k).add i (-k * a.2.1)
section
variable {st : Store} {ts us vs : List J3} {B B' : Int} {s s' s'' : Shp} {x y : Str} {d jd : D} {o : Option Int} {a a' b p : J3} {n m k : Int} {i j q : Nat}
theorem Eqv.refl : Eqv s s := by
  cases s with
  | rd ts => exact ⟨rfl, Iff.rfl, 0, by simp⟩
  | rw ts t => exact ⟨rfl, rfl⟩
theorem Eqv.nb (e : Eqv s s') : Q.nb s'.js = Q.nb s.js := by
  cases s <;> cases s' <;> simp only [Eqv] at e <;> first | exact e.1 | exact e.elim
theorem Eqv.symm (e : Eqv s s') : Eqv s' s := by
  cases s with
  | rd ts => cases s' with
    | rd us =>
      obtain ⟨e1, e2, q, e3⟩ := e
      exact ⟨e1.symm, e2.symm, -q, by rw [prod_nb e1, e3, Int.mul_neg]; omega⟩
    | rw us u => exact e.elim
  | rw ts t => cases s' with
    | rd us => exact e.elim
    | rw us u =>
      obtain ⟨e1, e2⟩ := e
      exact ⟨e1.symm, by rw [prod_nb e1]; exact e2.symm⟩
theorem Eqv.trans (e : Eqv s s') (e' : Eqv s' s'') : Eqv s s'' := by
  cases s with
  | rd ts => cases s' with
    | rd us => cases s'' with
      | rd vs =>
        obtain ⟨e1, e2, q, e3⟩ := e
        obtain ⟨f1, f2, r, f3⟩ := e'
        exact ⟨f1.trans e1, f2.trans e2, q + r, by rw [f3, e3, prod_nb e1, Int.mul_add]; omega⟩
      | rw vs v => exact e'.elim
    | rw us u => exact e.elim
  | rw ts t => cases s' with
    | rd us => exact e.elim
    | rw us u => cases s'' with
      | rd vs => exact e'.elim
      | rw vs v =>
        obtain ⟨e1, e2⟩ := e
        obtain ⟨f1, f2⟩ := e'
        exact ⟨f1.trans e1, by rw [prod_nb e1] at f2; omega⟩
theorem nb_drop (e : Q.nb us = Q.nb ts) : Q.nb (us.drop i) = Q.nb (ts.drop i) := by
  simp only [Q.nb, List.map_drop] at *; rw [e]
theorem nb_get (e : Q.nb us = Q.nb ts) (ha : ts[i]? = some a) : ∃ b, us[i]? = some b ∧ b.1 = a.1 ∧ b.2.1 = a.2.1 := by
  have := congrArg (fun l => l[i]?) e
  simp only [Q.nb, List.getElem?_map, ha, Option.map_some] at this
  cases hb : us[i]? with
  | none => rw [hb] at this; simp at this
  | some b =>
    rw [hb] at this
    simp only [Option.map_some, Option.some.injEq, Prod.mk.injEq] at this
    exact ⟨b, rfl, this⟩
theorem Eqv.add (h : JsB B s.js) (h' : JsB B' s'.js) (e : Eqv s s') (ha : s.js[i]? = some a) (m0 : 0 ≤ m) : Eqv (s.add i m) (s'.add i m) := by
  obtain ⟨b, hb, _, _⟩ := nb_get e.nb ha
  have pd : prodB (s'.js.drop (i + 1)) = prodB (s.js.drop (i + 1)) := prod_nb (nb_drop e.nb)
  have W1 : 1 ≤ prodB (s.js.drop (i + 1)) := prod_pos fun t ht => h.b2 t (List.mem_of_mem_drop ht)
  have q0 := Int.mul_nonneg m0 (show 0 ≤ prodB (s.js.drop (i + 1)) by omega)
  have qz : m * prodB (s.js.drop (i + 1)) = 0 ↔ m = 0 := by
    constructor
    · intro z
      rcases Int.lt_or_le 0 m with g | g
      · have := Int.mul_le_mul (show 1 ≤ m by omega) W1 (by omega) (by omega)
        omega
      · omega
    · intro z; rw [z]; simp
  have w0 := wor_0 h.b2 h.g0
  have w0' := wor_0 h'.b2 h'.g0
  cases s with
  | rd ts => cases s' with
    | rd us =>
      obtain ⟨e1, e2, r, e3⟩ := e
      simp only [Shp.js, Shp.add] at *
      refine ⟨by rw [addJ_nb, addJ_nb]; exact e1, ?_, r, ?_⟩
      · rw [wor_add ha, wor_add hb, pd]; omega
      · rw [wor_add ha, wor_add hb, pd, prod_nb addJ_nb]; omega
    | rw us u => exact e.elim
  | rw ts t => cases s' with
    | rd us => exact e.elim
    | rw us u =>
      obtain ⟨e1, e2⟩ := e
      simp only [Shp.js, Shp.add] at *
      refine ⟨by rw [addJ_nb, addJ_nb]; exact e1, ?_⟩
      rw [wor_add ha, wor_add hb, pd, prod_nb addJ_nb]; omega
/-! ### spills -/
theorem spS_rd : spS i k a (.rd ts) = .rd (addJ i (-k * a.2.1) (addJ ((i + (ts.length - 1)) % ts.length) k ts)) := rfl
theorem spS_rw {t : Int} : spS i k a (.rw ts t) = if i = 0 then .rw (addJ i (-k * a.2.1) ts) (t + k) else .rw (addJ i (-k * a.2.1) (addJ (i - 1) k ts)) t := by
  unfold spS; simp only [Shp.addL]; split <;> rfl
theorem spS_nb : Q.nb (spS i k a s).js = Q.nb s.js := by
  cases s with
  | rd ts => rw [spS_rd]; simp only [Shp.js]; rw [addJ_nb, addJ_nb]
  | rw ts t =>
    rw [spS_rw]
    split
    · simp only [Shp.js]; rw [addJ_nb]
    · simp only [Shp.js]; rw [addJ_nb, addJ_nb]
theorem spS_none : (spS i k a s).tr.isNone = s.tr.isNone := by
  cases s with
  | rd ts => rfl
  | rw ts t => rw [spS_rw]; split <;> rfl
theorem mst_le (h : JsB B s.js) (ha : s.js[i]? = some a) (k1 : 1 ≤ k) (kM : k ≤ mst s a) : a.2.1 ≤ a.2.2 ∧ ((s.js.length = 1 ∧ s.tr = none ∧ k * (a.2.1 - 1) ≤ a.2.2 - 1) ∨ (¬ (s.js.length = 1 ∧ s.tr = none) ∧ k * a.2.1 ≤ a.2.2)) := by
  have ma := List.mem_of_getElem? ha
  have a2 := h.b2 a ma
  have a0 := h.g0 a ma
  have dv : ∀ {x b : Int}, 0 < b → k ≤ x / b → k * b ≤ x := fun {x b} hb q => Int.le_trans (Int.mul_le_mul_of_nonneg_right q (by omega)) (Int.ediv_mul_le _ (by omega))
  unfold mst at kM
  by_cases c : (decide (s.js.length = 1) && s.tr.isNone) = true
  · by_cases c2 : a.2.1 ≤ a.2.2
    · rw [if_pos ⟨c2, c⟩] at kM
      simp only [Bool.and_eq_true, decide_eq_true_eq, Option.isNone_iff_eq_none] at c
      exact ⟨c2, .inl ⟨c.1, c.2, dv (by omega) kM⟩⟩
    · rw [if_neg (fun z => c2 z.1)] at kM
      have := dv (by omega) kM
      have := Int.mul_le_mul_of_nonneg_right k1 (show 0 ≤ a.2.1 by omega)
      omega
  · rw [if_neg (fun z => c z.2)] at kM
    have q := dv (by omega) kM
    have := Int.mul_le_mul_of_nonneg_right k1 (show 0 ≤ a.2.1 by omega)
    refine ⟨by omega, .inr ⟨fun z => c ?_, q⟩⟩
    simp [z.1, z.2]
/-- what a spill leaves: bounds -/
theorem spS_ok (h : JsB B s.js) (ha : s.js[i]? = some a) (k1 : 1 ≤ k) (kM : k ≤ mst s a) (gB : ∀ t ∈ s.js, t.2.2 + k < B) : JsB B (s.addL i k).js ∧ (∃ a', (s.addL i k).js[i]? = some a' ∧ a'.1 = a.1 ∧ a'.2.1 = a.2.1 ∧ 0 ≤ a'.2.2 + -k * a.2.1 ∧ a'.2.2 + -k * a.2.1 < B) ∧ JsB B (spS i k a s).js := by
  have ma := List.mem_of_getElem? ha
  have hi := (List.getElem?_eq_some_iff.mp ha).1
  have a2 := h.b2 a ma
  obtain ⟨c0, cc⟩ := mst_le h ha k1 kM
  have kb : k ≤ k * a.2.1 := by
    have := Int.mul_le_mul_of_nonneg_left (show 1 ≤ a.2.1 by omega) (show 0 ≤ k by omega)
    omega
  have main : JsB B (s.addL i k).js ∧ (∃ a', (s.addL i k).js[i]? = some a' ∧ a'.1 = a.1 ∧ a'.2.1 = a.2.1 ∧ 0 ≤ a'.2.2 + -k * a.2.1 ∧ a'.2.2 + -k * a.2.1 < B) := by
    rw [Int.neg_mul]
    cases s with
    | rd ts =>
      simp only [Shp.js, Shp.tr, Shp.addL] at *
      have hp' : (i + (ts.length - 1)) % ts.length < ts.length := Nat.mod_lt _ (by omega)
      obtain ⟨p, hp⟩ : ∃ p, ts[(i + (ts.length - 1)) % ts.length]? = some p := ⟨_, List.getElem?_eq_getElem hp'⟩
      have mp := List.mem_of_getElem? hp
      have p0 := h.g0 p mp
      refine ⟨addJ_ok h hp (by omega) (gB p mp), ?_⟩
      rcases cc with ⟨c1, _, c2⟩ | ⟨c1, c2⟩
      · have i0 : i = 0 := by omega
        subst i0
        have ej : (0 + (ts.length - 1)) % ts.length = 0 := by rw [c1]
        rw [ej] at hp ⊢
        rw [ha] at hp
        cases hp
        have := gB a ma
        rw [Int.mul_sub, Int.mul_one] at c2
        exact ⟨(a.1, a.2.1, a.2.2 + k), by rw [addJ_get ha, if_pos rfl], rfl, rfl, by show 0 ≤ a.2.2 + k + -(k * a.2.1); omega, by show a.2.2 + k + -(k * a.2.1) < B; omega⟩
      · have ne : i ≠ (i + (ts.length - 1)) % ts.length := by
          intro e
          by_cases z : i = 0
          · subst z
            rw [Nat.zero_add, Nat.mod_eq_of_lt (by omega)] at e
            exact c1 ⟨by omega, trivial⟩
          · rw [show i + (ts.length - 1) = (i - 1) + ts.length by omega, Nat.add_mod_right, Nat.mod_eq_of_lt (by omega)] at e
            omega
        have := h.gB a ma
        exact ⟨a, by rw [addJ_get hp, if_neg ne]; exact ha, rfl, rfl, by omega, by omega⟩
    | rw ts t =>
      simp only [Shp.js, Shp.tr, Shp.addL] at *
      have c2 : k * a.2.1 ≤ a.2.2 := by
        rcases cc with ⟨_, q, _⟩ | ⟨_, q⟩
        · cases q
        · exact q
      have := h.gB a ma
      by_cases z : i = 0
      · rw [if_pos z]; exact ⟨h, a, ha, rfl, rfl, by omega, by omega⟩
      · rw [if_neg z]
        obtain ⟨p, hp⟩ : ∃ p, ts[i - 1]? = some p := ⟨_, List.getElem?_eq_getElem (by omega)⟩
        have mp := List.mem_of_getElem? hp
        have p0 := h.g0 p mp
        exact ⟨addJ_ok h hp (by omega) (gB p mp), a, by simp only [Shp.js]; rw [addJ_get hp, if_neg (by omega)]; exact ha, rfl, rfl, by omega, by omega⟩
  refine ⟨main.1, main.2, ?_⟩
  obtain ⟨a', ha', e1, e2, g0, g1⟩ := main.2
  unfold spS
  rw [add_js]
  exact addJ_ok main.1 ha' g0 g1
end
end Q

namespace Q
open PySem PySem.Spec PyProof.Rows L2 Den
/-! ### draws, by any such pot -/
section
variable {C : Store} {p : Nat} {st st' : Store} {Q : D → Store → Prop} {E : Xc → Store → Prop}
end
end Q

namespace Q
open PySem PySem.Spec PyProof.Rows L2 Den
/-! ### draws of the third kind -/
section
variable {C : Store} {p : Nat} {st st' : Store} {Q : D → Store → Prop} {E : Xc → Store → Prop}
end
section
variable {st : Store} {ts : List J3} {B : Int} {o : Option Int}
end
end Q

namespace Q
open PySem PySem.Spec PyProof.Rows L2 Den
/-! ### texts that may stand in compared lists -/
/-- each sign is one -/
def Sg (x : Str) : Prop := ∀ c ∈ x.cps.toList, c < 1114112
theorem Sg.lay {x : Str} (h : Sg x) : PyData.canLay0 (.str x) = true := by
  have e : PyData.canLay0 (.str x) = x.cps.all fun c => decide (c < 1114112) := rfl
  rw [e, ← Array.all_toList, List.all_eq_true]
  intro c hc
  exact decide_eq_true (h c hc)
theorem Sg.app {x y : Str} (h : Sg x) (h' : Sg y) : Sg (x ++ y) := fun c hc => by
  rcases mem_cps_append.mp hc with q | q
  · exact h c q
  · exact h' c q
theorem Sg.str (s : String) : Sg (Str.ofString s) := fun c hc => by
  rw [signs_ofString] at hc
  obtain ⟨ch, _, rfl⟩ := List.mem_map.mp hc
  have := ch.valid
  have e : ch.toNat = ch.val.toNat := rfl
  rw [e]
  rcases this with q | ⟨_, q⟩
  · have : ch.val.toNat < 0xd800 := q
    omega
  · exact q
theorem Sg.chr {q c : Nat} (h : c < 1114112) : ∀ e ∈ Builtin.Str.reprChar q c, e < 1114112 := by
  have hx : ∀ n, ∀ e ∈ List.replicate n 48 ++ (Nat.toDigits 16 c).map Char.toNat, e < 1114112 := fun n e he => by
    rcases List.mem_append.mp he with q | q
    · rw [(List.mem_replicate.mp q).2]; decide
    · obtain ⟨ch, _, rfl⟩ := List.mem_map.mp q
      rcases ch.valid with q | ⟨_, q⟩
      · have : ch.val.toNat < 0xd800 := q
        show ch.val.toNat < _
        omega
      · exact q
  intro e he
  unfold Builtin.Str.reprChar at he
  dsimp only at he
  repeat' split at he
  all_goals simp only [List.cons_append, List.nil_append, List.mem_cons, List.not_mem_nil, or_false] at he
  all_goals rcases he with he | he
  all_goals first | omega | exact hx _ _ he | skip
  all_goals first | omega | (rcases he with he | he <;> first | omega | exact hx _ _ he)
theorem Sg.rep {x : Str} (h : Sg x) : Sg (reprText x) := by
  have q39 : reprQuote x < 1114112 := by unfold reprQuote; split <;> decide
  have key : ∀ (l : List Nat) (acc : Array Nat), (∀ c ∈ l, c < 1114112) → (∀ c ∈ acc.toList, c < 1114112) → ∀ c ∈ (l.foldl (fun out c => out ++ (Builtin.Str.reprChar (reprQuote x) c).toArray) acc).toList, c < 1114112 := fun l => by
    induction l with
    | nil => intro acc _ h2; exact h2
    | cons c l ih =>
      intro acc h1 h2
      refine ih _ (fun d hd => h1 d (List.mem_cons_of_mem _ hd)) fun d hd => ?_
      rw [Array.toList_append] at hd
      rcases List.mem_append.mp hd with q | q
      · exact h2 d q
      · exact Sg.chr (h1 c (List.mem_cons_self ..)) d q
  intro c hc
  unfold reprText at hc
  rw [Array.toList_push] at hc
  rcases List.mem_append.mp hc with q | q
  · rw [← Array.foldl_toList] at q
    exact key _ _ h (fun c hc => by simp at hc; rw [hc]; exact q39) c q
  · rw [List.mem_singleton.mp q]; exact q39
theorem Sg.join {s : Str} {ts : List Str} (h : Sg s) (h' : ∀ t ∈ ts, Sg t) : Sg (Str.join s ts) := fun c hc => by
  rcases (mem_join s c ts).mp hc with ⟨t, ht, q⟩ | ⟨_, q⟩
  · exact h' t ht c q
  · exact h c q
theorem Sg.all {xs : List PyData} (h : ∀ x ∈ xs, Sg x.shown) : ∀ t ∈ PyData.shownAll xs, Sg t := by
  rw [shownAll_eq_map]
  intro t ht
  obtain ⟨x, hx, rfl⟩ := List.mem_map.mp ht
  exact h x hx
theorem Sg.list {xs : List PyData} (h : ∀ x ∈ xs, Sg x.shown) : Sg (PyData.list xs).shown := by
  rw [PyData.shown_list]
  exact ((Sg.str _).app (Sg.join (Sg.str _) (Sg.all h))).app (Sg.str _)
theorem Sg.tuple {xs : List PyData} (h : ∀ x ∈ xs, Sg x.shown) : Sg (PyData.tuple xs).shown := by
  rw [PyData.shown_tuple]
  exact ((Sg.str _).app (Sg.join (Sg.str _) (Sg.all h))).app (Sg.str _)
theorem Sg.int {n : Int} : Sg (shw (.int n)) := by
  show Sg (PyData.int n).shown
  rw [PyData.shown_int]; exact Sg.str _
theorem Sg.lb {x : Str} (h : Lb x) : Sg x := by
  obtain ⟨cs, rfl, _, _, h⟩ := h
  intro c hc
  have := h c (by simpa [SX.S] using hc)
  omega
theorem Sg.row {B : Int} {ts : List J3} (h : JsB B ts) : Sg (shw (rowL ts)) := by
  have e : ∀ ts : List J3, pyDs (ts.map jD) = (ts.map fun t => pyD (jD t)) := fun ts => by
    induction ts with
    | nil => rfl
    | cons t ts ih => simp only [List.map_cons, pyDs, ih]
  show Sg (PyData.list (pyDs (ts.map jD))).shown
  rw [e]
  refine Sg.list fun x hx => ?_
  obtain ⟨t, ht, rfl⟩ := List.mem_map.mp hx
  show Sg (PyData.tuple [.str t.1, .int t.2.1, .int t.2.2]).shown
  refine Sg.tuple fun y hy => ?_
  simp only [List.mem_cons, List.not_mem_nil, or_false] at hy
  rcases hy with rfl | rfl | rfl
  · rw [PyData.shown_str]; exact Sg.rep (Sg.lb (h.lb t ht))
  · rw [PyData.shown_int]; exact Sg.str _
  · rw [PyData.shown_int]; exact Sg.str _
/-- a list of texts is itself -/
theorem eq_texts {st : Store} {us : List Str} (h : ∀ x ∈ us, Sg x) : eqD (.lst (us.map .str)) (.lst (us.map .str)) st = .ok (.bl true) st := by
  have hus : ∀ x ∈ us, PyData.canLay0 (.str x) = true := fun x hx => (h x hx).lay
  obtain ⟨h1, h2⟩ := strs_shaped hus
  have e : toPy st (.lst (us.map .str)) = some (.list (us.map .str)) := by
    simp only [toPy, toPyC, toPyCs_strs, Option.map_some]
  have sh : SeqAt.shaped (.list (us.map .str)) = true := by simp only [SeqAt.shaped, PyData.canLay0, h1, PyData.depth, h2]; rfl
  have ev := SeqAt.eqv_refl (.list (us.map .str)) (by simp only [PyData.canLay0, h1])
  simp only [eqD, e, eqOk, sh, Bool.and_self, if_true, ev]
end Q

namespace Q
open PySem PySem.Spec PyProof.Rows L2 Den
section
variable {C : Store} {p : Nat} {st : Store} {Q : D → Store → Prop} {E : Xc → Store → Prop} {N : Den.Env → Store → Prop} {P : SRes → Prop}
end
end Q

namespace Q
open PySem PySem.Spec PyProof.Rows L2 Den
section
variable {C : Store} {p : Nat} {st : Store} {Q : D → Store → Prop} {E : Xc → Store → Prop} {N : Den.Env → Store → Prop} {P : SRes → Prop}
end
section
variable {st : Store} {ts us : List J3} {B M t u m : Int} {a : J3} {i : Nat} {x : Str}
local macro_rules
  | `(tactic| simp! only [$xs,*]) => `(tactic| simp (disch := first | assumption | exact id rfl | omega | (simp only [List.length_map, List.length_append, List.length_cons, List.length_nil, List.length_set, List.length_replicate, List.length_take, List.length_drop, List.length_reverse] <;> omega) | (simp only [if_true, if_false, eq_self, Nat.reduceEqDiff]; done) | (simp only [lo_non, lo_bl, lo_int, lo_str, lo_lst, lo_tup, lo_ins, loS_nil, loS_cons, loF_nil, loF_cons, loC_lst, loC_ins, loS_app, ev_1, ev_2, ev_3, ev_4, ev_6, ev_7, ev_8, ev_9, ev_10, ev_13, ev_14, ev_15, ev_16, ev_17, ev_18, ev_26, ev_27, ev_30, ev_31, ev_32, ev_33, ev_34, ev_35, ev_44, ev_45, ev_46, ev_47, ev_48, ev_49, ev_50, ev_51, ev_57, ev_58, lo_jars, lo_strs, lo_jD, lo_own, lo_rowL, lo_sh, lo_prs, lo_spD, lo_prD]; done) | fail) only [↓wp_ok, ↓wp_next, ↓wp_ret, ↓wp_sSeq, ↓wp_fnD, ↓outP_ret, ↓wp_outD_same, ↓wp_outD_keep, cmp_ii, neg_i, add_ii, sub_ii, mod_ii, len_lst, len_ro, len_tup, ↓wp_eK, ↓wp_eVar0, ↓wp_eVars, ↓wp_eBin, ↓wp_eUn, ↓wp_eArgs, ↓wp_aNil, ↓wp_aCons, ↓wp_tYes, ↓wp_tNot, ↓wp_tAnd, ↓wp_tOr, ↓wp_eIf, ↓wp_oNone, ↓wp_eSl, ↓wp_eFrz, ↓wp_eLc, ↓gwp_N, ↓gwp_nil, ↓gwp_cons, ↓gwp_T, ↓wp_sNext, ↓wp_sRet, ↓wp_sRetN, ↓wp_sExpr, ↓wp_sIf, ↓wp_sAsg, ↓par2_ok, ↓wp_sPar, ↓wp_sFor, tyChk_str, Den.sl_tup, okL_ok, list_tup, max_ii, min_ii, abs_i, ne_ii, eq_ii, eq_ss, ↓wp_eCall, okC_ok, ↓wp_outD_app, ↓wp_outD_st, app_app, mul_ib, fdiv_ib, divmod_ib, pow_ib, ofO_some, ↓wp_ofO, ix_lstE, ix_roE, ix_tupE, atI_0, atI_1, atI_2, atI_3, atI_4, atI_map, tyChk_lst, lo_non, lo_bl, lo_int, lo_str, lo_lst, lo_tup, lo_ins, loS_nil, loS_cons, loF_nil, loF_cons, loC_lst, loC_ins, loS_app, insOf_ins, add_ll', add_tt', add_ss', mkL_ok', mkT_ok', mkC_ok', len_str', ne_ss, imul_ib, iadd_ii, ↓wp_sAug, isN_non, isN_int, isN_str, isN_tup, isN_lst, notN_non, notN_int, notN_str, notN_tup, notN_lst, isi_str_non, isi_str_bl, isi_str_int, isi_str_str, isi_str_lst, isi_str_tup, isi_str_dct, isi_int_non, isi_int_bl, isi_int_int, isi_int_str, isi_int_lst, isi_int_tup, isi_int_dct, isi_bool_non, isi_bool_bl, isi_bool_int, isi_bool_str, isi_bool_lst, isi_bool_tup, isi_bool_dct, isi_list_non, isi_list_bl, isi_list_int, isi_list_str, isi_list_lst, isi_list_tup, isi_list_dct, isi_tuple_non, isi_tuple_bl, isi_tuple_int, isi_tuple_str, isi_tuple_lst, isi_tuple_tup, isi_tuple_dct, isi_dict_non, isi_dict_bl, isi_dict_int, isi_dict_str, isi_dict_lst, isi_dict_tup, isi_dict_dct, ↓insK_some, ↓optK_some, ↓cinK_app, ↓wp_eFldK, ↓wp_eMethK, ↓wp_sFldK, look_eq, look_ne, look_nil, put_nil, put_eq, put_ne, ↓blK_ok, ↓intK_ok, ↓strK_ok, ↓lstK_lst, ↓lstK_ro, ↓tupK_ok, ↓sqK_lst, ↓sqK_ro, ↓sqK_tup, ↓oneK_ok, ↓twoK_ok, ↓rngK_ok, ↓andK_true, ↓wk_tOf, ↓wk_eAnd, ↓wk_eOr, ↓wk_eNot, ↓wk_eChain, ↓wk_eM, ↓wk_oSome, ↓wk_iL, ↓wk_iT, ↓wk_iS, ↓wk_iR1, ↓wk_iR2, ↓wk_iEA, ↓wk_gsub, ↓lcK_ok, ↓lfK_ok, ↓lfK_fz, ↓szK_ok, ↓wk_append, ↓wk_reverse, ↓wk_clear, ↓wk_ixc, ↓frK_ok, ↓frK_fz, ↓wk_frz, ↓wk_frzL, ↓wk_lenc, ↓wk_setc, ↓wk_tyc, get_at0, get_at1, get_at2, get_at3, set_at0, set_at1, set_at2, set_at3, ↓wp_itemF, filterMap_some', filterMap_if, ↓itK_none, ↓itK_some, ↓wp_compN, ↓wp_forN, ↓wp_forC, ev_1, ev_2, ev_3, ev_4, ev_6, ev_7, ev_8, ev_9, ev_10, ev_11, ev_12, ev_13, ev_14, ev_15, ev_16, ev_17, ev_18, ev_19, ev_20, ev_21, ev_22, ev_23, ev_24, ev_25, ev_26, ev_27, ev_28, ev_29, ev_30, ev_31, ev_32, ev_33, ev_34, ev_35, ev_37, ev_38, ev_39, ev_40, ev_41, ev_42, ev_43, ev_44, ev_45, ev_46, ev_47, ev_48, ev_49, ev_50, ev_51, ev_54, ev_55, ev_56, ev_57, ev_58, ev_envOf, ev_wipe0, ev_wipe1, ev_rep0, ev_rep1, pick_cons, pick_nil, ↓szS_ok, ↓wk_jsN, ↓wk_js, fmt_s, fmt_i, str_i, str_s, int1_i, int1_b, isi_own, ↓wk_iZ, ↓wk_iV, zip_map, rev_lst, ↓par3_ok, ↓wp_sPar3, ↓truK_t, ↓truK_f, ↓wp_eOrT, truD_non, truD_bl, truD_int, truD_tup, truD_lst, ↓wk_slc, beqI_f, beqI_t, isub_ii, ifdiv_ib, ↓gwp_star1, ↓gwp_star0, lo_jars, lo_strs, lo_jD, lo_own, lo_rowL, lo_sh, ↓lstK_rowL, ↓sqK_rowL, ↓tupK_own, len_rowL, len_own, ix_rowL, ix_own, sl_rowL, tup_rowL, list_rowL, list_own, at_rd, at_rw, ↓frK_fzr, ↓lfK_fzr, lo_prs, lo_spD, lo_prD, ↓lstK_spD, ↓sqK_spD, len_spD, ix_spD, ↓reduceIte, Nat.reduceAdd, Nat.reduceSub, Nat.reduceLeDiff, Nat.reduceEqDiff, Nat.reduceLT, Nat.reduceBEq, Int.reduceDiv, reduceCtorEq, $xs,*])
  | `(tactic| dsimp! only [$xs,*]) => `(tactic| simp (disch := first | assumption | exact id rfl | omega | (simp only [List.length_map, List.length_append, List.length_cons, List.length_nil, List.length_set, List.length_replicate, List.length_take, List.length_drop, List.length_reverse] <;> omega) | (simp only [if_true, if_false, eq_self, Nat.reduceEqDiff]; done) | (simp only [lo_non, lo_bl, lo_int, lo_str, lo_lst, lo_tup, lo_ins, loS_nil, loS_cons, loF_nil, loF_cons, loC_lst, loC_ins, loS_app, ev_1, ev_2, ev_3, ev_4, ev_6, ev_7, ev_8, ev_9, ev_10, ev_13, ev_14, ev_15, ev_16, ev_17, ev_18, ev_26, ev_27, ev_30, ev_31, ev_32, ev_33, ev_34, ev_35, ev_44, ev_45, ev_46, ev_47, ev_48, ev_49, ev_50, ev_51, ev_57, ev_58, lo_jars, lo_strs, lo_jD, lo_own, lo_rowL, lo_sh, lo_prs, lo_spD, lo_prD]; done) | exact fun _ => id rfl | fail) only [↓wp_ok, ↓wp_next, ↓wp_ret, ↓wp_sSeq, ↓wp_fnD, ↓outP_ret, ↓wp_outD_same, ↓wp_outD_keep, cmp_ii, neg_i, add_ii, sub_ii, mod_ii, len_lst, len_ro, len_tup, ↓wp_eK, ↓wp_eVar0, ↓wp_eVars, ↓wp_eBin, ↓wp_eUn, ↓wp_eArgs, ↓wp_aNil, ↓wp_aCons, ↓wp_tYes, ↓wp_tNot, ↓wp_tAnd, ↓wp_tOr, ↓wp_eIf, ↓wp_oNone, ↓wp_eSl, ↓wp_eFrz, ↓wp_eLc, ↓gwp_N, ↓gwp_nil, ↓gwp_cons, ↓gwp_T, ↓wp_sNext, ↓wp_sRet, ↓wp_sRetN, ↓wp_sExpr, ↓wp_sIf, ↓wp_sAsg, ↓par2_ok, ↓wp_sPar, ↓wp_sFor, tyChk_str, Den.sl_tup, okL_ok, list_tup, max_ii, min_ii, abs_i, ne_ii, eq_ii, eq_ss, ↓wp_eCall, okC_ok, ↓wp_outD_app, ↓wp_outD_st, app_app, mul_ib, fdiv_ib, divmod_ib, pow_ib, ofO_some, ↓wp_ofO, ix_lstE, ix_roE, ix_tupE, atI_0, atI_1, atI_2, atI_3, atI_4, atI_map, tyChk_lst, lo_non, lo_bl, lo_int, lo_str, lo_lst, lo_tup, lo_ins, loS_nil, loS_cons, loF_nil, loF_cons, loC_lst, loC_ins, loS_app, insOf_ins, add_ll', add_tt', add_ss', mkL_ok', mkT_ok', mkC_ok', len_str', ne_ss, imul_ib, iadd_ii, ↓wp_sAug, isN_non, isN_int, isN_str, isN_tup, isN_lst, notN_non, notN_int, notN_str, notN_tup, notN_lst, isi_str_non, isi_str_bl, isi_str_int, isi_str_str, isi_str_lst, isi_str_tup, isi_str_dct, isi_int_non, isi_int_bl, isi_int_int, isi_int_str, isi_int_lst, isi_int_tup, isi_int_dct, isi_bool_non, isi_bool_bl, isi_bool_int, isi_bool_str, isi_bool_lst, isi_bool_tup, isi_bool_dct, isi_list_non, isi_list_bl, isi_list_int, isi_list_str, isi_list_lst, isi_list_tup, isi_list_dct, isi_tuple_non, isi_tuple_bl, isi_tuple_int, isi_tuple_str, isi_tuple_lst, isi_tuple_tup, isi_tuple_dct, isi_dict_non, isi_dict_bl, isi_dict_int, isi_dict_str, isi_dict_lst, isi_dict_tup, isi_dict_dct, ↓insK_some, ↓optK_some, ↓cinK_app, ↓wp_eFldK, ↓wp_eMethK, ↓wp_sFldK, look_eq, look_ne, look_nil, put_nil, put_eq, put_ne, ↓blK_ok, ↓intK_ok, ↓strK_ok, ↓lstK_lst, ↓lstK_ro, ↓tupK_ok, ↓sqK_lst, ↓sqK_ro, ↓sqK_tup, ↓oneK_ok, ↓twoK_ok, ↓rngK_ok, ↓andK_true, ↓wk_tOf, ↓wk_eAnd, ↓wk_eOr, ↓wk_eNot, ↓wk_eChain, ↓wk_eM, ↓wk_oSome, ↓wk_iL, ↓wk_iT, ↓wk_iS, ↓wk_iR1, ↓wk_iR2, ↓wk_iEA, ↓wk_gsub, ↓lcK_ok, ↓lfK_ok, ↓lfK_fz, ↓szK_ok, ↓wk_append, ↓wk_reverse, ↓wk_clear, ↓wk_ixc, ↓frK_ok, ↓frK_fz, ↓wk_frz, ↓wk_frzL, ↓wk_lenc, ↓wk_setc, ↓wk_tyc, get_at0, get_at1, get_at2, get_at3, set_at0, set_at1, set_at2, set_at3, ↓wp_itemF, filterMap_some', filterMap_if, ↓itK_none, ↓itK_some, ↓wp_compN, ↓wp_forN, ↓wp_forC, ev_1, ev_2, ev_3, ev_4, ev_6, ev_7, ev_8, ev_9, ev_10, ev_11, ev_12, ev_13, ev_14, ev_15, ev_16, ev_17, ev_18, ev_19, ev_20, ev_21, ev_22, ev_23, ev_24, ev_25, ev_26, ev_27, ev_28, ev_29, ev_30, ev_31, ev_32, ev_33, ev_34, ev_35, ev_37, ev_38, ev_39, ev_40, ev_41, ev_42, ev_43, ev_44, ev_45, ev_46, ev_47, ev_48, ev_49, ev_50, ev_51, ev_54, ev_55, ev_56, ev_57, ev_58, ev_envOf, ev_wipe0, ev_wipe1, ev_rep0, ev_rep1, pick_cons, pick_nil, ↓szS_ok, ↓wk_jsN, ↓wk_js, fmt_s, fmt_i, str_i, str_s, int1_i, int1_b, isi_own, ↓wk_iZ, ↓wk_iV, zip_map, rev_lst, ↓par3_ok, ↓wp_sPar3, ↓truK_t, ↓truK_f, ↓wp_eOrT, truD_non, truD_bl, truD_int, truD_tup, truD_lst, ↓wk_slc, beqI_f, beqI_t, isub_ii, ifdiv_ib, ↓gwp_star1, ↓gwp_star0, lo_jars, lo_strs, lo_jD, lo_own, lo_rowL, lo_sh, ↓lstK_rowL, ↓sqK_rowL, ↓tupK_own, len_rowL, len_own, ix_rowL, ix_own, sl_rowL, tup_rowL, list_rowL, list_own, at_rd, at_rw, ↓frK_fzr, ↓lfK_fzr, lo_prs, lo_spD, lo_prD, ↓lstK_spD, ↓sqK_spD, len_spD, ix_spD, ↓reduceIte, Nat.reduceAdd, Nat.reduceSub, Nat.reduceLeDiff, Nat.reduceEqDiff, Nat.reduceLT, Nat.reduceBEq, Int.reduceDiv, reduceCtorEq, $xs,*])
  | `(tactic| simp_all! only [$xs,*]) => `(tactic| simp only [↓wp_ok, ↓wp_next, ↓wp_ret, ↓wp_sSeq, ↓wp_fnD, ↓outP_ret, ↓wp_outD_same, ↓wp_outD_keep, cmp_ii, neg_i, add_ii, sub_ii, mod_ii, len_lst, len_ro, len_tup, ↓wp_eK, ↓wp_eVar0, ↓wp_eVars, ↓wp_eBin, ↓wp_eUn, ↓wp_eArgs, ↓wp_aNil, ↓wp_aCons, ↓wp_tYes, ↓wp_tNot, ↓wp_tAnd, ↓wp_tOr, ↓wp_eIf, ↓wp_oNone, ↓wp_eSl, ↓wp_eFrz, ↓wp_eLc, ↓gwp_N, ↓gwp_nil, ↓gwp_cons, ↓gwp_T, ↓wp_sNext, ↓wp_sRet, ↓wp_sRetN, ↓wp_sExpr, ↓wp_sIf, ↓wp_sAsg, ↓par2_ok, ↓wp_sPar, ↓wp_sFor, tyChk_str, Den.sl_tup, okL_ok, list_tup, max_ii, min_ii, abs_i, ne_ii, eq_ii, eq_ss, ↓wp_eCall, okC_ok, ↓wp_outD_app, ↓wp_outD_st, app_app, mul_ib, fdiv_ib, divmod_ib, pow_ib, ofO_some, ↓wp_ofO, ix_lstE, ix_roE, ix_tupE, atI_0, atI_1, atI_2, atI_3, atI_4, atI_map, tyChk_lst, lo_non, lo_bl, lo_int, lo_str, lo_lst, lo_tup, lo_ins, loS_nil, loS_cons, loF_nil, loF_cons, loC_lst, loC_ins, loS_app, insOf_ins, add_ll', add_tt', add_ss', mkL_ok', mkT_ok', mkC_ok', len_str', ne_ss, imul_ib, iadd_ii, ↓wp_sAug, isN_non, isN_int, isN_str, isN_tup, isN_lst, notN_non, notN_int, notN_str, notN_tup, notN_lst, isi_str_non, isi_str_bl, isi_str_int, isi_str_str, isi_str_lst, isi_str_tup, isi_str_dct, isi_int_non, isi_int_bl, isi_int_int, isi_int_str, isi_int_lst, isi_int_tup, isi_int_dct, isi_bool_non, isi_bool_bl, isi_bool_int, isi_bool_str, isi_bool_lst, isi_bool_tup, isi_bool_dct, isi_list_non, isi_list_bl, isi_list_int, isi_list_str, isi_list_lst, isi_list_tup, isi_list_dct, isi_tuple_non, isi_tuple_bl, isi_tuple_int, isi_tuple_str, isi_tuple_lst, isi_tuple_tup, isi_tuple_dct, isi_dict_non, isi_dict_bl, isi_dict_int, isi_dict_str, isi_dict_lst, isi_dict_tup, isi_dict_dct, ↓insK_some, ↓optK_some, ↓cinK_app, ↓wp_eFldK, ↓wp_eMethK, ↓wp_sFldK, look_eq, look_ne, look_nil, put_nil, put_eq, put_ne, ↓blK_ok, ↓intK_ok, ↓strK_ok, ↓lstK_lst, ↓lstK_ro, ↓tupK_ok, ↓sqK_lst, ↓sqK_ro, ↓sqK_tup, ↓oneK_ok, ↓twoK_ok, ↓rngK_ok, ↓andK_true, ↓wk_tOf, ↓wk_eAnd, ↓wk_eOr, ↓wk_eNot, ↓wk_eChain, ↓wk_eM, ↓wk_oSome, ↓wk_iL, ↓wk_iT, ↓wk_iS, ↓wk_iR1, ↓wk_iR2, ↓wk_iEA, ↓wk_gsub, ↓lcK_ok, ↓lfK_ok, ↓lfK_fz, ↓szK_ok, ↓wk_append, ↓wk_reverse, ↓wk_clear, ↓wk_ixc, ↓frK_ok, ↓frK_fz, ↓wk_frz, ↓wk_frzL, ↓wk_lenc, ↓wk_setc, ↓wk_tyc, get_at0, get_at1, get_at2, get_at3, set_at0, set_at1, set_at2, set_at3, ↓wp_itemF, filterMap_some', filterMap_if, ↓itK_none, ↓itK_some, ↓wp_compN, ↓wp_forN, ↓wp_forC, ev_1, ev_2, ev_3, ev_4, ev_6, ev_7, ev_8, ev_9, ev_10, ev_11, ev_12, ev_13, ev_14, ev_15, ev_16, ev_17, ev_18, ev_19, ev_20, ev_21, ev_22, ev_23, ev_24, ev_25, ev_26, ev_27, ev_28, ev_29, ev_30, ev_31, ev_32, ev_33, ev_34, ev_35, ev_37, ev_38, ev_39, ev_40, ev_41, ev_42, ev_43, ev_44, ev_45, ev_46, ev_47, ev_48, ev_49, ev_50, ev_51, ev_54, ev_55, ev_56, ev_57, ev_58, ev_envOf, ev_wipe0, ev_wipe1, ev_rep0, ev_rep1, pick_cons, pick_nil, ↓szS_ok, ↓wk_jsN, ↓wk_js, fmt_s, fmt_i, str_i, str_s, int1_i, int1_b, isi_own, ↓wk_iZ, ↓wk_iV, zip_map, rev_lst, ↓par3_ok, ↓wp_sPar3, ↓truK_t, ↓truK_f, ↓wp_eOrT, truD_non, truD_bl, truD_int, truD_tup, truD_lst, ↓wk_slc, beqI_f, beqI_t, isub_ii, ifdiv_ib, ↓gwp_star1, ↓gwp_star0, lo_jars, lo_strs, lo_jD, lo_own, lo_rowL, lo_sh, ↓lstK_rowL, ↓sqK_rowL, ↓tupK_own, len_rowL, len_own, ix_rowL, ix_own, sl_rowL, tup_rowL, list_rowL, list_own, at_rd, at_rw, ↓frK_fzr, ↓lfK_fzr, lo_prs, lo_spD, lo_prD, ↓lstK_spD, ↓sqK_spD, len_spD, ix_spD, $xs,*])
theorem lastmore_eq (h : JsB B ts) (hB : B ≤ 10 ^ 150) (t0 : 0 ≤ t) (t1 : t < 10 ^ 150) (ha : ts[ts.length - 1]? = some a) (g0 : 0 ≤ u) (gB : a.2.2 + u < B) : denwith_last_more [shD (.rw ts t), .int u] st = .ok (rowL (addJ (ts.length - 1) u ts)) st := by
  refine Res.eq_of_wp ?_
  unfold denwith_last_more
  have h12 := h.le
  have hp := h.pos
  have en : L2.atI ((nms ts).map D.str) (-1) = some (.str a.1) := by
    have hl : ts ≠ [] := by intro e; rw [e] at hp; simp at hp
    have hg : ts.getLast hl = a := by
      rw [List.getLast_eq_getElem]
      exact (List.getElem?_eq_some_iff.mp ha).2
    have e : ts = ts.dropLast ++ [a] := by rw [← hg]; exact (List.dropLast_concat_getLast hl).symm
    conv => lhs; rw [e]
    simp only [nms, List.map_append, List.map_cons, List.map_nil]
    exact Den.atI_last
  have g := h.g0 a (List.mem_of_getElem? ha)
  have em := fun st => more_eq (st := st) (s := .rw ts t) (m := u) h trivial hB ⟨t0, t1⟩ ha (by omega) gB
  have er : Shp.add (ts.length - 1) u (.rw ts t) = .rw (addJ (ts.length - 1) u ts) t := rfl
  rw [er] at em
  simp! only [names_eq hasRw (show ts.length ≤ 1000 by omega), en, em, jars_eq hasRw]
theorem want_row_eq : denwant_row [shD (.rw ts t)] st = .ok .non st := by
  refine Res.eq_of_wp ?_
  unfold denwant_row
  have e : isi2 (isCl 23) (isaC [(22, false), (23, true)]) [shD (.rw ts t), .cls 23] st = .ok (.bl true) st := isi_own rfl
  simp! only [e]
/-- two rows put together -/
def putR (r s : List J3 × Int) : List J3 × Int := (addJ (r.1.length - 1) s.2 r.1 ++ s.1, r.2)
theorem putR_ok {r s : List J3 × Int} (h : JsB B r.1) (h' : JsB B s.1) (t0 : 0 ≤ s.2) (t1 : s.2 < M) (hM : B + M ≤ 10 ^ 150) (M0 : 0 ≤ M) (dj : ∀ x ∈ nms r.1, x ∉ nms s.1) (hl : r.1.length + s.1.length ≤ 12) : JsB (B + M) (putR r s).1 := by
  have hp := h.pos
  obtain ⟨a, ha⟩ : ∃ a, r.1[r.1.length - 1]? = some a := ⟨_, List.getElem?_eq_getElem (by omega)⟩
  have ma := List.mem_of_getElem? ha
  have g0 := h.g0 a ma
  have gB := h.gB a ma
  have hj : JsB (B + M) (addJ (r.1.length - 1) s.2 r.1) := addJ_ok (h.mono (by omega)) ha (by omega) (by omega)
  have hs : JsB (B + M) s.1 := h'.mono (by omega)
  have en : nms (addJ (r.1.length - 1) s.2 r.1) = nms r.1 := nb_nms addJ_nb
  unfold putR
  refine ⟨fun t ht => ?_, fun t ht => ?_, fun t ht => ?_, fun t ht => ?_, fun t ht => ?_, ?_, ?_, ?_⟩
  · rcases List.mem_append.mp ht with q | q
    · exact hj.lb t q
    · exact hs.lb t q
  · rcases List.mem_append.mp ht with q | q
    · exact hj.b2 t q
    · exact hs.b2 t q
  · rcases List.mem_append.mp ht with q | q
    · exact hj.b6 t q
    · exact hs.b6 t q
  · rcases List.mem_append.mp ht with q | q
    · exact hj.g0 t q
    · exact hs.g0 t q
  · rcases List.mem_append.mp ht with q | q
    · exact hj.gB t q
    · exact hs.gB t q
  · have e : nms (addJ (r.1.length - 1) s.2 r.1 ++ s.1) = nms r.1 ++ nms s.1 := by
      rw [← en]; simp [nms]
    show (nms (addJ (r.1.length - 1) s.2 r.1 ++ s.1)).Nodup
    rw [e, List.nodup_append]
    exact ⟨h.nd, h'.nd, fun a ha b hb e => dj a ha (e ▸ hb)⟩
  · show 1 ≤ (addJ (r.1.length - 1) s.2 r.1 ++ s.1).length
    rw [List.length_append, addJ_len]; omega
  · show (addJ (r.1.length - 1) s.2 r.1 ++ s.1).length ≤ 12
    rw [List.length_append, addJ_len]; omega
theorem put_eq {r s : List J3 × Int} (h : JsB B r.1) (h' : JsB B s.1) (t0 : 0 ≤ s.2) (t1 : s.2 < M) (hM : B + M ≤ 10 ^ 150) (M0 : 0 ≤ M) (dj : ∀ x ∈ nms r.1, x ∉ nms s.1) (hl : r.1.length + s.1.length ≤ 12) (r0 : 0 ≤ r.2) (r1 : r.2 < 10 ^ 150) :
    denput [shD (.rw r.1 r.2), shD (.rw s.1 s.2)] st = .ok (shD (.rw (putR r s).1 (putR r s).2)) st := by
  refine Res.eq_of_wp ?_
  unfold denput
  have hp := h.pos
  have hok := putR_ok h h' t0 t1 hM M0 dj hl
  obtain ⟨a, ha⟩ : ∃ a, r.1[r.1.length - 1]? = some a := ⟨_, List.getElem?_eq_getElem (by omega)⟩
  have ma := List.mem_of_getElem? ha
  have gB := h.gB a ma
  obtain ⟨ts, t⟩ := r
  obtain ⟨us, u⟩ := s
  simp only at *
  have hok' : JsB (B + M) (addJ (ts.length - 1) u ts ++ us) := hok
  have lm := fun st => lastmore_eq (st := st) (h.mono (show B ≤ B + M by omega)) hM r0 r1 ha t0 (by omega)
  have ad : ∀ st, addD (rowL (addJ (ts.length - 1) u ts)) (rowL us) st = .ok (rowL (addJ (ts.length - 1) u ts ++ us)) st := fun st => by
    have := add_ll' (st := st) (a := (addJ (ts.length - 1) u ts).map jD) (b := us.map jD) (by simp only [List.length_map, addJ_len]; omega)
    rw [← List.map_append] at this
    exact this
  simp! only [want_row_eq, names_eq hasRw (show us.length ≤ 1000 by omega)]
  refine wp_forL (fun ys env s => ∃ e2, env = [some (shD (.rw ts t)), some (shD (.rw us u)), e2] ∧ s = st) ⟨none, rfl, rfl⟩ ?_ ?_
  · rintro ys x zs env s e ⟨e2, rfl, rfl⟩
    have hx : x ∈ nms us := by rw [e]; simp
    have hc : (nms ts).contains x = false := by
      rw [Bool.eq_false_iff]
      intro q
      exact dj x (by simpa using q) hx
    simp! only [has_eq hasRw (show ts.length ≤ 1000 by omega) h.lbn (h'.lbn x hx).fit, hc]
  · rintro env s ⟨e2, rfl, rfl⟩
    simp! only [↓le_yes, ↓le_no, ↓lt_yes, ↓lt_no, ↓eq_yes, ↓eq_no, dle_yes, dle_no, dlt_yes, dlt_no, lenO_eq hasRw (show ts.length ≤ 500 by omega), lenO_eq hasRw (show us.length ≤ 500 by omega), tray_eq hasRw rfl, lm, jars_eq hasRw, ad, mkRw hok' hM r0 r1 JArg.ofRow, putR]
theorem Sg.tjoin {s : Str} {ts : List Str} (h : Sg s) (h' : ∀ t ∈ ts, Sg t) : Sg (Txt.join s ts) := by
  rw [TL.join_eq]; exact Sg.join h h'
theorem Sg.jtx (h : JsB B ts) : Sg (jtx ts) := by
  unfold Q.jtx
  refine Sg.tjoin (Sg.str _) fun y hy => ?_
  obtain ⟨t, ht, rfl⟩ := List.mem_map.mp hy
  refine (Sg.str _).app (Sg.tjoin (Sg.str _) fun z hz => ?_)
  simp only [List.mem_cons, List.not_mem_nil, or_false] at hz
  rcases hz with rfl | rfl | rfl
  · exact Sg.lb (h.lb t ht)
  · exact Sg.str _
  · exact Sg.str _
/-- a row that this law may keep -/
structure Ok (B : Int) (n : Nat) (r : List J3 × Int) : Prop where
  js : JsB B r.1
  le : r.1.length ≤ n
  t0 : 0 ≤ r.2
  t1 : r.2 < 10 ^ 60
abbrev Dj (r s : List J3 × Int) : Prop := ∀ x ∈ nms r.1, x ∉ nms s.1
variable {r s q : List J3 × Int} {n : Nat}
theorem Ok.put {k : Nat} (h : Ok B n r) (h' : Ok B k s) (d : Dj r s) (hB : B ≤ 10 ^ 140) (hn : n + k ≤ 12) : Ok (B + 10 ^ 60) (n + k) (putR r s) := by
  have e1 : (10 : Int) ^ 140 + 10 ^ 60 ≤ 10 ^ 150 := by decide +kernel
  have := h.le
  have := h'.le
  exact ⟨putR_ok h.js h'.js h'.t0 h'.t1 (by omega) (by decide) d (by omega), by simp only [putR, List.length_append, addJ_len]; omega, h.t0, h.t1⟩
theorem Ok.mono (h : Ok B n r) (hB : B ≤ M) : Ok M n r := ⟨h.js.mono hB, h.le, h.t0, h.t1⟩
end
end Q

namespace Q
open PySem PySem.Spec PyProof.Rows L2 Den
/-- a shape with so many grains at the most in all -/
structure ShB (M : Int) (s : Shp) : Prop where
  ok : JsB (M + 1) s.js
  hd : Hd s
  tr : ∀ t, s.tr = some t → 0 ≤ t
  all : allG s ≤ M
section
variable {st : Store} {ts us : List J3} {B M : Int} {s s' : Shp} {x y : Str} {d jd : D} {o : Option Int} {a b : J3} {n m k : Int} {i : Nat}
theorem mem_le_sum (g : ∀ t ∈ ts, 0 ≤ t.2.2) (ha : a ∈ ts) : a.2.2 ≤ sumG ts := by
  induction ts with
  | nil => cases ha
  | cons t ts ih =>
    have e : sumG (t :: ts) = t.2.2 + sumG ts := by simp [sumG]
    have t0 := g t (List.mem_cons_self ..)
    have s0 := (sumG_0 fun u hu => g u (List.mem_cons_of_mem _ hu)).1
    rw [e]
    rcases List.mem_cons.mp ha with rfl | ha
    · omega
    · have := ih (fun u hu => g u (List.mem_cons_of_mem _ hu)) ha; omega
theorem sumG_add (ha : ts[i]? = some a) : sumG (addJ i m ts) = sumG ts + m := by
  rw [addJ_at ha]
  induction ts generalizing i with
  | nil => simp at ha
  | cons t ts ih =>
    cases i with
    | zero => simp only [List.getElem?_cons_zero, Option.some.injEq] at ha; subst ha; simp [sumG]; omega
    | succ i =>
      simp only [List.getElem?_cons_succ] at ha
      have := ih ha
      simp [sumG] at this ⊢; omega
theorem allG_add (ha : s.js[i]? = some a) : allG (s.add i m) = allG s + m := by
  cases s with
  | rd ts => simp only [allG, Shp.add, Shp.js, Shp.tr] at *; rw [sumG_add ha]; omega
  | rw ts t => simp only [allG, Shp.add, Shp.js, Shp.tr] at *; rw [sumG_add ha]; omega
theorem allG_addL (h : s.js[i]? = some a) : allG (s.addL i m) = allG s + m := by
  have hi := (List.getElem?_eq_some_iff.mp h).1
  cases s with
  | rd ts =>
    simp only [allG, Shp.addL, Shp.js, Shp.tr] at *
    rw [sumG_add (a := ts[(i + (ts.length - 1)) % ts.length]'(Nat.mod_lt _ (by omega))) (List.getElem?_eq_getElem _)]; omega
  | rw ts t =>
    simp only [Shp.js] at hi
    by_cases z : i = 0
    · simp only [allG, Shp.addL, if_pos z, Shp.js, Shp.tr, Option.getD_some]; omega
    · simp only [allG, Shp.addL, if_neg z, Shp.js, Shp.tr, Option.getD_some]
      rw [sumG_add (a := ts[i - 1]'(by omega)) (List.getElem?_eq_getElem _)]; omega
theorem ShB.bd (h : ShB M s) : (∀ t ∈ s.js, t.2.2 ≤ M) ∧ (∀ t, s.tr = some t → t ≤ M) := by
  have a := h.all
  have g := (sumG_0 h.ok.g0).1
  unfold allG at a
  refine ⟨fun t ht => ?_, fun t e => ?_⟩
  · have := mem_le_sum h.ok.g0 ht
    cases e : s.tr with
    | none => rw [e] at a; simp at a; omega
    | some u => rw [e] at a; have := h.tr u e; simp at a; omega
  · rw [e] at a; simp at a; omega
theorem ShB.of (ok : JsB B s.js) (hd : Hd s) (tr : ∀ t, s.tr = some t → 0 ≤ t) (all : allG s ≤ M) : ShB M s := by
  have g := (sumG_0 ok.g0).1
  refine ⟨⟨ok.lb, ok.b2, ok.b6, ok.g0, fun t ht => ?_, ok.nd, ok.pos, ok.le⟩, hd, tr, all⟩
  have := mem_le_sum ok.g0 ht
  unfold allG at all
  cases e : s.tr with
  | none => rw [e] at all; simp at all; omega
  | some u => rw [e] at all; have := tr u e; simp at all; omega
theorem ShB.drop (h : ShB M s) (ha : s.js[i]? = some a) (m0 : 0 ≤ m) : ShB (M + m) (s.add i m) := by
  have b := h.bd.1 a (List.mem_of_getElem? ha)
  have g0 := h.ok.g0 a (List.mem_of_getElem? ha)
  refine ShB.of (B := M + m + 1) ?_ (h.hd.of_nb (by rw [add_js]; exact addJ_nb) (by rw [add_tr])) (fun t e => h.tr t (by rw [← e, add_tr])) (by rw [allG_add ha]; have := h.all; omega)
  rw [add_js]
  exact addJ_ok (h.ok.mono (by omega)) ha (by omega) (by omega)
theorem ShB.sp (h : ShB M s) (ha : s.js[i]? = some a) (k1 : 1 ≤ k) (kM : k ≤ mst s a) : ShB M (spS i k a s) := by
  have ma := List.mem_of_getElem? ha
  obtain ⟨c0, cc⟩ := mst_le h.ok ha k1 kM
  have a2 := h.ok.b2 a ma
  obtain ⟨ok1, ⟨a', ha', e1, e2, q0, q1⟩, ok2⟩ := spS_ok (h.ok.mono (show M + 1 ≤ M + k + 1 by omega)) ha k1 kM (fun t ht => by have := h.bd.1 t ht; omega)
  have kb : k ≤ k * a.2.1 := by
    have := Int.mul_le_mul_of_nonneg_left (show 1 ≤ a.2.1 by omega) (show 0 ≤ k by omega)
    omega
  refine ShB.of ok2 (h.hd.of_nb spS_nb spS_none) (fun t e => ?_) ?_
  · cases s with
    | rd ts => simp [spS_rd, Shp.tr] at e
    | rw ts u =>
      have := h.tr u rfl
      rw [spS_rw] at e
      split at e <;> simp [Shp.tr] at e <;> omega
  · have : allG (spS i k a s) = allG s + k + -k * a.2.1 := by
      unfold spS; rw [allG_add ha', allG_addL ha]
    rw [this, Int.neg_mul]
    have := h.all; omega
end
section
variable {C : Store} {p : Nat} {st s1 : Store} {Q : D → Store → Prop} {E : Xc → Store → Prop} {s : Shp} {M : Int}
end
/-! ### drops, one behind another -/
def app (l : List (Str × Int)) (s : Shp) : Shp := l.foldl (fun s d => s.add (at1 d.1 s.js) d.2) s
section
variable {st : Store} {ts us : List J3} {B M : Int} {s s' : Shp} {a b : J3} {n m k : Int} {i j : Nat} {l : List (Str × Int)}
end
section
variable {C : Store} {p : Nat} {st : Store} {Q : D → Store → Prop} {E : Xc → Store → Prop} {N : Den.Env → Store → Prop} {P : SRes → Prop} {f : Shp} {o1 : Option D}
end
end Q

namespace Q
open PySem PySem.Spec PyProof.Rows L2 Den
section
variable {st : Store} {ts us : List J3} {B M a b : Int} {s s' : Shp} {n m k : Int} {i j : Nat} {x : Str} {tr : Int}
end
section
variable {C : Store} {p : Nat} {st : Store} {Q : D → Store → Prop} {E : Xc → Store → Prop}
end
end Q

namespace Q
open PySem PySem.Spec PyProof.Rows L2 Den
/-! ### leading, as plain deeds -/
section
variable {ts us zs : List J3} {t u : J3} {b g B M : Int} {n m : Nat}
theorem nb_len : (nb ts).length = ts.length := by simp [nb]
theorem len_nb (e : nb us = nb ts) : us.length = ts.length := by rw [← nb_len, e, nb_len]
/-- each jar's grains are at most the number -/
theorem grain_le (h2 : ∀ t ∈ ts, 2 ≤ t.2.1) (h : ∀ t ∈ ts, 0 ≤ t.2.2) : ∀ t ∈ ts, t.2.2 ≤ wor ts := by
  induction ts with
  | nil => simp
  | cons u us ih =>
    have p := prod_pos fun t ht => h2 t (List.mem_cons_of_mem u ht)
    have w := wor_0 (fun t ht => h2 t (List.mem_cons_of_mem u ht)) (fun t ht => h t (List.mem_cons_of_mem u ht))
    have u0 := h u (List.mem_cons_self ..)
    have m := Int.mul_le_mul_of_nonneg_left p u0
    intro t ht
    rw [wor_cons]
    rcases List.mem_cons.mp ht with rfl | q
    · omega
    · have := ih (fun t ht => h2 t (List.mem_cons_of_mem u ht)) (fun t ht => h t (List.mem_cons_of_mem u ht)) t q
      have := Int.mul_nonneg u0 (show 0 ≤ prodB us by omega)
      omega
theorem JsB.re (h : JsB B ts) (hp : (nb us).Perm (nb ts)) (g0 : ∀ t ∈ us, 0 ≤ t.2.2) (w : wor us < M) : JsB M us := by
  have key : ∀ u ∈ us, ∃ t ∈ ts, t.1 = u.1 ∧ t.2.1 = u.2.1 := fun u hu => by
    have : (u.1, u.2.1) ∈ nb ts := hp.mem_iff.mp (List.mem_map.mpr ⟨u, hu, rfl⟩)
    obtain ⟨t, ht, e⟩ := List.mem_map.mp this
    exact ⟨t, ht, (Prod.mk.inj e).1, (Prod.mk.inj e).2⟩
  have h2 : ∀ u ∈ us, 2 ≤ u.2.1 := fun u hu => by obtain ⟨t, ht, _, e⟩ := key u hu; rw [← e]; exact h.b2 t ht
  have en : ∀ l : List J3, nms l = (nb l).map (·.1) := fun l => by simp [nms, nb]
  have el : us.length = ts.length := by rw [← nb_len, hp.length_eq, nb_len]
  refine ⟨fun u hu => ?_, h2, fun u hu => ?_, g0, fun u hu => Int.lt_of_le_of_lt (grain_le h2 g0 u hu) w, ?_, by rw [el]; exact h.pos, by rw [el]; exact h.le⟩
  · obtain ⟨t, ht, e, _⟩ := key u hu; rw [← e]; exact h.lb t ht
  · obtain ⟨t, ht, _, e⟩ := key u hu; rw [← e]; exact h.b6 t ht
  · rw [en]
    exact (hp.map _).nodup_iff.mpr (by rw [← en]; exact h.nd)
end
/-! ### alike modulo m -/
def Cm (m a b : Int) : Prop := ∃ k, a = b + m * k
section
variable {m a b c d e : Int}
theorem Cm.refl : Cm m a a := ⟨0, by simp⟩
theorem Cm.symm (h : Cm m a b) : Cm m b a := by obtain ⟨k, rfl⟩ := h; exact ⟨-k, by grind⟩
theorem Cm.trans (h : Cm m a b) (h' : Cm m b c) : Cm m a c := by obtain ⟨k, rfl⟩ := h; obtain ⟨l, rfl⟩ := h'; exact ⟨l + k, by grind⟩
theorem Cm.mul (h : Cm m a b) (h' : Cm m c d) : Cm m (a * c) (b * d) := by obtain ⟨k, rfl⟩ := h; obtain ⟨l, rfl⟩ := h'; exact ⟨b * l + k * d + m * k * l, by grind⟩
theorem Cm.mod : Cm m (a % m) a := ⟨-(a / m), by have := Int.mul_ediv_add_emod a m; grind⟩
theorem Cm.zero (h : Cm m a b) : (a - b) % m = 0 := by obtain ⟨k, rfl⟩ := h; rw [show b + m * k - b = m * k by omega]; exact Int.mul_emod_right ..
theorem Cm.one : Cm (m - 1) m 1 := ⟨1, by omega⟩
theorem Cm.of (h : a = b) : Cm m a b := h ▸ .refl
end
section
variable {ts us zs : List J3} {t u : J3} {b g B M : Int} {n m : Nat}
/-! calm ones stay calm -/
theorem nb_b2 (e : nb us = nb ts) (h2 : ∀ t ∈ ts, 2 ≤ t.2.1) : ∀ t ∈ us, 2 ≤ t.2.1 := fun u hu => by
  obtain ⟨w, hw, _, e⟩ := nb_mem e hu
  rw [← e]; exact h2 w hw
/-! the numbers -/
end
end Q

namespace Q
open PySem PySem.Spec PyProof.Rows L2 Den
section
variable {st : Store} {ts us : List J3} {B M a b m n : Int} {t : J3} {x : Str}
end
end Q

namespace Q
open PySem PySem.Spec PyProof.Rows L2 Den
section
variable {ts us : List J3} {B M a b g m n : Int} {t : J3} {x : Str}
/-- of the same names and bases, with other grains -/
theorem JsB.nb (h : JsB B ts) (e : nb us = nb ts) (g0 : ∀ t ∈ us, 0 ≤ t.2.2) (gM : ∀ t ∈ us, t.2.2 < M) : JsB M us := by
  have el := len_nb e
  refine ⟨fun u hu => ?_, nb_b2 e h.b2, fun u hu => ?_, g0, gM, by rw [nb_nms e]; exact h.nd, by rw [el]; exact h.pos, by rw [el]; exact h.le⟩
  · obtain ⟨w, hw, e1, _⟩ := nb_mem e hu; rw [← e1]; exact h.lb w hw
  · obtain ⟨w, hw, _, e1⟩ := nb_mem e hu; rw [← e1]; exact h.b6 w hw
/-! ### far ones, by the number -/
end
end Q

namespace Q
open PySem PySem.Spec PyProof.Rows L2 Den
section
variable {st : Store} {ts us s : List J3} {B M a b g c m n tr : Int} {t : J3} {x : Str} {i j k : Nat}
theorem JsB.take (h : JsB B ts) (h0 : 1 ≤ i) : JsB B (ts.take i) := by
  have sub : ∀ t ∈ ts.take i, t ∈ ts := fun t ht => List.mem_of_mem_take ht
  have hp := h.pos
  refine ⟨fun t ht => h.lb t (sub t ht), fun t ht => h.b2 t (sub t ht), fun t ht => h.b6 t (sub t ht), fun t ht => h.g0 t (sub t ht), fun t ht => h.gB t (sub t ht), ?_, by simp; omega, by have := h.le; simp; omega⟩
  have : nms (ts.take i) = (nms ts).take i := by simp [nms]
  rw [this]; exact h.nd.sublist (List.take_sublist ..)
theorem JsB.drop (h : JsB B ts) (h0 : i < ts.length) : JsB B (ts.drop i) := by
  have sub : ∀ t ∈ ts.drop i, t ∈ ts := fun t ht => List.mem_of_mem_drop ht
  refine ⟨fun t ht => h.lb t (sub t ht), fun t ht => h.b2 t (sub t ht), fun t ht => h.b6 t (sub t ht), fun t ht => h.g0 t (sub t ht), fun t ht => h.gB t (sub t ht), ?_, by simp; omega, by have := h.le; simp; omega⟩
  have : nms (ts.drop i) = (nms ts).drop i := by simp [nms]
  rw [this]; exact h.nd.sublist (List.drop_sublist ..)
/-! ### cut, closed, parted -/
end
end Q

namespace Q
open PySem PySem.Spec PyProof.Rows L2 Den
section
variable {st : Store} {ts us s : List J3} {B M g c m n tr : Int} {t a b : J3} {x : Str} {i j k : Nat}
end
end Q

namespace Q
open PySem PySem.Spec PyProof.Rows L2 Den
section
variable {ts us : List J3} {t u : J3} {v c k n m : Int}
end
end Q

namespace Q
open PySem PySem.Spec PyProof.Rows L2 Den
/-! ### choices of grains, the last jar's ahead -/
def incN : List Nat → List Nat
  | [] => []
  | x :: xs => (x + 1) :: xs
def en : Nat → Nat → List (List Nat)
  | 0, 0 => [[]]
  | 0, _ + 1 => []
  | k + 1, 0 => (en k 0).map (0 :: ·)
  | k + 1, g + 1 => (en k (g + 1)).map (0 :: ·) ++ (en (k + 1) g).map incN
termination_by k g => (k, g)
section
variable {k g x y : Nat} {xs ys : List Nat} {ws vs : List Int} {w L t n : Int} {rd : Bool}
end
end Q

namespace Q
open PySem PySem.Spec PyProof.Rows L2 Den
section
variable {ts us : List J3} {t u : J3} {v c n m L q : Int} {xs : List Nat} {ws : List Int} {rd : Bool} {g lo : Nat}
end
end Q

namespace Q
open PySem PySem.Spec PyProof.Rows L2 Den
section
variable {st : Store} {ts us : List J3} {B B' v a b m : Int} {s s' : Shp}
end
end Q

namespace Q
open PySem PySem.Spec PyProof.Rows L2 Den
section
variable {st : Store} {ts us : List J3} {B B' v a b m : Int} {s s' : Shp}
end
end Q

namespace Q
open PySem PySem.Spec PyProof.Rows L2 Den
section
variable {st : Store} {ts us : List J3} {B : Int} {x y : Str} {d jd : D} {o : Option Int} {a b : J3}
end
section
variable {C : Store} {p : Nat} {st : Store} {Q : D → Store → Prop} {E : Xc → Store → Prop}
end
/-! ### by hand -/
end Q

namespace Q
open PySem PySem.Spec PyProof.Rows L2 Den
section
variable {st : Store} {ts us : List J3} {B : Int} {x y : Str} {d jd : D} {o : Option Int} {a b : J3}
end
section
variable {C : Store} {p : Nat} {st : Store} {Q : D → Store → Prop} {E : Xc → Store → Prop} {N : Den.Env → Store → Prop} {P : SRes → Prop}
end
/-! ### by hand -/
end Q

namespace Q
open PySem PySem.Spec PyProof.Rows L2 Den
section
variable {st : Store} {ts us s : List J3} {B M g c m n tr : Int} {t a b : J3} {x : Str} {i j k : Nat}
end
end Q

namespace Q
open PySem PySem.Spec PyProof.Rows L2 Den
section
variable {st : Store} {ts us s : List J3} {B M g c m n tr : Int} {t a b : J3} {x : Str} {i j k : Nat}
end
end Q

namespace Q
open PySem PySem.Spec PyProof.Rows L2 Den
/-! ### deeds -/
inductive Dd where
  | ex (i : Nat)
  | jn (i : Nat)
  | dv (i : Nat) (p : Int)
def gtJ (us : List J3) (i : Nat) : J3 := us[i]?.getD ("", 0, 0)
def DdOk (y : Str) (ts : List J3) (o : Option Int) : Dd → Prop
  | .ex i => i < ts.length ∧ HasRo ts o i
  | .jn i => i < ts.length ∧ HasRo ts o i ∧ (gtJ ts i).2.1 * (gtJ ts ((i + 1) % ts.length)).2.1 ≤ 1000000
  | .dv i p => i < ts.length ∧ 2 ≤ p ∧ p < (gtJ ts i).2.1 ∧ (gtJ ts i).2.1 % p = 0 ∧ Lb y ∧ y ∉ nms ts ∧ ts.length ≤ 11
/-! ### a part replaced -/
structure SegOk (sg : List J3 → List J3) (x : List J3) : Prop where
  w : ∀ x', nb x' = nb x → wor (sg x') = wor x'
  p : ∀ x', nb x' = nb x → prodB (sg x') = prodB x'
  n : ∀ x', nb x' = nb x → nb (sg x') = nb (sg x)
  c : ∀ x', nb x' = nb x → Calm x' → Calm (sg x')
section
variable {st : Store} {ts us vs A C M x : List J3} {B B' p t u : Int} {y : Str} {o o' : Option Int} {a b : J3} {i j k : Nat} {d : Dd} {sg : List J3 → List J3}
end
end Q

namespace Q
open PySem PySem.Spec PyProof.Rows L2 Den
section
variable {st : Store} {ts us vs A C M x : List J3} {B B' p t u : Int} {y : Str} {o o' : Option Int} {a b : J3} {i j k : Nat} {d : Dd} {sg : List J3 → List J3}
theorem DdOk.nb (e : Q.nb us = Q.nb ts) (eo : o'.isNone = o.isNone) (hd : DdOk y ts o d) : DdOk y us o' d := by
  have el := len_nb e
  have eg : ∀ i, (gtJ us i).2.1 = (gtJ ts i).2.1 := fun i => by
    have := congrArg (fun l => (l[i]?.map (·.2)).getD 0) e
    simp only [Q.nb, List.getElem?_map, Option.map_map] at this
    unfold gtJ
    cases h1 : us[i]? <;> cases h2 : ts[i]? <;> simp [h1, h2] at this ⊢
    · have := (List.getElem?_eq_none_iff.mp h1); have := (List.getElem?_eq_some_iff.mp h2).1; omega
    · have := (List.getElem?_eq_none_iff.mp h2); have := (List.getElem?_eq_some_iff.mp h1).1; omega
    · exact this
  have er : ∀ i, HasRo ts o i → HasRo us o' i := fun i q => by
    refine ⟨by have := q.1; omega, ?_⟩
    rcases q.2 with rfl | q
    · exact .inl (by simpa using eo)
    · exact .inr (by omega)
  cases d with
  | ex i => exact ⟨by have := hd.1; omega, er i hd.2⟩
  | jn i => exact ⟨by have := hd.1; omega, er i hd.2.1, by rw [eg, el, eg]; exact hd.2.2⟩
  | dv i p => exact ⟨by have := hd.1; omega, hd.2.1, by rw [eg]; exact hd.2.2.1, by rw [eg]; exact hd.2.2.2.1, hd.2.2.2.2.1, by rw [nb_nms e]; exact hd.2.2.2.2.2.1, by have := hd.2.2.2.2.2.2; omega⟩
end
end Q

namespace Q
open PySem PySem.Spec PyProof.Rows L2 Den
section
variable {st : Store} {ts us vs A C M x : List J3} {B B' p t u : Int} {y : Str} {o o' : Option Int} {a b : J3} {i j k : Nat} {d : Dd} {sg : List J3 → List J3}
end
end Q

namespace Q
open PySem PySem.Spec PyProof.Rows L2 Den
section
variable {st : Store} {ts us vs A C M x : List J3} {B B' p t u : Int} {y : Str} {o o' : Option Int} {a b : J3} {i j k : Nat} {d : Dd} {sg : List J3 → List J3}
end
end Q

namespace Q
open PySem PySem.Spec PyProof.Rows L2 Den
/-! ### names exchanged, one behind another -/
def sw (i : Nat) (l : List Str) : List Str := match l[i]?, l[i + 1]? with
  | some a, some b => (l.set i b).set (i + 1) a
  | _, _ => l
def go : List Str → List Str → List Str
  | ls, [] => ls
  | ls, w :: ws => go (sw (ls.idxOf w) ls) ws
/-- each of them may be exchanged then, none ahead of low -/
def WOk (low : Nat) : List Str → List Str → Prop
  | _, [] => True
  | ls, w :: ws => w ∈ ls ∧ low ≤ ls.idxOf w ∧ ls.idxOf w + 1 < ls.length ∧ WOk low (sw (ls.idxOf w) ls) ws
def bk : List Str → List Str → List Str
  | _, [] => []
  | ls, w :: ws => bk (sw (ls.idxOf w) ls) ws ++ [ls.getD (ls.idxOf w + 1) ""]
def led : List J3 → List Str → List J3
  | us, [] => us
  | us, w :: ws => led (exch (at1 w us) (at1 w us + 1) us) ws
section
variable {l ls ws vs : List Str} {i j low : Nat} {a b w x : Str} {ts us : List J3} {t : J3} {B : Int} {o : Option Int}
theorem sw_at (ha : l[i]? = some a) (hb : l[i + 1]? = some b) : sw i l = (l.set i b).set (i + 1) a := by simp only [sw, ha, hb]
theorem sw_perm (hi : i + 1 < l.length) : (sw i l).Perm l := by
  have ha : l[i]? = some l[i] := List.getElem?_eq_getElem (by omega)
  have hb : l[i + 1]? = some l[i + 1] := List.getElem?_eq_getElem hi
  rw [List.perm_iff_count]
  intro x
  rw [sw_at ha hb, List.count_set (by simp; omega), List.count_set (by omega)]
  have e1 : (l.set i l[i + 1])[i + 1]'(by simp; omega) = l[i + 1] := by rw [List.getElem_set]; simp
  rw [e1]
  have c1 : (if l[i] == x then 1 else 0) ≤ l.count x := by
    split
    · rename_i h
      exact List.count_pos_iff.mpr ((beq_iff_eq.mp h) ▸ List.getElem_mem _)
    · omega
  by_cases p : (l[i] == x) = true <;> by_cases q : (l[i + 1] == x) = true <;> simp only [p, q, if_true, if_false, Bool.false_eq_true] at c1 ⊢ <;> omega
/-! ### jars led -/
structure Led (ts us : List J3) : Prop where
  len : us.length = ts.length
  sub : ∀ u ∈ us, (u.1, u.2.1) ∈ nb ts
  nd : (nms us).Nodup
  g0 : ∀ u ∈ us, 0 ≤ u.2.2
  w : wor us = wor ts
  pr : prodB us = prodB ts
theorem Led.refl (h : JsB B ts) : Led ts ts := ⟨rfl, fun u hu => List.mem_map.mpr ⟨u, hu, rfl⟩, h.nd, h.g0, rfl, rfl⟩
theorem adj (hi : i + 1 < us.length) : ∃ A C : List J3, ∃ a b : J3, us = A ++ a :: b :: C ∧ A.length = i := by
  refine ⟨us.take i, us.drop (i + 2), us[i], us[i + 1], ?_, by simp; omega⟩
  conv => lhs; rw [← List.take_append_drop i us, List.drop_eq_getElem_cons (by omega), List.drop_eq_getElem_cons hi]
theorem exch_adj {A C : List J3} {a b : J3} : exch A.length (A.length + 1) (A ++ a :: b :: C) = A ++ (b.1, b.2.1, (a.2.2 * b.2.1 + b.2.2) / a.2.1) :: (a.1, a.2.1, (a.2.2 * b.2.1 + b.2.2) % a.2.1) :: C := by
  have ha : (A ++ a :: b :: C)[A.length]? = some a := by simp
  have hb : (A ++ a :: b :: C)[A.length + 1]? = some b := by simp
  rw [exch_eq ha hb]
  simp
theorem nms_adj (hi : i + 1 < us.length) : nms (exch i (i + 1) us) = sw i (nms us) := by
  obtain ⟨A, C, a, b, rfl, rfl⟩ := adj hi
  rw [exch_adj]
  have e1 : (nms (A ++ a :: b :: C))[A.length]? = some a.1 := by simp [nms]
  have e2 : (nms (A ++ a :: b :: C))[A.length + 1]? = some b.1 := by simp [nms]
  rw [sw_at e1 e2]
  have hl : A.length = (A.map (·.1)).length := by simp
  simp only [nms, List.map_append, List.map_cons]
  rw [hl]; simp
theorem Led.step (h2 : ∀ t ∈ ts, 2 ≤ t.2.1) (h : Led ts us) (hi : i + 1 < us.length) : Led ts (exch i (i + 1) us) := by
  have en := nms_adj hi
  have nd : (nms (exch i (i + 1) us)).Nodup := by
    rw [en]; exact (sw_perm (by rw [nms_len]; exact hi)).symm.nodup h.nd
  have hb2 : ∀ u ∈ us, 2 ≤ u.2.1 := fun u hu => by
    obtain ⟨t, ht, e⟩ := List.mem_map.mp (h.sub u hu)
    have := h2 t ht
    simp only [Prod.mk.injEq] at e
    omega
  obtain ⟨A, C, a, b, rfl, rfl⟩ := adj hi
  rw [exch_adj] at nd ⊢
  have ma : a ∈ A ++ a :: b :: C := by simp
  have mb : b ∈ A ++ a :: b :: C := by simp
  have a2 := hb2 a ma
  have b2 := hb2 b mb
  have ag := h.g0 a ma
  have bg := h.g0 b mb
  have X0 : 0 ≤ a.2.2 * b.2.1 + b.2.2 := by have := Int.mul_nonneg ag (show 0 ≤ b.2.1 by omega); omega
  have dm := Int.mul_ediv_add_emod (a.2.2 * b.2.1 + b.2.2) a.2.1
  refine ⟨by rw [← h.len]; simp, fun u hu => ?_, nd, fun u hu => ?_, ?_, ?_⟩
  · simp only [List.mem_append, List.mem_cons] at hu
    rcases hu with q | rfl | rfl | q
    · exact h.sub u (by simp [q])
    · exact h.sub b mb
    · exact h.sub a ma
    · exact h.sub u (by simp [q])
  · simp only [List.mem_append, List.mem_cons] at hu
    rcases hu with q | rfl | rfl | q
    · exact h.g0 u (by simp [q])
    · exact Int.ediv_nonneg X0 (by omega)
    · exact Int.emod_nonneg _ (by omega)
    · exact h.g0 u (by simp [q])
  · rw [← h.w, wor_app, wor_app, prodB_cons, prodB_cons, prodB_cons, prodB_cons, wor_cons, wor_cons, wor_cons, wor_cons, prodB_cons, prodB_cons]
    dsimp only
    generalize (a.2.2 * b.2.1 + b.2.2) / a.2.1 = q at *
    generalize (a.2.2 * b.2.1 + b.2.2) % a.2.1 = r at *
    have e1 : q * (a.2.1 * prodB C) + (r * prodB C + wor C) = (a.2.1 * q + r) * prodB C + wor C := by rw [Int.add_mul, ← Int.mul_assoc, Int.mul_comm q a.2.1, Int.add_assoc]
    have e2 : a.2.2 * (b.2.1 * prodB C) + (b.2.2 * prodB C + wor C) = (a.2.2 * b.2.1 + b.2.2) * prodB C + wor C := by rw [Int.add_mul, ← Int.mul_assoc, Int.add_assoc]
    rw [e1, e2, dm, Int.mul_left_comm b.2.1]
  · rw [← h.pr, prodB_append, prodB_append, prodB_cons, prodB_cons, prodB_cons, prodB_cons]
    dsimp only
    rw [Int.mul_left_comm b.2.1]
theorem Led.calm (h2 : ∀ t ∈ us, 2 ≤ t.2.1) (c : Calm us) (hi : i + 1 < us.length) : Calm (exch i (i + 1) us) := by
  obtain ⟨A, C, a, b, rfl, rfl⟩ := adj hi
  rw [exch_adj]
  have ma : a ∈ A ++ a :: b :: C := by simp
  have mb : b ∈ A ++ a :: b :: C := by simp
  have a2 := h2 a ma
  have b2 := h2 b mb
  obtain ⟨ag, aB⟩ := c a ma
  obtain ⟨bg, bB⟩ := c b mb
  have X0 : 0 ≤ a.2.2 * b.2.1 + b.2.2 := by have := Int.mul_nonneg ag (show 0 ≤ b.2.1 by omega); omega
  have X1 : a.2.2 * b.2.1 + b.2.2 < b.2.1 * a.2.1 := by
    have := Int.mul_le_mul_of_nonneg_right (show a.2.2 ≤ a.2.1 - 1 by omega) (show 0 ≤ b.2.1 by omega)
    rw [Int.sub_mul, Int.one_mul, Int.mul_comm a.2.1] at this
    omega
  intro u hu
  simp only [List.mem_append, List.mem_cons] at hu
  rcases hu with q | rfl | rfl | q
  · exact c u (by simp [q])
  · exact ⟨Int.ediv_nonneg X0 (by omega), Int.ediv_lt_of_lt_mul (by omega) X1⟩
  · exact ⟨Int.emod_nonneg _ (by omega), Int.emod_lt_of_pos _ (by omega)⟩
  · exact c u (by simp [q])
theorem Led.go (h2 : ∀ t ∈ ts, 2 ≤ t.2.1) (h : Led ts us) (hw : WOk low (nms us) ws) : Led ts (led us ws) ∧ nms (led us ws) = Q.go (nms us) ws := by
  induction ws generalizing us with
  | nil => exact ⟨h, rfl⟩
  | cons w ws ih =>
    obtain ⟨hm, hl, hi, hw⟩ := hw
    have hi' : at1 w us + 1 < us.length := by rw [nms_len] at hi; exact hi
    have hs := h.step h2 hi'
    have en := nms_adj hi'
    have q := ih hs (by rw [en]; exact hw)
    rw [en] at q
    exact q
theorem gr_le (h2 : ∀ t ∈ us, 2 ≤ t.2.1) (g : ∀ t ∈ us, 0 ≤ t.2.2) (ht : t ∈ us) : t.2.2 ≤ wor us := by
  induction us with
  | nil => simp at ht
  | cons u us ih =>
    have h2' : ∀ t ∈ us, 2 ≤ t.2.1 := fun u hu => h2 u (List.mem_cons_of_mem _ hu)
    have g' : ∀ t ∈ us, 0 ≤ t.2.2 := fun u hu => g u (List.mem_cons_of_mem _ hu)
    have p := prod_pos h2'
    have w0 := wor_0 h2' g'
    have gu := g u (List.mem_cons_self ..)
    rw [wor_cons]
    rcases List.mem_cons.mp ht with rfl | hm
    · have := Int.mul_le_mul_of_nonneg_left p gu
      omega
    · have := ih h2' g' hm
      have := Int.mul_nonneg gu (show 0 ≤ prodB us by omega)
      omega
theorem Led.ok {M : Int} (h : JsB B ts) (q : Led ts us) (hM : wor ts < M) : JsB M us := by
  have key : ∀ u ∈ us, ∃ t ∈ ts, t.1 = u.1 ∧ t.2.1 = u.2.1 := fun u hu => by
    obtain ⟨t, ht, e⟩ := List.mem_map.mp (q.sub u hu)
    simp only [Prod.mk.injEq] at e
    exact ⟨t, ht, e⟩
  have h2 : ∀ u ∈ us, 2 ≤ u.2.1 := fun u hu => by obtain ⟨t, ht, _, e⟩ := key u hu; rw [← e]; exact h.b2 t ht
  refine ⟨fun u hu => ?_, h2, fun u hu => ?_, q.g0, fun u hu => ?_, q.nd, by rw [q.len]; exact h.pos, by rw [q.len]; exact h.le⟩
  · obtain ⟨t, ht, e, _⟩ := key u hu; rw [← e]; exact h.lb t ht
  · obtain ⟨t, ht, _, e⟩ := key u hu; rw [← e]; exact h.b6 t ht
  · have := gr_le h2 q.g0 hu
    have := q.w
    omega
end
end Q

namespace Q
open PySem PySem.Spec PyProof.Rows L2 Den
section
variable {l ls ws vs : List Str} {i j low : Nat} {a b w x : Str} {ts us : List J3} {t : J3} {B : Int} {o : Option Int} {st : Store} {s : Shp}
end
section
variable {C : Store} {p : Nat} {st : Store} {Q : D → Store → Prop} {E : Xc → Store → Prop} {ls : List Str} {low : Nat}
end
end Q

namespace Q
open PySem PySem.Spec PyProof.Rows L2 Den
section
variable {C : Store} {p : Nat} {st : Store} {Q : D → Store → Prop} {E : Xc → Store → Prop} {ls g : List Str} {low : Nat}
end
end Q

namespace Q
open PySem PySem.Spec PyProof.Rows L2 Den
section
variable {ls ws vs : List Str} {low : Nat} {x : Str} {ts us : List J3} {B t : Int} {o : Option Int} {st : Store}
end
end Q

namespace Q
open PySem PySem.Spec PyProof.Rows L2 Den
section
variable {st : Store} {ts us vs A C M x : List J3} {B B' p t u n : Int} {y : Str} {o o' : Option Int} {a b : J3} {i j k : Nat} {d : Dd} {sg : List J3 → List J3}
end
end Q

namespace Q
open PySem PySem.Spec PyProof.Rows L2 Den
section
variable {st : Store} {ts us : List J3} {B B' v a b m t u : Int} {s s' : Shp}
theorem eqv_js : ∀ (ts us : List J3), PyData.eqvAll (pyDs (ts.map jD)) (pyDs (us.map jD)) = decide (ts = us)
  | [], [] => by simp [pyDs, PyData.eqvAll]
  | [], u :: us => by simp [pyDs, PyData.eqvAll]
  | t :: ts, [] => by simp [pyDs, PyData.eqvAll]
  | t :: ts, u :: us => by
    have ih := eqv_js ts us
    obtain ⟨t1, t2, t3⟩ := t
    obtain ⟨u1, u2, u3⟩ := u
    simp only [List.map_cons, pyDs, PyData.eqvAll, jD, pyD, PyData.eqv, ih, Bool.and_true]
    rw [Bool.eq_iff_iff]
    simp only [Bool.and_eq_true, beq_iff_eq, decide_eq_true_eq, List.cons.injEq, Prod.mk.injEq]
theorem eq_gen {m k : Nat} {d e : D} (h : Fd m k d) (h' : Fd m k e) (hk : k ≤ 60) (hl : (pyD d).canLay0 = true) (hl' : (pyD e).canLay0 = true) (hn : ∀ x, d ≠ .str x) : eqD d e st = .ok (.bl (PyData.eqv (pyD d) (pyD e))) st ∧ neD d e st = .ok (.bl (!PyData.eqv (pyD d) (pyD e))) st := by
  have e1 : toPy st d = some (pyD d) := (lf_py _ d h.1).1
  have e2 : toPy st e = some (pyD e) := (lf_py _ e h'.1).1
  have s1 : SeqAt.shaped (pyD d) = true := by
    simp only [SeqAt.shaped, hl, Bool.true_and, decide_eq_true_eq]
    have := h.2.2; omega
  have s2 : SeqAt.shaped (pyD e) = true := by
    simp only [SeqAt.shaped, hl', Bool.true_and, decide_eq_true_eq]
    have := h'.2.2; omega
  constructor
  · unfold eqD
    split
    · exact absurd rfl (hn _)
    · simp only [e1, e2, eqOk, s1, s2, Bool.and_self, if_true]
  · unfold neD
    split
    · exact absurd rfl (hn _)
    · simp only [e1, e2, eqOk, s1, s2, Bool.and_self, if_true]
theorem eq_row (h : JsB B ts) (hB : B ≤ 10 ^ 150) (h' : JsB B' us) (hB' : B' ≤ 10 ^ 150) : eqD (rowL ts) (rowL us) st = .ok (.bl (decide (ts = us))) st := by
  have := (eq_gen (st := st) (rowL_fd h hB) (rowL_fd h' hB') (by decide) (by simp only [rowL, pyD, PyData.canLay0]; exact lays_jars h) (by simp only [rowL, pyD, PyData.canLay0]; exact lays_jars h') (fun x e => by cases e)).1
  rw [this]
  simp only [rowL, pyD, PyData.eqv, eqv_js]
theorem fd_pair (h : JsB B ts) (hB : B ≤ 10 ^ 150) (ht : t.natAbs < 10 ^ 150) : Fd 36098 3 (.tup [rowL ts, .int t]) := by
  refine Fd.tup (m := 18048) (k := 2) (n := 2) (fun d hd => ?_) (by simp)
  simp only [List.mem_cons, List.not_mem_nil, or_false] at hd
  rcases hd with rfl | rfl
  · exact rowL_fd h hB
  · exact (fd_int ht).mono
theorem eq_pair (h : JsB B ts) (hB : B ≤ 10 ^ 150) (h' : JsB B' us) (hB' : B' ≤ 10 ^ 150) (ht : t.natAbs < 10 ^ 150) (hu : u.natAbs < 10 ^ 150) : eqD (.tup [rowL ts, .int t]) (.tup [rowL us, .int u]) st = .ok (.bl (decide (ts = us ∧ t = u))) st := by
  have := (eq_gen (st := st) (fd_pair h hB ht) (fd_pair h' hB' hu) (by decide) (by simp only [rowL, pyD, pyDs, PyData.canLay0, PyData.canLayAll0, lays_jars h, Bool.and_self]) (by simp only [rowL, pyD, pyDs, PyData.canLay0, PyData.canLayAll0, lays_jars h', Bool.and_self]) (fun x e => by cases e)).1
  rw [this]
  simp only [rowL, pyD, pyDs, PyData.eqv, PyData.eqvAll, eqv_js, Bool.and_true]
  congr 2
  rw [Bool.eq_iff_iff]
  simp
local macro_rules
  | `(tactic| simp! only [$xs,*]) => `(tactic| simp (disch := first | assumption | exact id rfl | omega | (simp only [List.length_map, List.length_append, List.length_cons, List.length_nil, List.length_set, List.length_replicate, List.length_take, List.length_drop, List.length_reverse] <;> omega) | (simp only [if_true, if_false, eq_self, Nat.reduceEqDiff]; done) | (simp only [lo_non, lo_bl, lo_int, lo_str, lo_lst, lo_tup, lo_ins, loS_nil, loS_cons, loF_nil, loF_cons, loC_lst, loC_ins, loS_app, ev_1, ev_2, ev_3, ev_4, ev_6, ev_7, ev_8, ev_9, ev_10, ev_13, ev_14, ev_15, ev_16, ev_17, ev_18, ev_26, ev_27, ev_30, ev_31, ev_32, ev_33, ev_34, ev_35, ev_44, ev_45, ev_46, ev_47, ev_48, ev_49, ev_50, ev_51, ev_57, ev_58, lo_jars, lo_strs, lo_jD, lo_own, lo_rowL, lo_sh, lo_prs, lo_spD, lo_prD]; done) | fail) only [↓wp_ok, ↓wp_next, ↓wp_ret, ↓wp_sSeq, ↓wp_fnD, ↓outP_ret, ↓wp_outD_same, ↓wp_outD_keep, cmp_ii, neg_i, add_ii, sub_ii, mod_ii, len_lst, len_ro, len_tup, ↓wp_eK, ↓wp_eVar0, ↓wp_eVars, ↓wp_eBin, ↓wp_eUn, ↓wp_eArgs, ↓wp_aNil, ↓wp_aCons, ↓wp_tYes, ↓wp_tNot, ↓wp_tAnd, ↓wp_tOr, ↓wp_eIf, ↓wp_oNone, ↓wp_eSl, ↓wp_eFrz, ↓wp_eLc, ↓gwp_N, ↓gwp_nil, ↓gwp_cons, ↓gwp_T, ↓wp_sNext, ↓wp_sRet, ↓wp_sRetN, ↓wp_sExpr, ↓wp_sIf, ↓wp_sAsg, ↓par2_ok, ↓wp_sPar, ↓wp_sFor, tyChk_str, Den.sl_tup, okL_ok, list_tup, max_ii, min_ii, abs_i, ne_ii, eq_ii, eq_ss, ↓wp_eCall, okC_ok, ↓wp_outD_app, ↓wp_outD_st, app_app, mul_ib, fdiv_ib, divmod_ib, pow_ib, ofO_some, ↓wp_ofO, ix_lstE, ix_roE, ix_tupE, atI_0, atI_1, atI_2, atI_3, atI_4, atI_map, tyChk_lst, lo_non, lo_bl, lo_int, lo_str, lo_lst, lo_tup, lo_ins, loS_nil, loS_cons, loF_nil, loF_cons, loC_lst, loC_ins, loS_app, insOf_ins, add_ll', add_tt', add_ss', mkL_ok', mkT_ok', mkC_ok', len_str', ne_ss, imul_ib, iadd_ii, ↓wp_sAug, isN_non, isN_int, isN_str, isN_tup, isN_lst, notN_non, notN_int, notN_str, notN_tup, notN_lst, isi_str_non, isi_str_bl, isi_str_int, isi_str_str, isi_str_lst, isi_str_tup, isi_str_dct, isi_int_non, isi_int_bl, isi_int_int, isi_int_str, isi_int_lst, isi_int_tup, isi_int_dct, isi_bool_non, isi_bool_bl, isi_bool_int, isi_bool_str, isi_bool_lst, isi_bool_tup, isi_bool_dct, isi_list_non, isi_list_bl, isi_list_int, isi_list_str, isi_list_lst, isi_list_tup, isi_list_dct, isi_tuple_non, isi_tuple_bl, isi_tuple_int, isi_tuple_str, isi_tuple_lst, isi_tuple_tup, isi_tuple_dct, isi_dict_non, isi_dict_bl, isi_dict_int, isi_dict_str, isi_dict_lst, isi_dict_tup, isi_dict_dct, ↓insK_some, ↓optK_some, ↓cinK_app, ↓wp_eFldK, ↓wp_eMethK, ↓wp_sFldK, look_eq, look_ne, look_nil, put_nil, put_eq, put_ne, ↓blK_ok, ↓intK_ok, ↓strK_ok, ↓lstK_lst, ↓lstK_ro, ↓tupK_ok, ↓sqK_lst, ↓sqK_ro, ↓sqK_tup, ↓oneK_ok, ↓twoK_ok, ↓rngK_ok, ↓andK_true, ↓wk_tOf, ↓wk_eAnd, ↓wk_eOr, ↓wk_eNot, ↓wk_eChain, ↓wk_eM, ↓wk_oSome, ↓wk_iL, ↓wk_iT, ↓wk_iS, ↓wk_iR1, ↓wk_iR2, ↓wk_iEA, ↓wk_gsub, ↓lcK_ok, ↓lfK_ok, ↓lfK_fz, ↓szK_ok, ↓wk_append, ↓wk_reverse, ↓wk_clear, ↓wk_ixc, ↓frK_ok, ↓frK_fz, ↓wk_frz, ↓wk_frzL, ↓wk_lenc, ↓wk_setc, ↓wk_tyc, get_at0, get_at1, get_at2, get_at3, set_at0, set_at1, set_at2, set_at3, ↓wp_itemF, filterMap_some', filterMap_if, ↓itK_none, ↓itK_some, ↓wp_compN, ↓wp_forN, ↓wp_forC, ev_1, ev_2, ev_3, ev_4, ev_6, ev_7, ev_8, ev_9, ev_10, ev_11, ev_12, ev_13, ev_14, ev_15, ev_16, ev_17, ev_18, ev_19, ev_20, ev_21, ev_22, ev_23, ev_24, ev_25, ev_26, ev_27, ev_28, ev_29, ev_30, ev_31, ev_32, ev_33, ev_34, ev_35, ev_37, ev_38, ev_39, ev_40, ev_41, ev_42, ev_43, ev_44, ev_45, ev_46, ev_47, ev_48, ev_49, ev_50, ev_51, ev_54, ev_55, ev_56, ev_57, ev_58, ev_envOf, ev_wipe0, ev_wipe1, ev_rep0, ev_rep1, pick_cons, pick_nil, ↓szS_ok, ↓wk_jsN, ↓wk_js, fmt_s, fmt_i, str_i, str_s, int1_i, int1_b, isi_own, ↓wk_iZ, ↓wk_iV, zip_map, rev_lst, ↓par3_ok, ↓wp_sPar3, ↓truK_t, ↓truK_f, ↓wp_eOrT, truD_non, truD_bl, truD_int, truD_tup, truD_lst, ↓wk_slc, beqI_f, beqI_t, isub_ii, ifdiv_ib, ↓gwp_star1, ↓gwp_star0, lo_jars, lo_strs, lo_jD, lo_own, lo_rowL, lo_sh, ↓lstK_rowL, ↓sqK_rowL, ↓tupK_own, len_rowL, len_own, ix_rowL, ix_own, sl_rowL, tup_rowL, list_rowL, list_own, at_rd, at_rw, ↓frK_fzr, ↓lfK_fzr, lo_prs, lo_spD, lo_prD, ↓lstK_spD, ↓sqK_spD, len_spD, ix_spD, ↓reduceIte, Nat.reduceAdd, Nat.reduceSub, Nat.reduceLeDiff, Nat.reduceEqDiff, Nat.reduceLT, Nat.reduceBEq, Int.reduceDiv, reduceCtorEq, $xs,*])
  | `(tactic| dsimp! only [$xs,*]) => `(tactic| simp (disch := first | assumption | exact id rfl | omega | (simp only [List.length_map, List.length_append, List.length_cons, List.length_nil, List.length_set, List.length_replicate, List.length_take, List.length_drop, List.length_reverse] <;> omega) | (simp only [if_true, if_false, eq_self, Nat.reduceEqDiff]; done) | (simp only [lo_non, lo_bl, lo_int, lo_str, lo_lst, lo_tup, lo_ins, loS_nil, loS_cons, loF_nil, loF_cons, loC_lst, loC_ins, loS_app, ev_1, ev_2, ev_3, ev_4, ev_6, ev_7, ev_8, ev_9, ev_10, ev_13, ev_14, ev_15, ev_16, ev_17, ev_18, ev_26, ev_27, ev_30, ev_31, ev_32, ev_33, ev_34, ev_35, ev_44, ev_45, ev_46, ev_47, ev_48, ev_49, ev_50, ev_51, ev_57, ev_58, lo_jars, lo_strs, lo_jD, lo_own, lo_rowL, lo_sh, lo_prs, lo_spD, lo_prD]; done) | exact fun _ => id rfl | fail) only [↓wp_ok, ↓wp_next, ↓wp_ret, ↓wp_sSeq, ↓wp_fnD, ↓outP_ret, ↓wp_outD_same, ↓wp_outD_keep, cmp_ii, neg_i, add_ii, sub_ii, mod_ii, len_lst, len_ro, len_tup, ↓wp_eK, ↓wp_eVar0, ↓wp_eVars, ↓wp_eBin, ↓wp_eUn, ↓wp_eArgs, ↓wp_aNil, ↓wp_aCons, ↓wp_tYes, ↓wp_tNot, ↓wp_tAnd, ↓wp_tOr, ↓wp_eIf, ↓wp_oNone, ↓wp_eSl, ↓wp_eFrz, ↓wp_eLc, ↓gwp_N, ↓gwp_nil, ↓gwp_cons, ↓gwp_T, ↓wp_sNext, ↓wp_sRet, ↓wp_sRetN, ↓wp_sExpr, ↓wp_sIf, ↓wp_sAsg, ↓par2_ok, ↓wp_sPar, ↓wp_sFor, tyChk_str, Den.sl_tup, okL_ok, list_tup, max_ii, min_ii, abs_i, ne_ii, eq_ii, eq_ss, ↓wp_eCall, okC_ok, ↓wp_outD_app, ↓wp_outD_st, app_app, mul_ib, fdiv_ib, divmod_ib, pow_ib, ofO_some, ↓wp_ofO, ix_lstE, ix_roE, ix_tupE, atI_0, atI_1, atI_2, atI_3, atI_4, atI_map, tyChk_lst, lo_non, lo_bl, lo_int, lo_str, lo_lst, lo_tup, lo_ins, loS_nil, loS_cons, loF_nil, loF_cons, loC_lst, loC_ins, loS_app, insOf_ins, add_ll', add_tt', add_ss', mkL_ok', mkT_ok', mkC_ok', len_str', ne_ss, imul_ib, iadd_ii, ↓wp_sAug, isN_non, isN_int, isN_str, isN_tup, isN_lst, notN_non, notN_int, notN_str, notN_tup, notN_lst, isi_str_non, isi_str_bl, isi_str_int, isi_str_str, isi_str_lst, isi_str_tup, isi_str_dct, isi_int_non, isi_int_bl, isi_int_int, isi_int_str, isi_int_lst, isi_int_tup, isi_int_dct, isi_bool_non, isi_bool_bl, isi_bool_int, isi_bool_str, isi_bool_lst, isi_bool_tup, isi_bool_dct, isi_list_non, isi_list_bl, isi_list_int, isi_list_str, isi_list_lst, isi_list_tup, isi_list_dct, isi_tuple_non, isi_tuple_bl, isi_tuple_int, isi_tuple_str, isi_tuple_lst, isi_tuple_tup, isi_tuple_dct, isi_dict_non, isi_dict_bl, isi_dict_int, isi_dict_str, isi_dict_lst, isi_dict_tup, isi_dict_dct, ↓insK_some, ↓optK_some, ↓cinK_app, ↓wp_eFldK, ↓wp_eMethK, ↓wp_sFldK, look_eq, look_ne, look_nil, put_nil, put_eq, put_ne, ↓blK_ok, ↓intK_ok, ↓strK_ok, ↓lstK_lst, ↓lstK_ro, ↓tupK_ok, ↓sqK_lst, ↓sqK_ro, ↓sqK_tup, ↓oneK_ok, ↓twoK_ok, ↓rngK_ok, ↓andK_true, ↓wk_tOf, ↓wk_eAnd, ↓wk_eOr, ↓wk_eNot, ↓wk_eChain, ↓wk_eM, ↓wk_oSome, ↓wk_iL, ↓wk_iT, ↓wk_iS, ↓wk_iR1, ↓wk_iR2, ↓wk_iEA, ↓wk_gsub, ↓lcK_ok, ↓lfK_ok, ↓lfK_fz, ↓szK_ok, ↓wk_append, ↓wk_reverse, ↓wk_clear, ↓wk_ixc, ↓frK_ok, ↓frK_fz, ↓wk_frz, ↓wk_frzL, ↓wk_lenc, ↓wk_setc, ↓wk_tyc, get_at0, get_at1, get_at2, get_at3, set_at0, set_at1, set_at2, set_at3, ↓wp_itemF, filterMap_some', filterMap_if, ↓itK_none, ↓itK_some, ↓wp_compN, ↓wp_forN, ↓wp_forC, ev_1, ev_2, ev_3, ev_4, ev_6, ev_7, ev_8, ev_9, ev_10, ev_11, ev_12, ev_13, ev_14, ev_15, ev_16, ev_17, ev_18, ev_19, ev_20, ev_21, ev_22, ev_23, ev_24, ev_25, ev_26, ev_27, ev_28, ev_29, ev_30, ev_31, ev_32, ev_33, ev_34, ev_35, ev_37, ev_38, ev_39, ev_40, ev_41, ev_42, ev_43, ev_44, ev_45, ev_46, ev_47, ev_48, ev_49, ev_50, ev_51, ev_54, ev_55, ev_56, ev_57, ev_58, ev_envOf, ev_wipe0, ev_wipe1, ev_rep0, ev_rep1, pick_cons, pick_nil, ↓szS_ok, ↓wk_jsN, ↓wk_js, fmt_s, fmt_i, str_i, str_s, int1_i, int1_b, isi_own, ↓wk_iZ, ↓wk_iV, zip_map, rev_lst, ↓par3_ok, ↓wp_sPar3, ↓truK_t, ↓truK_f, ↓wp_eOrT, truD_non, truD_bl, truD_int, truD_tup, truD_lst, ↓wk_slc, beqI_f, beqI_t, isub_ii, ifdiv_ib, ↓gwp_star1, ↓gwp_star0, lo_jars, lo_strs, lo_jD, lo_own, lo_rowL, lo_sh, ↓lstK_rowL, ↓sqK_rowL, ↓tupK_own, len_rowL, len_own, ix_rowL, ix_own, sl_rowL, tup_rowL, list_rowL, list_own, at_rd, at_rw, ↓frK_fzr, ↓lfK_fzr, lo_prs, lo_spD, lo_prD, ↓lstK_spD, ↓sqK_spD, len_spD, ix_spD, ↓reduceIte, Nat.reduceAdd, Nat.reduceSub, Nat.reduceLeDiff, Nat.reduceEqDiff, Nat.reduceLT, Nat.reduceBEq, Int.reduceDiv, reduceCtorEq, $xs,*])
  | `(tactic| simp_all! only [$xs,*]) => `(tactic| simp only [↓wp_ok, ↓wp_next, ↓wp_ret, ↓wp_sSeq, ↓wp_fnD, ↓outP_ret, ↓wp_outD_same, ↓wp_outD_keep, cmp_ii, neg_i, add_ii, sub_ii, mod_ii, len_lst, len_ro, len_tup, ↓wp_eK, ↓wp_eVar0, ↓wp_eVars, ↓wp_eBin, ↓wp_eUn, ↓wp_eArgs, ↓wp_aNil, ↓wp_aCons, ↓wp_tYes, ↓wp_tNot, ↓wp_tAnd, ↓wp_tOr, ↓wp_eIf, ↓wp_oNone, ↓wp_eSl, ↓wp_eFrz, ↓wp_eLc, ↓gwp_N, ↓gwp_nil, ↓gwp_cons, ↓gwp_T, ↓wp_sNext, ↓wp_sRet, ↓wp_sRetN, ↓wp_sExpr, ↓wp_sIf, ↓wp_sAsg, ↓par2_ok, ↓wp_sPar, ↓wp_sFor, tyChk_str, Den.sl_tup, okL_ok, list_tup, max_ii, min_ii, abs_i, ne_ii, eq_ii, eq_ss, ↓wp_eCall, okC_ok, ↓wp_outD_app, ↓wp_outD_st, app_app, mul_ib, fdiv_ib, divmod_ib, pow_ib, ofO_some, ↓wp_ofO, ix_lstE, ix_roE, ix_tupE, atI_0, atI_1, atI_2, atI_3, atI_4, atI_map, tyChk_lst, lo_non, lo_bl, lo_int, lo_str, lo_lst, lo_tup, lo_ins, loS_nil, loS_cons, loF_nil, loF_cons, loC_lst, loC_ins, loS_app, insOf_ins, add_ll', add_tt', add_ss', mkL_ok', mkT_ok', mkC_ok', len_str', ne_ss, imul_ib, iadd_ii, ↓wp_sAug, isN_non, isN_int, isN_str, isN_tup, isN_lst, notN_non, notN_int, notN_str, notN_tup, notN_lst, isi_str_non, isi_str_bl, isi_str_int, isi_str_str, isi_str_lst, isi_str_tup, isi_str_dct, isi_int_non, isi_int_bl, isi_int_int, isi_int_str, isi_int_lst, isi_int_tup, isi_int_dct, isi_bool_non, isi_bool_bl, isi_bool_int, isi_bool_str, isi_bool_lst, isi_bool_tup, isi_bool_dct, isi_list_non, isi_list_bl, isi_list_int, isi_list_str, isi_list_lst, isi_list_tup, isi_list_dct, isi_tuple_non, isi_tuple_bl, isi_tuple_int, isi_tuple_str, isi_tuple_lst, isi_tuple_tup, isi_tuple_dct, isi_dict_non, isi_dict_bl, isi_dict_int, isi_dict_str, isi_dict_lst, isi_dict_tup, isi_dict_dct, ↓insK_some, ↓optK_some, ↓cinK_app, ↓wp_eFldK, ↓wp_eMethK, ↓wp_sFldK, look_eq, look_ne, look_nil, put_nil, put_eq, put_ne, ↓blK_ok, ↓intK_ok, ↓strK_ok, ↓lstK_lst, ↓lstK_ro, ↓tupK_ok, ↓sqK_lst, ↓sqK_ro, ↓sqK_tup, ↓oneK_ok, ↓twoK_ok, ↓rngK_ok, ↓andK_true, ↓wk_tOf, ↓wk_eAnd, ↓wk_eOr, ↓wk_eNot, ↓wk_eChain, ↓wk_eM, ↓wk_oSome, ↓wk_iL, ↓wk_iT, ↓wk_iS, ↓wk_iR1, ↓wk_iR2, ↓wk_iEA, ↓wk_gsub, ↓lcK_ok, ↓lfK_ok, ↓lfK_fz, ↓szK_ok, ↓wk_append, ↓wk_reverse, ↓wk_clear, ↓wk_ixc, ↓frK_ok, ↓frK_fz, ↓wk_frz, ↓wk_frzL, ↓wk_lenc, ↓wk_setc, ↓wk_tyc, get_at0, get_at1, get_at2, get_at3, set_at0, set_at1, set_at2, set_at3, ↓wp_itemF, filterMap_some', filterMap_if, ↓itK_none, ↓itK_some, ↓wp_compN, ↓wp_forN, ↓wp_forC, ev_1, ev_2, ev_3, ev_4, ev_6, ev_7, ev_8, ev_9, ev_10, ev_11, ev_12, ev_13, ev_14, ev_15, ev_16, ev_17, ev_18, ev_19, ev_20, ev_21, ev_22, ev_23, ev_24, ev_25, ev_26, ev_27, ev_28, ev_29, ev_30, ev_31, ev_32, ev_33, ev_34, ev_35, ev_37, ev_38, ev_39, ev_40, ev_41, ev_42, ev_43, ev_44, ev_45, ev_46, ev_47, ev_48, ev_49, ev_50, ev_51, ev_54, ev_55, ev_56, ev_57, ev_58, ev_envOf, ev_wipe0, ev_wipe1, ev_rep0, ev_rep1, pick_cons, pick_nil, ↓szS_ok, ↓wk_jsN, ↓wk_js, fmt_s, fmt_i, str_i, str_s, int1_i, int1_b, isi_own, ↓wk_iZ, ↓wk_iV, zip_map, rev_lst, ↓par3_ok, ↓wp_sPar3, ↓truK_t, ↓truK_f, ↓wp_eOrT, truD_non, truD_bl, truD_int, truD_tup, truD_lst, ↓wk_slc, beqI_f, beqI_t, isub_ii, ifdiv_ib, ↓gwp_star1, ↓gwp_star0, lo_jars, lo_strs, lo_jD, lo_own, lo_rowL, lo_sh, ↓lstK_rowL, ↓sqK_rowL, ↓tupK_own, len_rowL, len_own, ix_rowL, ix_own, sl_rowL, tup_rowL, list_rowL, list_own, at_rd, at_rw, ↓frK_fzr, ↓lfK_fzr, lo_prs, lo_spD, lo_prD, ↓lstK_spD, ↓sqK_spD, len_spD, ix_spD, $xs,*])
theorem req_gen (h : JsB B ts) (hB : B ≤ 10 ^ 150) (h' : JsB B' us) (hB' : B' ≤ 10 ^ 150) : denRound_eq [shD (.rd ts), shD (.rd us)] st = .ok (.bl (decide (ts = us))) st := by
  refine Res.eq_of_wp ?_
  unfold denRound_eq
  have h12 := h.le
  have h12' := h'.le
  have e : isi2 (isCl 22) (isaC [(22, true), (23, false)]) [shD (.rd us), .cls 22] st = .ok (.bl true) st := isi_own rfl
  simp! only [e, rjars_eq hasRd (show ts.length ≤ 500 by omega), rjars_eq hasRd (show us.length ≤ 500 by omega), eq_row h hB h' hB']
theorem weq_gen (h : JsB B ts) (hB : B ≤ 10 ^ 150) (h' : JsB B' us) (hB' : B' ≤ 10 ^ 150) (ht : t.natAbs < 10 ^ 150) (hu : u.natAbs < 10 ^ 150) : denRow_eq [shD (.rw ts t), shD (.rw us u)] st = .ok (.bl (decide (ts = us ∧ t = u))) st := by
  refine Res.eq_of_wp ?_
  unfold denRow_eq
  have e : isi2 (isCl 23) (isaC [(22, false), (23, true)]) [shD (.rw us u), .cls 23] st = .ok (.bl true) st := isi_own rfl
  simp! only [e, jars_eq hasRw, tray_eq hasRw rfl, eq_pair h hB h' hB' ht hu]
end
end Q

namespace Q
open PySem PySem.Spec PyProof.Rows L2 Den
def fgS (n : Nat) : Str := Str.ofString (toString ((n : Nat) : Int))
def dgS (d : Nat) : Str := ⟨#[48 + d]⟩
theorem dig_ch : ∀ d, d < 10 → (Nat.digitChar d).toNat = 48 + d := by decide
theorem fg_cps (n : Nat) : (fgS n).cps.toList = (Nat.toDigits 10 n).map Char.toNat := PySem.W.KIN.signs_num n
theorem fg_lt {n : Nat} (h : n < 10) : fgS n = dgS n := by
  apply Str.ext'
  apply Array.toList_inj.mp
  rw [fg_cps, Nat.toDigits_of_lt_base h]
  simp [dgS, dig_ch n h]
theorem fg_ge {n : Nat} (h : 10 ≤ n) : fgS n = fgS (n / 10) ++ dgS (n % 10) := by
  apply Str.ext'
  apply Array.toList_inj.mp
  have e : (fgS (n / 10) ++ dgS (n % 10)).cps = (fgS (n / 10)).cps ++ (dgS (n % 10)).cps := rfl
  rw [e, Array.toList_append, fg_cps, fg_cps, Nat.toDigits_of_base_le (by decide) h]
  simp [dgS, dig_ch (n % 10) (Nat.mod_lt _ (by decide))]
section
variable {st : Store}
theorem ix_dig {d : Nat} (h : d < 10) : ixD (.str "0123456789") (.int (d : Int)) st = .ok (.str (dgS d)) st := by
  have : ∀ d : Nat, d < 10 → ixD (.str "0123456789") (.int (d : Int)) st = .ok (.str (dgS d)) st := by
    intro d hd
    match d, hd with
    | 0, _ => rfl
    | 1, _ => rfl
    | 2, _ => rfl
    | 3, _ => rfl
    | 4, _ => rfl
    | 5, _ => rfl
    | 6, _ => rfl
    | 7, _ => rfl
    | 8, _ => rfl
    | 9, _ => rfl
  exact this d h
theorem fg_len : ∀ (k n : Nat), n < 10 ^ (k + 1) → (fgS n).length ≤ k + 1
  | 0, n, h => by rw [fg_lt (by simpa using h)]; exact Nat.le_refl _
  | k + 1, n, h => by
    by_cases c : n < 10
    · rw [fg_lt c]; show 1 ≤ k + 1 + 1; omega
    · rw [fg_ge (by omega)]
      have q := fg_len k (n / 10) (by rw [Nat.pow_succ] at h; omega)
      have e : (fgS (n / 10) ++ dgS (n % 10)).length = (fgS (n / 10)).length + 1 := by
        show (fgS (n / 10) ++ dgS (n % 10)).cps.size = (fgS (n / 10)).cps.size + 1
        rw [show (fgS (n / 10) ++ dgS (n % 10)).cps = (fgS (n / 10)).cps ++ (dgS (n % 10)).cps from rfl, Array.size_append]; rfl
      omega
theorem str_len_app {a b : Str} : (a ++ b).length = a.length + b.length := by
  show (a ++ b).cps.size = _
  rw [show (a ++ b).cps = a.cps ++ b.cps from rfl, Array.size_append]; rfl
theorem str_app_assoc {a b c : Str} : a ++ b ++ c = a ++ (b ++ c) := by
  apply Str.ext'
  show a.cps ++ b.cps ++ c.cps = a.cps ++ (b.cps ++ c.cps)
  rw [Array.append_assoc]
local macro_rules
  | `(tactic| simp! only [$xs,*]) => `(tactic| simp (disch := first | assumption | exact id rfl | omega | (simp only [List.length_map, List.length_append, List.length_cons, List.length_nil, List.length_set, List.length_replicate, List.length_take, List.length_drop, List.length_reverse] <;> omega) | (simp only [if_true, if_false, eq_self, Nat.reduceEqDiff]; done) | (simp only [lo_non, lo_bl, lo_int, lo_str, lo_lst, lo_tup, lo_ins, loS_nil, loS_cons, loF_nil, loF_cons, loC_lst, loC_ins, loS_app, ev_1, ev_2, ev_3, ev_4, ev_6, ev_7, ev_8, ev_9, ev_10, ev_13, ev_14, ev_15, ev_16, ev_17, ev_18, ev_26, ev_27, ev_30, ev_31, ev_32, ev_33, ev_34, ev_35, ev_44, ev_45, ev_46, ev_47, ev_48, ev_49, ev_50, ev_51, ev_57, ev_58, lo_jars, lo_strs, lo_jD, lo_own, lo_rowL, lo_sh, lo_prs, lo_spD, lo_prD]; done) | fail) only [↓wp_ok, ↓wp_next, ↓wp_ret, ↓wp_sSeq, ↓wp_fnD, ↓outP_ret, ↓wp_outD_same, ↓wp_outD_keep, cmp_ii, neg_i, add_ii, sub_ii, mod_ii, len_lst, len_ro, len_tup, ↓wp_eK, ↓wp_eVar0, ↓wp_eVars, ↓wp_eBin, ↓wp_eUn, ↓wp_eArgs, ↓wp_aNil, ↓wp_aCons, ↓wp_tYes, ↓wp_tNot, ↓wp_tAnd, ↓wp_tOr, ↓wp_eIf, ↓wp_oNone, ↓wp_eSl, ↓wp_eFrz, ↓wp_eLc, ↓gwp_N, ↓gwp_nil, ↓gwp_cons, ↓gwp_T, ↓wp_sNext, ↓wp_sRet, ↓wp_sRetN, ↓wp_sExpr, ↓wp_sIf, ↓wp_sAsg, ↓par2_ok, ↓wp_sPar, ↓wp_sFor, tyChk_str, Den.sl_tup, okL_ok, list_tup, max_ii, min_ii, abs_i, ne_ii, eq_ii, eq_ss, ↓wp_eCall, okC_ok, ↓wp_outD_app, ↓wp_outD_st, app_app, mul_ib, fdiv_ib, divmod_ib, pow_ib, ofO_some, ↓wp_ofO, ix_lstE, ix_roE, ix_tupE, atI_0, atI_1, atI_2, atI_3, atI_4, atI_map, tyChk_lst, lo_non, lo_bl, lo_int, lo_str, lo_lst, lo_tup, lo_ins, loS_nil, loS_cons, loF_nil, loF_cons, loC_lst, loC_ins, loS_app, insOf_ins, add_ll', add_tt', add_ss', mkL_ok', mkT_ok', mkC_ok', len_str', ne_ss, imul_ib, iadd_ii, ↓wp_sAug, isN_non, isN_int, isN_str, isN_tup, isN_lst, notN_non, notN_int, notN_str, notN_tup, notN_lst, isi_str_non, isi_str_bl, isi_str_int, isi_str_str, isi_str_lst, isi_str_tup, isi_str_dct, isi_int_non, isi_int_bl, isi_int_int, isi_int_str, isi_int_lst, isi_int_tup, isi_int_dct, isi_bool_non, isi_bool_bl, isi_bool_int, isi_bool_str, isi_bool_lst, isi_bool_tup, isi_bool_dct, isi_list_non, isi_list_bl, isi_list_int, isi_list_str, isi_list_lst, isi_list_tup, isi_list_dct, isi_tuple_non, isi_tuple_bl, isi_tuple_int, isi_tuple_str, isi_tuple_lst, isi_tuple_tup, isi_tuple_dct, isi_dict_non, isi_dict_bl, isi_dict_int, isi_dict_str, isi_dict_lst, isi_dict_tup, isi_dict_dct, ↓insK_some, ↓optK_some, ↓cinK_app, ↓wp_eFldK, ↓wp_eMethK, ↓wp_sFldK, look_eq, look_ne, look_nil, put_nil, put_eq, put_ne, ↓blK_ok, ↓intK_ok, ↓strK_ok, ↓lstK_lst, ↓lstK_ro, ↓tupK_ok, ↓sqK_lst, ↓sqK_ro, ↓sqK_tup, ↓oneK_ok, ↓twoK_ok, ↓rngK_ok, ↓andK_true, ↓wk_tOf, ↓wk_eAnd, ↓wk_eOr, ↓wk_eNot, ↓wk_eChain, ↓wk_eM, ↓wk_oSome, ↓wk_iL, ↓wk_iT, ↓wk_iS, ↓wk_iR1, ↓wk_iR2, ↓wk_iEA, ↓wk_gsub, ↓lcK_ok, ↓lfK_ok, ↓lfK_fz, ↓szK_ok, ↓wk_append, ↓wk_reverse, ↓wk_clear, ↓wk_ixc, ↓frK_ok, ↓frK_fz, ↓wk_frz, ↓wk_frzL, ↓wk_lenc, ↓wk_setc, ↓wk_tyc, get_at0, get_at1, get_at2, get_at3, set_at0, set_at1, set_at2, set_at3, ↓wp_itemF, filterMap_some', filterMap_if, ↓itK_none, ↓itK_some, ↓wp_compN, ↓wp_forN, ↓wp_forC, ev_1, ev_2, ev_3, ev_4, ev_6, ev_7, ev_8, ev_9, ev_10, ev_11, ev_12, ev_13, ev_14, ev_15, ev_16, ev_17, ev_18, ev_19, ev_20, ev_21, ev_22, ev_23, ev_24, ev_25, ev_26, ev_27, ev_28, ev_29, ev_30, ev_31, ev_32, ev_33, ev_34, ev_35, ev_37, ev_38, ev_39, ev_40, ev_41, ev_42, ev_43, ev_44, ev_45, ev_46, ev_47, ev_48, ev_49, ev_50, ev_51, ev_54, ev_55, ev_56, ev_57, ev_58, ev_envOf, ev_wipe0, ev_wipe1, ev_rep0, ev_rep1, pick_cons, pick_nil, ↓szS_ok, ↓wk_jsN, ↓wk_js, fmt_s, fmt_i, str_i, str_s, int1_i, int1_b, isi_own, ↓wk_iZ, ↓wk_iV, zip_map, rev_lst, ↓par3_ok, ↓wp_sPar3, ↓truK_t, ↓truK_f, ↓wp_eOrT, truD_non, truD_bl, truD_int, truD_tup, truD_lst, ↓wk_slc, beqI_f, beqI_t, isub_ii, ifdiv_ib, ↓gwp_star1, ↓gwp_star0, lo_jars, lo_strs, lo_jD, lo_own, lo_rowL, lo_sh, ↓lstK_rowL, ↓sqK_rowL, ↓tupK_own, len_rowL, len_own, ix_rowL, ix_own, sl_rowL, tup_rowL, list_rowL, list_own, at_rd, at_rw, ↓frK_fzr, ↓lfK_fzr, lo_prs, lo_spD, lo_prD, ↓lstK_spD, ↓sqK_spD, len_spD, ix_spD, ↓reduceIte, Nat.reduceAdd, Nat.reduceSub, Nat.reduceLeDiff, Nat.reduceEqDiff, Nat.reduceLT, Nat.reduceBEq, Int.reduceDiv, reduceCtorEq, $xs,*])
  | `(tactic| dsimp! only [$xs,*]) => `(tactic| simp (disch := first | assumption | exact id rfl | omega | (simp only [List.length_map, List.length_append, List.length_cons, List.length_nil, List.length_set, List.length_replicate, List.length_take, List.length_drop, List.length_reverse] <;> omega) | (simp only [if_true, if_false, eq_self, Nat.reduceEqDiff]; done) | (simp only [lo_non, lo_bl, lo_int, lo_str, lo_lst, lo_tup, lo_ins, loS_nil, loS_cons, loF_nil, loF_cons, loC_lst, loC_ins, loS_app, ev_1, ev_2, ev_3, ev_4, ev_6, ev_7, ev_8, ev_9, ev_10, ev_13, ev_14, ev_15, ev_16, ev_17, ev_18, ev_26, ev_27, ev_30, ev_31, ev_32, ev_33, ev_34, ev_35, ev_44, ev_45, ev_46, ev_47, ev_48, ev_49, ev_50, ev_51, ev_57, ev_58, lo_jars, lo_strs, lo_jD, lo_own, lo_rowL, lo_sh, lo_prs, lo_spD, lo_prD]; done) | exact fun _ => id rfl | fail) only [↓wp_ok, ↓wp_next, ↓wp_ret, ↓wp_sSeq, ↓wp_fnD, ↓outP_ret, ↓wp_outD_same, ↓wp_outD_keep, cmp_ii, neg_i, add_ii, sub_ii, mod_ii, len_lst, len_ro, len_tup, ↓wp_eK, ↓wp_eVar0, ↓wp_eVars, ↓wp_eBin, ↓wp_eUn, ↓wp_eArgs, ↓wp_aNil, ↓wp_aCons, ↓wp_tYes, ↓wp_tNot, ↓wp_tAnd, ↓wp_tOr, ↓wp_eIf, ↓wp_oNone, ↓wp_eSl, ↓wp_eFrz, ↓wp_eLc, ↓gwp_N, ↓gwp_nil, ↓gwp_cons, ↓gwp_T, ↓wp_sNext, ↓wp_sRet, ↓wp_sRetN, ↓wp_sExpr, ↓wp_sIf, ↓wp_sAsg, ↓par2_ok, ↓wp_sPar, ↓wp_sFor, tyChk_str, Den.sl_tup, okL_ok, list_tup, max_ii, min_ii, abs_i, ne_ii, eq_ii, eq_ss, ↓wp_eCall, okC_ok, ↓wp_outD_app, ↓wp_outD_st, app_app, mul_ib, fdiv_ib, divmod_ib, pow_ib, ofO_some, ↓wp_ofO, ix_lstE, ix_roE, ix_tupE, atI_0, atI_1, atI_2, atI_3, atI_4, atI_map, tyChk_lst, lo_non, lo_bl, lo_int, lo_str, lo_lst, lo_tup, lo_ins, loS_nil, loS_cons, loF_nil, loF_cons, loC_lst, loC_ins, loS_app, insOf_ins, add_ll', add_tt', add_ss', mkL_ok', mkT_ok', mkC_ok', len_str', ne_ss, imul_ib, iadd_ii, ↓wp_sAug, isN_non, isN_int, isN_str, isN_tup, isN_lst, notN_non, notN_int, notN_str, notN_tup, notN_lst, isi_str_non, isi_str_bl, isi_str_int, isi_str_str, isi_str_lst, isi_str_tup, isi_str_dct, isi_int_non, isi_int_bl, isi_int_int, isi_int_str, isi_int_lst, isi_int_tup, isi_int_dct, isi_bool_non, isi_bool_bl, isi_bool_int, isi_bool_str, isi_bool_lst, isi_bool_tup, isi_bool_dct, isi_list_non, isi_list_bl, isi_list_int, isi_list_str, isi_list_lst, isi_list_tup, isi_list_dct, isi_tuple_non, isi_tuple_bl, isi_tuple_int, isi_tuple_str, isi_tuple_lst, isi_tuple_tup, isi_tuple_dct, isi_dict_non, isi_dict_bl, isi_dict_int, isi_dict_str, isi_dict_lst, isi_dict_tup, isi_dict_dct, ↓insK_some, ↓optK_some, ↓cinK_app, ↓wp_eFldK, ↓wp_eMethK, ↓wp_sFldK, look_eq, look_ne, look_nil, put_nil, put_eq, put_ne, ↓blK_ok, ↓intK_ok, ↓strK_ok, ↓lstK_lst, ↓lstK_ro, ↓tupK_ok, ↓sqK_lst, ↓sqK_ro, ↓sqK_tup, ↓oneK_ok, ↓twoK_ok, ↓rngK_ok, ↓andK_true, ↓wk_tOf, ↓wk_eAnd, ↓wk_eOr, ↓wk_eNot, ↓wk_eChain, ↓wk_eM, ↓wk_oSome, ↓wk_iL, ↓wk_iT, ↓wk_iS, ↓wk_iR1, ↓wk_iR2, ↓wk_iEA, ↓wk_gsub, ↓lcK_ok, ↓lfK_ok, ↓lfK_fz, ↓szK_ok, ↓wk_append, ↓wk_reverse, ↓wk_clear, ↓wk_ixc, ↓frK_ok, ↓frK_fz, ↓wk_frz, ↓wk_frzL, ↓wk_lenc, ↓wk_setc, ↓wk_tyc, get_at0, get_at1, get_at2, get_at3, set_at0, set_at1, set_at2, set_at3, ↓wp_itemF, filterMap_some', filterMap_if, ↓itK_none, ↓itK_some, ↓wp_compN, ↓wp_forN, ↓wp_forC, ev_1, ev_2, ev_3, ev_4, ev_6, ev_7, ev_8, ev_9, ev_10, ev_11, ev_12, ev_13, ev_14, ev_15, ev_16, ev_17, ev_18, ev_19, ev_20, ev_21, ev_22, ev_23, ev_24, ev_25, ev_26, ev_27, ev_28, ev_29, ev_30, ev_31, ev_32, ev_33, ev_34, ev_35, ev_37, ev_38, ev_39, ev_40, ev_41, ev_42, ev_43, ev_44, ev_45, ev_46, ev_47, ev_48, ev_49, ev_50, ev_51, ev_54, ev_55, ev_56, ev_57, ev_58, ev_envOf, ev_wipe0, ev_wipe1, ev_rep0, ev_rep1, pick_cons, pick_nil, ↓szS_ok, ↓wk_jsN, ↓wk_js, fmt_s, fmt_i, str_i, str_s, int1_i, int1_b, isi_own, ↓wk_iZ, ↓wk_iV, zip_map, rev_lst, ↓par3_ok, ↓wp_sPar3, ↓truK_t, ↓truK_f, ↓wp_eOrT, truD_non, truD_bl, truD_int, truD_tup, truD_lst, ↓wk_slc, beqI_f, beqI_t, isub_ii, ifdiv_ib, ↓gwp_star1, ↓gwp_star0, lo_jars, lo_strs, lo_jD, lo_own, lo_rowL, lo_sh, ↓lstK_rowL, ↓sqK_rowL, ↓tupK_own, len_rowL, len_own, ix_rowL, ix_own, sl_rowL, tup_rowL, list_rowL, list_own, at_rd, at_rw, ↓frK_fzr, ↓lfK_fzr, lo_prs, lo_spD, lo_prD, ↓lstK_spD, ↓sqK_spD, len_spD, ix_spD, ↓reduceIte, Nat.reduceAdd, Nat.reduceSub, Nat.reduceLeDiff, Nat.reduceEqDiff, Nat.reduceLT, Nat.reduceBEq, Int.reduceDiv, reduceCtorEq, $xs,*])
  | `(tactic| simp_all! only [$xs,*]) => `(tactic| simp only [↓wp_ok, ↓wp_next, ↓wp_ret, ↓wp_sSeq, ↓wp_fnD, ↓outP_ret, ↓wp_outD_same, ↓wp_outD_keep, cmp_ii, neg_i, add_ii, sub_ii, mod_ii, len_lst, len_ro, len_tup, ↓wp_eK, ↓wp_eVar0, ↓wp_eVars, ↓wp_eBin, ↓wp_eUn, ↓wp_eArgs, ↓wp_aNil, ↓wp_aCons, ↓wp_tYes, ↓wp_tNot, ↓wp_tAnd, ↓wp_tOr, ↓wp_eIf, ↓wp_oNone, ↓wp_eSl, ↓wp_eFrz, ↓wp_eLc, ↓gwp_N, ↓gwp_nil, ↓gwp_cons, ↓gwp_T, ↓wp_sNext, ↓wp_sRet, ↓wp_sRetN, ↓wp_sExpr, ↓wp_sIf, ↓wp_sAsg, ↓par2_ok, ↓wp_sPar, ↓wp_sFor, tyChk_str, Den.sl_tup, okL_ok, list_tup, max_ii, min_ii, abs_i, ne_ii, eq_ii, eq_ss, ↓wp_eCall, okC_ok, ↓wp_outD_app, ↓wp_outD_st, app_app, mul_ib, fdiv_ib, divmod_ib, pow_ib, ofO_some, ↓wp_ofO, ix_lstE, ix_roE, ix_tupE, atI_0, atI_1, atI_2, atI_3, atI_4, atI_map, tyChk_lst, lo_non, lo_bl, lo_int, lo_str, lo_lst, lo_tup, lo_ins, loS_nil, loS_cons, loF_nil, loF_cons, loC_lst, loC_ins, loS_app, insOf_ins, add_ll', add_tt', add_ss', mkL_ok', mkT_ok', mkC_ok', len_str', ne_ss, imul_ib, iadd_ii, ↓wp_sAug, isN_non, isN_int, isN_str, isN_tup, isN_lst, notN_non, notN_int, notN_str, notN_tup, notN_lst, isi_str_non, isi_str_bl, isi_str_int, isi_str_str, isi_str_lst, isi_str_tup, isi_str_dct, isi_int_non, isi_int_bl, isi_int_int, isi_int_str, isi_int_lst, isi_int_tup, isi_int_dct, isi_bool_non, isi_bool_bl, isi_bool_int, isi_bool_str, isi_bool_lst, isi_bool_tup, isi_bool_dct, isi_list_non, isi_list_bl, isi_list_int, isi_list_str, isi_list_lst, isi_list_tup, isi_list_dct, isi_tuple_non, isi_tuple_bl, isi_tuple_int, isi_tuple_str, isi_tuple_lst, isi_tuple_tup, isi_tuple_dct, isi_dict_non, isi_dict_bl, isi_dict_int, isi_dict_str, isi_dict_lst, isi_dict_tup, isi_dict_dct, ↓insK_some, ↓optK_some, ↓cinK_app, ↓wp_eFldK, ↓wp_eMethK, ↓wp_sFldK, look_eq, look_ne, look_nil, put_nil, put_eq, put_ne, ↓blK_ok, ↓intK_ok, ↓strK_ok, ↓lstK_lst, ↓lstK_ro, ↓tupK_ok, ↓sqK_lst, ↓sqK_ro, ↓sqK_tup, ↓oneK_ok, ↓twoK_ok, ↓rngK_ok, ↓andK_true, ↓wk_tOf, ↓wk_eAnd, ↓wk_eOr, ↓wk_eNot, ↓wk_eChain, ↓wk_eM, ↓wk_oSome, ↓wk_iL, ↓wk_iT, ↓wk_iS, ↓wk_iR1, ↓wk_iR2, ↓wk_iEA, ↓wk_gsub, ↓lcK_ok, ↓lfK_ok, ↓lfK_fz, ↓szK_ok, ↓wk_append, ↓wk_reverse, ↓wk_clear, ↓wk_ixc, ↓frK_ok, ↓frK_fz, ↓wk_frz, ↓wk_frzL, ↓wk_lenc, ↓wk_setc, ↓wk_tyc, get_at0, get_at1, get_at2, get_at3, set_at0, set_at1, set_at2, set_at3, ↓wp_itemF, filterMap_some', filterMap_if, ↓itK_none, ↓itK_some, ↓wp_compN, ↓wp_forN, ↓wp_forC, ev_1, ev_2, ev_3, ev_4, ev_6, ev_7, ev_8, ev_9, ev_10, ev_11, ev_12, ev_13, ev_14, ev_15, ev_16, ev_17, ev_18, ev_19, ev_20, ev_21, ev_22, ev_23, ev_24, ev_25, ev_26, ev_27, ev_28, ev_29, ev_30, ev_31, ev_32, ev_33, ev_34, ev_35, ev_37, ev_38, ev_39, ev_40, ev_41, ev_42, ev_43, ev_44, ev_45, ev_46, ev_47, ev_48, ev_49, ev_50, ev_51, ev_54, ev_55, ev_56, ev_57, ev_58, ev_envOf, ev_wipe0, ev_wipe1, ev_rep0, ev_rep1, pick_cons, pick_nil, ↓szS_ok, ↓wk_jsN, ↓wk_js, fmt_s, fmt_i, str_i, str_s, int1_i, int1_b, isi_own, ↓wk_iZ, ↓wk_iV, zip_map, rev_lst, ↓par3_ok, ↓wp_sPar3, ↓truK_t, ↓truK_f, ↓wp_eOrT, truD_non, truD_bl, truD_int, truD_tup, truD_lst, ↓wk_slc, beqI_f, beqI_t, isub_ii, ifdiv_ib, ↓gwp_star1, ↓gwp_star0, lo_jars, lo_strs, lo_jD, lo_own, lo_rowL, lo_sh, ↓lstK_rowL, ↓sqK_rowL, ↓tupK_own, len_rowL, len_own, ix_rowL, ix_own, sl_rowL, tup_rowL, list_rowL, list_own, at_rd, at_rw, ↓frK_fzr, ↓lfK_fzr, lo_prs, lo_spD, lo_prD, ↓lstK_spD, ↓sqK_spD, len_spD, ix_spD, $xs,*])
theorem figures_eq {n : Nat} (h : n < 10 ^ 150) : den_law_figures [.int (n : Int)] st = .ok (.str (fgS n)) st := by
  refine Res.eq_of_wp ?_
  unfold den_law_figures
  simp! only [and_self]
  refine wp_while (fun k env s => ∃ (m : Nat) (f : Str) (e3 : Option D), env = [some (.int (n : Int)), some (.str f), some (.int (m : Int)), e3] ∧ fgS n = fgS m ++ f ∧ m = k ∧ s = st) n ⟨n, "", none, rfl, by rw [show ("" : Str) = ⟨#[]⟩ from rfl]; apply Str.ext'; show _ = (fgS n).cps ++ #[]; simp, rfl, rfl⟩ ?_
  rintro k env s ⟨m, f, e3, rfl, hf, rfl, rfl⟩
  have ln := fg_len 149 n h
  have l2 : (fgS n).length = (fgS m).length + f.length := by rw [hf, str_len_app]
  by_cases c : 9 < m
  · have c' : (9 : Int) < (m : Int) := by omega
    have d1 : ((m : Int) % 10) = ((m % 10 : Nat) : Int) := by omega
    have d2 : ((m : Int) / 10) = ((m / 10 : Nat) : Int) := by omega
    have ix := fun st => ix_dig (st := st) (d := m % 10) (Nat.mod_lt _ (by decide))
    have dl : (dgS (m % 10)).length = 1 := rfl
    simp! only [c', d1, d2, ix]
    refine ⟨m / 10, by omega, m / 10, dgS (m % 10) ++ f, _, ⟨rfl, rfl, rfl⟩, ?_, rfl⟩
    rw [hf, fg_ge (by omega), str_app_assoc]
  · have c' : ¬ (9 : Int) < (m : Int) := by omega
    have ix := fun st => ix_dig (st := st) (d := m) (by omega)
    have dl : (dgS m).length = 1 := rfl
    simp! only [c', ix]
    rw [hf, fg_lt (by omega)]
end
end Q

namespace Q
open PySem PySem.Spec PyProof.Rows L2 Den
section
variable {st : Store} {ts us : List J3} {B : Int} {t : J3} {o : Option Int}
theorem fg_of {n : Int} (h : 0 ≤ n) : Str.ofString (toString n) = fgS n.toNat := by
  unfold fgS; rw [Int.toNat_of_nonneg h]
theorem jw_eq (t : J3) : jw t = (((t.1 ++ ":") ++ Str.ofString (toString t.2.1)) ++ ":") ++ Str.ofString (toString t.2.2) := by
  unfold jw
  generalize Str.ofString (toString t.2.1) = b
  generalize Str.ofString (toString t.2.2) = c
  generalize t.1 = a
  have e1 : [a, b, c] = [a.cps.toList, b.cps.toList, c.cps.toList].map SX.S := strs_S [a, b, c]
  have j1 : Txt.join ":" ([a.cps.toList, b.cps.toList, c.cps.toList].map SX.S) = SX.S (TL.joinL [58] [a.cps.toList, b.cps.toList, c.cps.toList]) := SX.join_S [58] _
  rw [e1, j1]
  conv => rhs; rw [← SX.S_tl a, ← SX.S_tl b, ← SX.S_tl c, show (":" : Str) = SX.S [58] from rfl]
  simp only [SX.S_cat, TL.joinL]
  simp
theorem fig15 {n : Int} (h0 : 0 ≤ n) (h : n < 10 ^ 150) : den_law_figures [.int n] st = .ok (.str (Str.ofString (toString n))) st := by
  have q := figures_eq (st := st) (n := n.toNat) (by
    have e : ((10 ^ 150 : Nat) : Int) = (10 : Int) ^ 150 := by decide +kernel
    omega)
  rw [Int.toNat_of_nonneg h0] at q
  rw [q, fg_of h0]
local macro_rules
  | `(tactic| simp! only [$xs,*]) => `(tactic| simp (disch := first | assumption | exact id rfl | omega | (simp only [List.length_map, List.length_append, List.length_cons, List.length_nil, List.length_set, List.length_replicate, List.length_take, List.length_drop, List.length_reverse] <;> omega) | (simp only [if_true, if_false, eq_self, Nat.reduceEqDiff]; done) | (simp only [lo_non, lo_bl, lo_int, lo_str, lo_lst, lo_tup, lo_ins, loS_nil, loS_cons, loF_nil, loF_cons, loC_lst, loC_ins, loS_app, ev_1, ev_2, ev_3, ev_4, ev_6, ev_7, ev_8, ev_9, ev_10, ev_13, ev_14, ev_15, ev_16, ev_17, ev_18, ev_26, ev_27, ev_30, ev_31, ev_32, ev_33, ev_34, ev_35, ev_44, ev_45, ev_46, ev_47, ev_48, ev_49, ev_50, ev_51, ev_57, ev_58, lo_jars, lo_strs, lo_jD, lo_own, lo_rowL, lo_sh, lo_prs, lo_spD, lo_prD]; done) | fail) only [↓wp_ok, ↓wp_next, ↓wp_ret, ↓wp_sSeq, ↓wp_fnD, ↓outP_ret, ↓wp_outD_same, ↓wp_outD_keep, cmp_ii, neg_i, add_ii, sub_ii, mod_ii, len_lst, len_ro, len_tup, ↓wp_eK, ↓wp_eVar0, ↓wp_eVars, ↓wp_eBin, ↓wp_eUn, ↓wp_eArgs, ↓wp_aNil, ↓wp_aCons, ↓wp_tYes, ↓wp_tNot, ↓wp_tAnd, ↓wp_tOr, ↓wp_eIf, ↓wp_oNone, ↓wp_eSl, ↓wp_eFrz, ↓wp_eLc, ↓gwp_N, ↓gwp_nil, ↓gwp_cons, ↓gwp_T, ↓wp_sNext, ↓wp_sRet, ↓wp_sRetN, ↓wp_sExpr, ↓wp_sIf, ↓wp_sAsg, ↓par2_ok, ↓wp_sPar, ↓wp_sFor, tyChk_str, Den.sl_tup, okL_ok, list_tup, max_ii, min_ii, abs_i, ne_ii, eq_ii, eq_ss, ↓wp_eCall, okC_ok, ↓wp_outD_app, ↓wp_outD_st, app_app, mul_ib, fdiv_ib, divmod_ib, pow_ib, ofO_some, ↓wp_ofO, ix_lstE, ix_roE, ix_tupE, atI_0, atI_1, atI_2, atI_3, atI_4, atI_map, tyChk_lst, lo_non, lo_bl, lo_int, lo_str, lo_lst, lo_tup, lo_ins, loS_nil, loS_cons, loF_nil, loF_cons, loC_lst, loC_ins, loS_app, insOf_ins, add_ll', add_tt', add_ss', mkL_ok', mkT_ok', mkC_ok', len_str', ne_ss, imul_ib, iadd_ii, ↓wp_sAug, isN_non, isN_int, isN_str, isN_tup, isN_lst, notN_non, notN_int, notN_str, notN_tup, notN_lst, isi_str_non, isi_str_bl, isi_str_int, isi_str_str, isi_str_lst, isi_str_tup, isi_str_dct, isi_int_non, isi_int_bl, isi_int_int, isi_int_str, isi_int_lst, isi_int_tup, isi_int_dct, isi_bool_non, isi_bool_bl, isi_bool_int, isi_bool_str, isi_bool_lst, isi_bool_tup, isi_bool_dct, isi_list_non, isi_list_bl, isi_list_int, isi_list_str, isi_list_lst, isi_list_tup, isi_list_dct, isi_tuple_non, isi_tuple_bl, isi_tuple_int, isi_tuple_str, isi_tuple_lst, isi_tuple_tup, isi_tuple_dct, isi_dict_non, isi_dict_bl, isi_dict_int, isi_dict_str, isi_dict_lst, isi_dict_tup, isi_dict_dct, ↓insK_some, ↓optK_some, ↓cinK_app, ↓wp_eFldK, ↓wp_eMethK, ↓wp_sFldK, look_eq, look_ne, look_nil, put_nil, put_eq, put_ne, ↓blK_ok, ↓intK_ok, ↓strK_ok, ↓lstK_lst, ↓lstK_ro, ↓tupK_ok, ↓sqK_lst, ↓sqK_ro, ↓sqK_tup, ↓oneK_ok, ↓twoK_ok, ↓rngK_ok, ↓andK_true, ↓wk_tOf, ↓wk_eAnd, ↓wk_eOr, ↓wk_eNot, ↓wk_eChain, ↓wk_eM, ↓wk_oSome, ↓wk_iL, ↓wk_iT, ↓wk_iS, ↓wk_iR1, ↓wk_iR2, ↓wk_iEA, ↓wk_gsub, ↓lcK_ok, ↓lfK_ok, ↓lfK_fz, ↓szK_ok, ↓wk_append, ↓wk_reverse, ↓wk_clear, ↓wk_ixc, ↓frK_ok, ↓frK_fz, ↓wk_frz, ↓wk_frzL, ↓wk_lenc, ↓wk_setc, ↓wk_tyc, get_at0, get_at1, get_at2, get_at3, set_at0, set_at1, set_at2, set_at3, ↓wp_itemF, filterMap_some', filterMap_if, ↓itK_none, ↓itK_some, ↓wp_compN, ↓wp_forN, ↓wp_forC, ev_1, ev_2, ev_3, ev_4, ev_6, ev_7, ev_8, ev_9, ev_10, ev_11, ev_12, ev_13, ev_14, ev_15, ev_16, ev_17, ev_18, ev_19, ev_20, ev_21, ev_22, ev_23, ev_24, ev_25, ev_26, ev_27, ev_28, ev_29, ev_30, ev_31, ev_32, ev_33, ev_34, ev_35, ev_37, ev_38, ev_39, ev_40, ev_41, ev_42, ev_43, ev_44, ev_45, ev_46, ev_47, ev_48, ev_49, ev_50, ev_51, ev_54, ev_55, ev_56, ev_57, ev_58, ev_envOf, ev_wipe0, ev_wipe1, ev_rep0, ev_rep1, pick_cons, pick_nil, ↓szS_ok, ↓wk_jsN, ↓wk_js, fmt_s, fmt_i, str_i, str_s, int1_i, int1_b, isi_own, ↓wk_iZ, ↓wk_iV, zip_map, rev_lst, ↓par3_ok, ↓wp_sPar3, ↓truK_t, ↓truK_f, ↓wp_eOrT, truD_non, truD_bl, truD_int, truD_tup, truD_lst, ↓wk_slc, beqI_f, beqI_t, isub_ii, ifdiv_ib, ↓gwp_star1, ↓gwp_star0, lo_jars, lo_strs, lo_jD, lo_own, lo_rowL, lo_sh, ↓lstK_rowL, ↓sqK_rowL, ↓tupK_own, len_rowL, len_own, ix_rowL, ix_own, sl_rowL, tup_rowL, list_rowL, list_own, at_rd, at_rw, ↓frK_fzr, ↓lfK_fzr, lo_prs, lo_spD, lo_prD, ↓lstK_spD, ↓sqK_spD, len_spD, ix_spD, ↓reduceIte, Nat.reduceAdd, Nat.reduceSub, Nat.reduceLeDiff, Nat.reduceEqDiff, Nat.reduceLT, Nat.reduceBEq, Int.reduceDiv, reduceCtorEq, $xs,*])
  | `(tactic| dsimp! only [$xs,*]) => `(tactic| simp (disch := first | assumption | exact id rfl | omega | (simp only [List.length_map, List.length_append, List.length_cons, List.length_nil, List.length_set, List.length_replicate, List.length_take, List.length_drop, List.length_reverse] <;> omega) | (simp only [if_true, if_false, eq_self, Nat.reduceEqDiff]; done) | (simp only [lo_non, lo_bl, lo_int, lo_str, lo_lst, lo_tup, lo_ins, loS_nil, loS_cons, loF_nil, loF_cons, loC_lst, loC_ins, loS_app, ev_1, ev_2, ev_3, ev_4, ev_6, ev_7, ev_8, ev_9, ev_10, ev_13, ev_14, ev_15, ev_16, ev_17, ev_18, ev_26, ev_27, ev_30, ev_31, ev_32, ev_33, ev_34, ev_35, ev_44, ev_45, ev_46, ev_47, ev_48, ev_49, ev_50, ev_51, ev_57, ev_58, lo_jars, lo_strs, lo_jD, lo_own, lo_rowL, lo_sh, lo_prs, lo_spD, lo_prD]; done) | exact fun _ => id rfl | fail) only [↓wp_ok, ↓wp_next, ↓wp_ret, ↓wp_sSeq, ↓wp_fnD, ↓outP_ret, ↓wp_outD_same, ↓wp_outD_keep, cmp_ii, neg_i, add_ii, sub_ii, mod_ii, len_lst, len_ro, len_tup, ↓wp_eK, ↓wp_eVar0, ↓wp_eVars, ↓wp_eBin, ↓wp_eUn, ↓wp_eArgs, ↓wp_aNil, ↓wp_aCons, ↓wp_tYes, ↓wp_tNot, ↓wp_tAnd, ↓wp_tOr, ↓wp_eIf, ↓wp_oNone, ↓wp_eSl, ↓wp_eFrz, ↓wp_eLc, ↓gwp_N, ↓gwp_nil, ↓gwp_cons, ↓gwp_T, ↓wp_sNext, ↓wp_sRet, ↓wp_sRetN, ↓wp_sExpr, ↓wp_sIf, ↓wp_sAsg, ↓par2_ok, ↓wp_sPar, ↓wp_sFor, tyChk_str, Den.sl_tup, okL_ok, list_tup, max_ii, min_ii, abs_i, ne_ii, eq_ii, eq_ss, ↓wp_eCall, okC_ok, ↓wp_outD_app, ↓wp_outD_st, app_app, mul_ib, fdiv_ib, divmod_ib, pow_ib, ofO_some, ↓wp_ofO, ix_lstE, ix_roE, ix_tupE, atI_0, atI_1, atI_2, atI_3, atI_4, atI_map, tyChk_lst, lo_non, lo_bl, lo_int, lo_str, lo_lst, lo_tup, lo_ins, loS_nil, loS_cons, loF_nil, loF_cons, loC_lst, loC_ins, loS_app, insOf_ins, add_ll', add_tt', add_ss', mkL_ok', mkT_ok', mkC_ok', len_str', ne_ss, imul_ib, iadd_ii, ↓wp_sAug, isN_non, isN_int, isN_str, isN_tup, isN_lst, notN_non, notN_int, notN_str, notN_tup, notN_lst, isi_str_non, isi_str_bl, isi_str_int, isi_str_str, isi_str_lst, isi_str_tup, isi_str_dct, isi_int_non, isi_int_bl, isi_int_int, isi_int_str, isi_int_lst, isi_int_tup, isi_int_dct, isi_bool_non, isi_bool_bl, isi_bool_int, isi_bool_str, isi_bool_lst, isi_bool_tup, isi_bool_dct, isi_list_non, isi_list_bl, isi_list_int, isi_list_str, isi_list_lst, isi_list_tup, isi_list_dct, isi_tuple_non, isi_tuple_bl, isi_tuple_int, isi_tuple_str, isi_tuple_lst, isi_tuple_tup, isi_tuple_dct, isi_dict_non, isi_dict_bl, isi_dict_int, isi_dict_str, isi_dict_lst, isi_dict_tup, isi_dict_dct, ↓insK_some, ↓optK_some, ↓cinK_app, ↓wp_eFldK, ↓wp_eMethK, ↓wp_sFldK, look_eq, look_ne, look_nil, put_nil, put_eq, put_ne, ↓blK_ok, ↓intK_ok, ↓strK_ok, ↓lstK_lst, ↓lstK_ro, ↓tupK_ok, ↓sqK_lst, ↓sqK_ro, ↓sqK_tup, ↓oneK_ok, ↓twoK_ok, ↓rngK_ok, ↓andK_true, ↓wk_tOf, ↓wk_eAnd, ↓wk_eOr, ↓wk_eNot, ↓wk_eChain, ↓wk_eM, ↓wk_oSome, ↓wk_iL, ↓wk_iT, ↓wk_iS, ↓wk_iR1, ↓wk_iR2, ↓wk_iEA, ↓wk_gsub, ↓lcK_ok, ↓lfK_ok, ↓lfK_fz, ↓szK_ok, ↓wk_append, ↓wk_reverse, ↓wk_clear, ↓wk_ixc, ↓frK_ok, ↓frK_fz, ↓wk_frz, ↓wk_frzL, ↓wk_lenc, ↓wk_setc, ↓wk_tyc, get_at0, get_at1, get_at2, get_at3, set_at0, set_at1, set_at2, set_at3, ↓wp_itemF, filterMap_some', filterMap_if, ↓itK_none, ↓itK_some, ↓wp_compN, ↓wp_forN, ↓wp_forC, ev_1, ev_2, ev_3, ev_4, ev_6, ev_7, ev_8, ev_9, ev_10, ev_11, ev_12, ev_13, ev_14, ev_15, ev_16, ev_17, ev_18, ev_19, ev_20, ev_21, ev_22, ev_23, ev_24, ev_25, ev_26, ev_27, ev_28, ev_29, ev_30, ev_31, ev_32, ev_33, ev_34, ev_35, ev_37, ev_38, ev_39, ev_40, ev_41, ev_42, ev_43, ev_44, ev_45, ev_46, ev_47, ev_48, ev_49, ev_50, ev_51, ev_54, ev_55, ev_56, ev_57, ev_58, ev_envOf, ev_wipe0, ev_wipe1, ev_rep0, ev_rep1, pick_cons, pick_nil, ↓szS_ok, ↓wk_jsN, ↓wk_js, fmt_s, fmt_i, str_i, str_s, int1_i, int1_b, isi_own, ↓wk_iZ, ↓wk_iV, zip_map, rev_lst, ↓par3_ok, ↓wp_sPar3, ↓truK_t, ↓truK_f, ↓wp_eOrT, truD_non, truD_bl, truD_int, truD_tup, truD_lst, ↓wk_slc, beqI_f, beqI_t, isub_ii, ifdiv_ib, ↓gwp_star1, ↓gwp_star0, lo_jars, lo_strs, lo_jD, lo_own, lo_rowL, lo_sh, ↓lstK_rowL, ↓sqK_rowL, ↓tupK_own, len_rowL, len_own, ix_rowL, ix_own, sl_rowL, tup_rowL, list_rowL, list_own, at_rd, at_rw, ↓frK_fzr, ↓lfK_fzr, lo_prs, lo_spD, lo_prD, ↓lstK_spD, ↓sqK_spD, len_spD, ix_spD, ↓reduceIte, Nat.reduceAdd, Nat.reduceSub, Nat.reduceLeDiff, Nat.reduceEqDiff, Nat.reduceLT, Nat.reduceBEq, Int.reduceDiv, reduceCtorEq, $xs,*])
  | `(tactic| simp_all! only [$xs,*]) => `(tactic| simp only [↓wp_ok, ↓wp_next, ↓wp_ret, ↓wp_sSeq, ↓wp_fnD, ↓outP_ret, ↓wp_outD_same, ↓wp_outD_keep, cmp_ii, neg_i, add_ii, sub_ii, mod_ii, len_lst, len_ro, len_tup, ↓wp_eK, ↓wp_eVar0, ↓wp_eVars, ↓wp_eBin, ↓wp_eUn, ↓wp_eArgs, ↓wp_aNil, ↓wp_aCons, ↓wp_tYes, ↓wp_tNot, ↓wp_tAnd, ↓wp_tOr, ↓wp_eIf, ↓wp_oNone, ↓wp_eSl, ↓wp_eFrz, ↓wp_eLc, ↓gwp_N, ↓gwp_nil, ↓gwp_cons, ↓gwp_T, ↓wp_sNext, ↓wp_sRet, ↓wp_sRetN, ↓wp_sExpr, ↓wp_sIf, ↓wp_sAsg, ↓par2_ok, ↓wp_sPar, ↓wp_sFor, tyChk_str, Den.sl_tup, okL_ok, list_tup, max_ii, min_ii, abs_i, ne_ii, eq_ii, eq_ss, ↓wp_eCall, okC_ok, ↓wp_outD_app, ↓wp_outD_st, app_app, mul_ib, fdiv_ib, divmod_ib, pow_ib, ofO_some, ↓wp_ofO, ix_lstE, ix_roE, ix_tupE, atI_0, atI_1, atI_2, atI_3, atI_4, atI_map, tyChk_lst, lo_non, lo_bl, lo_int, lo_str, lo_lst, lo_tup, lo_ins, loS_nil, loS_cons, loF_nil, loF_cons, loC_lst, loC_ins, loS_app, insOf_ins, add_ll', add_tt', add_ss', mkL_ok', mkT_ok', mkC_ok', len_str', ne_ss, imul_ib, iadd_ii, ↓wp_sAug, isN_non, isN_int, isN_str, isN_tup, isN_lst, notN_non, notN_int, notN_str, notN_tup, notN_lst, isi_str_non, isi_str_bl, isi_str_int, isi_str_str, isi_str_lst, isi_str_tup, isi_str_dct, isi_int_non, isi_int_bl, isi_int_int, isi_int_str, isi_int_lst, isi_int_tup, isi_int_dct, isi_bool_non, isi_bool_bl, isi_bool_int, isi_bool_str, isi_bool_lst, isi_bool_tup, isi_bool_dct, isi_list_non, isi_list_bl, isi_list_int, isi_list_str, isi_list_lst, isi_list_tup, isi_list_dct, isi_tuple_non, isi_tuple_bl, isi_tuple_int, isi_tuple_str, isi_tuple_lst, isi_tuple_tup, isi_tuple_dct, isi_dict_non, isi_dict_bl, isi_dict_int, isi_dict_str, isi_dict_lst, isi_dict_tup, isi_dict_dct, ↓insK_some, ↓optK_some, ↓cinK_app, ↓wp_eFldK, ↓wp_eMethK, ↓wp_sFldK, look_eq, look_ne, look_nil, put_nil, put_eq, put_ne, ↓blK_ok, ↓intK_ok, ↓strK_ok, ↓lstK_lst, ↓lstK_ro, ↓tupK_ok, ↓sqK_lst, ↓sqK_ro, ↓sqK_tup, ↓oneK_ok, ↓twoK_ok, ↓rngK_ok, ↓andK_true, ↓wk_tOf, ↓wk_eAnd, ↓wk_eOr, ↓wk_eNot, ↓wk_eChain, ↓wk_eM, ↓wk_oSome, ↓wk_iL, ↓wk_iT, ↓wk_iS, ↓wk_iR1, ↓wk_iR2, ↓wk_iEA, ↓wk_gsub, ↓lcK_ok, ↓lfK_ok, ↓lfK_fz, ↓szK_ok, ↓wk_append, ↓wk_reverse, ↓wk_clear, ↓wk_ixc, ↓frK_ok, ↓frK_fz, ↓wk_frz, ↓wk_frzL, ↓wk_lenc, ↓wk_setc, ↓wk_tyc, get_at0, get_at1, get_at2, get_at3, set_at0, set_at1, set_at2, set_at3, ↓wp_itemF, filterMap_some', filterMap_if, ↓itK_none, ↓itK_some, ↓wp_compN, ↓wp_forN, ↓wp_forC, ev_1, ev_2, ev_3, ev_4, ev_6, ev_7, ev_8, ev_9, ev_10, ev_11, ev_12, ev_13, ev_14, ev_15, ev_16, ev_17, ev_18, ev_19, ev_20, ev_21, ev_22, ev_23, ev_24, ev_25, ev_26, ev_27, ev_28, ev_29, ev_30, ev_31, ev_32, ev_33, ev_34, ev_35, ev_37, ev_38, ev_39, ev_40, ev_41, ev_42, ev_43, ev_44, ev_45, ev_46, ev_47, ev_48, ev_49, ev_50, ev_51, ev_54, ev_55, ev_56, ev_57, ev_58, ev_envOf, ev_wipe0, ev_wipe1, ev_rep0, ev_rep1, pick_cons, pick_nil, ↓szS_ok, ↓wk_jsN, ↓wk_js, fmt_s, fmt_i, str_i, str_s, int1_i, int1_b, isi_own, ↓wk_iZ, ↓wk_iV, zip_map, rev_lst, ↓par3_ok, ↓wp_sPar3, ↓truK_t, ↓truK_f, ↓wp_eOrT, truD_non, truD_bl, truD_int, truD_tup, truD_lst, ↓wk_slc, beqI_f, beqI_t, isub_ii, ifdiv_ib, ↓gwp_star1, ↓gwp_star0, lo_jars, lo_strs, lo_jD, lo_own, lo_rowL, lo_sh, ↓lstK_rowL, ↓sqK_rowL, ↓tupK_own, len_rowL, len_own, ix_rowL, ix_own, sl_rowL, tup_rowL, list_rowL, list_own, at_rd, at_rw, ↓frK_fzr, ↓lfK_fzr, lo_prs, lo_spD, lo_prD, ↓lstK_spD, ↓sqK_spD, len_spD, ix_spD, $xs,*])
theorem words15 (h : JsB B ts) (hB : B ≤ 10 ^ 150) : den_law_words [rowL ts] st = .ok (.lst (ts.map fun t => D.str (jw t))) st := by
  refine Res.eq_of_wp ?_
  unfold den_law_words
  have h12 := h.le
  simp! only [rowL]
  refine wp_compX (F := fun t => some (D.str (jw t))) (fun t hm => ?_) (by omega) ?_
  · obtain ⟨a, b⟩ := jnat h hB t hm
    have l1 := (h.lb t hm).len
    have l2 := int_len a
    have l3 := int_len b
    have b2 := h.b2 t hm
    have b6 := h.b6 t hm
    have g0 := h.g0 t hm
    have gB := h.gB t hm
    have f1 := fun st => fig15 (st := st) (n := t.2.1) (by omega) (by omega)
    have f2 := fun st => fig15 (st := st) (n := t.2.2) g0 (by omega)
    have lc : Str.length ":" = 1 := rfl
    have a1 : ∀ st, addD (.str t.1) (.str ":") st = .ok (.str (t.1 ++ ":")) st := fun st => add_sb (by rw [lc]; omega)
    have a2 : ∀ st, addD (.str (t.1 ++ ":")) (.str (Str.ofString (toString t.2.1))) st = .ok (.str ((t.1 ++ ":") ++ Str.ofString (toString t.2.1))) st := fun st => add_sb (by rw [str_len_app, lc]; omega)
    have a3 : ∀ st, addD (.str ((t.1 ++ ":") ++ Str.ofString (toString t.2.1))) (.str ":") st = .ok (.str (((t.1 ++ ":") ++ Str.ofString (toString t.2.1)) ++ ":")) st := fun st => add_sb (by rw [str_len_app, str_len_app, lc]; omega)
    have a4 : ∀ st, addD (.str (((t.1 ++ ":") ++ Str.ofString (toString t.2.1)) ++ ":")) (.str (Str.ofString (toString t.2.2))) st = .ok (.str ((((t.1 ++ ":") ++ Str.ofString (toString t.2.1)) ++ ":") ++ Str.ofString (toString t.2.2))) st := fun st => add_sb (by rw [str_len_app, str_len_app, str_len_app, lc]; omega)
    simp! only [jD, f1, f2, a1, a2, a3, a4]
    rw [jw_eq]
  rw [filterMap_some']
  simp! only [and_self]
end
end Q

namespace Q
open PySem PySem.Spec PyProof.Rows L2 Den
section
variable {st : Store} {ts us : List J3} {B n : Int} {t : J3} {o : Option Int}
local macro_rules
  | `(tactic| simp! only [$xs,*]) => `(tactic| simp (disch := first | assumption | exact id rfl | omega | (simp only [List.length_map, List.length_append, List.length_cons, List.length_nil, List.length_set, List.length_replicate, List.length_take, List.length_drop, List.length_reverse] <;> omega) | (simp only [if_true, if_false, eq_self, Nat.reduceEqDiff]; done) | (simp only [lo_non, lo_bl, lo_int, lo_str, lo_lst, lo_tup, lo_ins, loS_nil, loS_cons, loF_nil, loF_cons, loC_lst, loC_ins, loS_app, ev_1, ev_2, ev_3, ev_4, ev_6, ev_7, ev_8, ev_9, ev_10, ev_13, ev_14, ev_15, ev_16, ev_17, ev_18, ev_26, ev_27, ev_30, ev_31, ev_32, ev_33, ev_34, ev_35, ev_44, ev_45, ev_46, ev_47, ev_48, ev_49, ev_50, ev_51, ev_57, ev_58, lo_jars, lo_strs, lo_jD, lo_own, lo_rowL, lo_sh, lo_prs, lo_spD, lo_prD]; done) | fail) only [↓wp_ok, ↓wp_next, ↓wp_ret, ↓wp_sSeq, ↓wp_fnD, ↓outP_ret, ↓wp_outD_same, ↓wp_outD_keep, cmp_ii, neg_i, add_ii, sub_ii, mod_ii, len_lst, len_ro, len_tup, ↓wp_eK, ↓wp_eVar0, ↓wp_eVars, ↓wp_eBin, ↓wp_eUn, ↓wp_eArgs, ↓wp_aNil, ↓wp_aCons, ↓wp_tYes, ↓wp_tNot, ↓wp_tAnd, ↓wp_tOr, ↓wp_eIf, ↓wp_oNone, ↓wp_eSl, ↓wp_eFrz, ↓wp_eLc, ↓gwp_N, ↓gwp_nil, ↓gwp_cons, ↓gwp_T, ↓wp_sNext, ↓wp_sRet, ↓wp_sRetN, ↓wp_sExpr, ↓wp_sIf, ↓wp_sAsg, ↓par2_ok, ↓wp_sPar, ↓wp_sFor, tyChk_str, Den.sl_tup, okL_ok, list_tup, max_ii, min_ii, abs_i, ne_ii, eq_ii, eq_ss, ↓wp_eCall, okC_ok, ↓wp_outD_app, ↓wp_outD_st, app_app, mul_ib, fdiv_ib, divmod_ib, pow_ib, ofO_some, ↓wp_ofO, ix_lstE, ix_roE, ix_tupE, atI_0, atI_1, atI_2, atI_3, atI_4, atI_map, tyChk_lst, lo_non, lo_bl, lo_int, lo_str, lo_lst, lo_tup, lo_ins, loS_nil, loS_cons, loF_nil, loF_cons, loC_lst, loC_ins, loS_app, insOf_ins, add_ll', add_tt', add_ss', mkL_ok', mkT_ok', mkC_ok', len_str', ne_ss, imul_ib, iadd_ii, ↓wp_sAug, isN_non, isN_int, isN_str, isN_tup, isN_lst, notN_non, notN_int, notN_str, notN_tup, notN_lst, isi_str_non, isi_str_bl, isi_str_int, isi_str_str, isi_str_lst, isi_str_tup, isi_str_dct, isi_int_non, isi_int_bl, isi_int_int, isi_int_str, isi_int_lst, isi_int_tup, isi_int_dct, isi_bool_non, isi_bool_bl, isi_bool_int, isi_bool_str, isi_bool_lst, isi_bool_tup, isi_bool_dct, isi_list_non, isi_list_bl, isi_list_int, isi_list_str, isi_list_lst, isi_list_tup, isi_list_dct, isi_tuple_non, isi_tuple_bl, isi_tuple_int, isi_tuple_str, isi_tuple_lst, isi_tuple_tup, isi_tuple_dct, isi_dict_non, isi_dict_bl, isi_dict_int, isi_dict_str, isi_dict_lst, isi_dict_tup, isi_dict_dct, ↓insK_some, ↓optK_some, ↓cinK_app, ↓wp_eFldK, ↓wp_eMethK, ↓wp_sFldK, look_eq, look_ne, look_nil, put_nil, put_eq, put_ne, ↓blK_ok, ↓intK_ok, ↓strK_ok, ↓lstK_lst, ↓lstK_ro, ↓tupK_ok, ↓sqK_lst, ↓sqK_ro, ↓sqK_tup, ↓oneK_ok, ↓twoK_ok, ↓rngK_ok, ↓andK_true, ↓wk_tOf, ↓wk_eAnd, ↓wk_eOr, ↓wk_eNot, ↓wk_eChain, ↓wk_eM, ↓wk_oSome, ↓wk_iL, ↓wk_iT, ↓wk_iS, ↓wk_iR1, ↓wk_iR2, ↓wk_iEA, ↓wk_gsub, ↓lcK_ok, ↓lfK_ok, ↓lfK_fz, ↓szK_ok, ↓wk_append, ↓wk_reverse, ↓wk_clear, ↓wk_ixc, ↓frK_ok, ↓frK_fz, ↓wk_frz, ↓wk_frzL, ↓wk_lenc, ↓wk_setc, ↓wk_tyc, get_at0, get_at1, get_at2, get_at3, set_at0, set_at1, set_at2, set_at3, ↓wp_itemF, filterMap_some', filterMap_if, ↓itK_none, ↓itK_some, ↓wp_compN, ↓wp_forN, ↓wp_forC, ev_1, ev_2, ev_3, ev_4, ev_6, ev_7, ev_8, ev_9, ev_10, ev_11, ev_12, ev_13, ev_14, ev_15, ev_16, ev_17, ev_18, ev_19, ev_20, ev_21, ev_22, ev_23, ev_24, ev_25, ev_26, ev_27, ev_28, ev_29, ev_30, ev_31, ev_32, ev_33, ev_34, ev_35, ev_37, ev_38, ev_39, ev_40, ev_41, ev_42, ev_43, ev_44, ev_45, ev_46, ev_47, ev_48, ev_49, ev_50, ev_51, ev_54, ev_55, ev_56, ev_57, ev_58, ev_envOf, ev_wipe0, ev_wipe1, ev_rep0, ev_rep1, pick_cons, pick_nil, ↓szS_ok, ↓wk_jsN, ↓wk_js, fmt_s, fmt_i, str_i, str_s, int1_i, int1_b, isi_own, ↓wk_iZ, ↓wk_iV, zip_map, rev_lst, ↓par3_ok, ↓wp_sPar3, ↓truK_t, ↓truK_f, ↓wp_eOrT, truD_non, truD_bl, truD_int, truD_tup, truD_lst, ↓wk_slc, beqI_f, beqI_t, isub_ii, ifdiv_ib, ↓gwp_star1, ↓gwp_star0, lo_jars, lo_strs, lo_jD, lo_own, lo_rowL, lo_sh, ↓lstK_rowL, ↓sqK_rowL, ↓tupK_own, len_rowL, len_own, ix_rowL, ix_own, sl_rowL, tup_rowL, list_rowL, list_own, at_rd, at_rw, ↓frK_fzr, ↓lfK_fzr, lo_prs, lo_spD, lo_prD, ↓lstK_spD, ↓sqK_spD, len_spD, ix_spD, ↓reduceIte, Nat.reduceAdd, Nat.reduceSub, Nat.reduceLeDiff, Nat.reduceEqDiff, Nat.reduceLT, Nat.reduceBEq, Int.reduceDiv, reduceCtorEq, $xs,*])
  | `(tactic| dsimp! only [$xs,*]) => `(tactic| simp (disch := first | assumption | exact id rfl | omega | (simp only [List.length_map, List.length_append, List.length_cons, List.length_nil, List.length_set, List.length_replicate, List.length_take, List.length_drop, List.length_reverse] <;> omega) | (simp only [if_true, if_false, eq_self, Nat.reduceEqDiff]; done) | (simp only [lo_non, lo_bl, lo_int, lo_str, lo_lst, lo_tup, lo_ins, loS_nil, loS_cons, loF_nil, loF_cons, loC_lst, loC_ins, loS_app, ev_1, ev_2, ev_3, ev_4, ev_6, ev_7, ev_8, ev_9, ev_10, ev_13, ev_14, ev_15, ev_16, ev_17, ev_18, ev_26, ev_27, ev_30, ev_31, ev_32, ev_33, ev_34, ev_35, ev_44, ev_45, ev_46, ev_47, ev_48, ev_49, ev_50, ev_51, ev_57, ev_58, lo_jars, lo_strs, lo_jD, lo_own, lo_rowL, lo_sh, lo_prs, lo_spD, lo_prD]; done) | exact fun _ => id rfl | fail) only [↓wp_ok, ↓wp_next, ↓wp_ret, ↓wp_sSeq, ↓wp_fnD, ↓outP_ret, ↓wp_outD_same, ↓wp_outD_keep, cmp_ii, neg_i, add_ii, sub_ii, mod_ii, len_lst, len_ro, len_tup, ↓wp_eK, ↓wp_eVar0, ↓wp_eVars, ↓wp_eBin, ↓wp_eUn, ↓wp_eArgs, ↓wp_aNil, ↓wp_aCons, ↓wp_tYes, ↓wp_tNot, ↓wp_tAnd, ↓wp_tOr, ↓wp_eIf, ↓wp_oNone, ↓wp_eSl, ↓wp_eFrz, ↓wp_eLc, ↓gwp_N, ↓gwp_nil, ↓gwp_cons, ↓gwp_T, ↓wp_sNext, ↓wp_sRet, ↓wp_sRetN, ↓wp_sExpr, ↓wp_sIf, ↓wp_sAsg, ↓par2_ok, ↓wp_sPar, ↓wp_sFor, tyChk_str, Den.sl_tup, okL_ok, list_tup, max_ii, min_ii, abs_i, ne_ii, eq_ii, eq_ss, ↓wp_eCall, okC_ok, ↓wp_outD_app, ↓wp_outD_st, app_app, mul_ib, fdiv_ib, divmod_ib, pow_ib, ofO_some, ↓wp_ofO, ix_lstE, ix_roE, ix_tupE, atI_0, atI_1, atI_2, atI_3, atI_4, atI_map, tyChk_lst, lo_non, lo_bl, lo_int, lo_str, lo_lst, lo_tup, lo_ins, loS_nil, loS_cons, loF_nil, loF_cons, loC_lst, loC_ins, loS_app, insOf_ins, add_ll', add_tt', add_ss', mkL_ok', mkT_ok', mkC_ok', len_str', ne_ss, imul_ib, iadd_ii, ↓wp_sAug, isN_non, isN_int, isN_str, isN_tup, isN_lst, notN_non, notN_int, notN_str, notN_tup, notN_lst, isi_str_non, isi_str_bl, isi_str_int, isi_str_str, isi_str_lst, isi_str_tup, isi_str_dct, isi_int_non, isi_int_bl, isi_int_int, isi_int_str, isi_int_lst, isi_int_tup, isi_int_dct, isi_bool_non, isi_bool_bl, isi_bool_int, isi_bool_str, isi_bool_lst, isi_bool_tup, isi_bool_dct, isi_list_non, isi_list_bl, isi_list_int, isi_list_str, isi_list_lst, isi_list_tup, isi_list_dct, isi_tuple_non, isi_tuple_bl, isi_tuple_int, isi_tuple_str, isi_tuple_lst, isi_tuple_tup, isi_tuple_dct, isi_dict_non, isi_dict_bl, isi_dict_int, isi_dict_str, isi_dict_lst, isi_dict_tup, isi_dict_dct, ↓insK_some, ↓optK_some, ↓cinK_app, ↓wp_eFldK, ↓wp_eMethK, ↓wp_sFldK, look_eq, look_ne, look_nil, put_nil, put_eq, put_ne, ↓blK_ok, ↓intK_ok, ↓strK_ok, ↓lstK_lst, ↓lstK_ro, ↓tupK_ok, ↓sqK_lst, ↓sqK_ro, ↓sqK_tup, ↓oneK_ok, ↓twoK_ok, ↓rngK_ok, ↓andK_true, ↓wk_tOf, ↓wk_eAnd, ↓wk_eOr, ↓wk_eNot, ↓wk_eChain, ↓wk_eM, ↓wk_oSome, ↓wk_iL, ↓wk_iT, ↓wk_iS, ↓wk_iR1, ↓wk_iR2, ↓wk_iEA, ↓wk_gsub, ↓lcK_ok, ↓lfK_ok, ↓lfK_fz, ↓szK_ok, ↓wk_append, ↓wk_reverse, ↓wk_clear, ↓wk_ixc, ↓frK_ok, ↓frK_fz, ↓wk_frz, ↓wk_frzL, ↓wk_lenc, ↓wk_setc, ↓wk_tyc, get_at0, get_at1, get_at2, get_at3, set_at0, set_at1, set_at2, set_at3, ↓wp_itemF, filterMap_some', filterMap_if, ↓itK_none, ↓itK_some, ↓wp_compN, ↓wp_forN, ↓wp_forC, ev_1, ev_2, ev_3, ev_4, ev_6, ev_7, ev_8, ev_9, ev_10, ev_11, ev_12, ev_13, ev_14, ev_15, ev_16, ev_17, ev_18, ev_19, ev_20, ev_21, ev_22, ev_23, ev_24, ev_25, ev_26, ev_27, ev_28, ev_29, ev_30, ev_31, ev_32, ev_33, ev_34, ev_35, ev_37, ev_38, ev_39, ev_40, ev_41, ev_42, ev_43, ev_44, ev_45, ev_46, ev_47, ev_48, ev_49, ev_50, ev_51, ev_54, ev_55, ev_56, ev_57, ev_58, ev_envOf, ev_wipe0, ev_wipe1, ev_rep0, ev_rep1, pick_cons, pick_nil, ↓szS_ok, ↓wk_jsN, ↓wk_js, fmt_s, fmt_i, str_i, str_s, int1_i, int1_b, isi_own, ↓wk_iZ, ↓wk_iV, zip_map, rev_lst, ↓par3_ok, ↓wp_sPar3, ↓truK_t, ↓truK_f, ↓wp_eOrT, truD_non, truD_bl, truD_int, truD_tup, truD_lst, ↓wk_slc, beqI_f, beqI_t, isub_ii, ifdiv_ib, ↓gwp_star1, ↓gwp_star0, lo_jars, lo_strs, lo_jD, lo_own, lo_rowL, lo_sh, ↓lstK_rowL, ↓sqK_rowL, ↓tupK_own, len_rowL, len_own, ix_rowL, ix_own, sl_rowL, tup_rowL, list_rowL, list_own, at_rd, at_rw, ↓frK_fzr, ↓lfK_fzr, lo_prs, lo_spD, lo_prD, ↓lstK_spD, ↓sqK_spD, len_spD, ix_spD, ↓reduceIte, Nat.reduceAdd, Nat.reduceSub, Nat.reduceLeDiff, Nat.reduceEqDiff, Nat.reduceLT, Nat.reduceBEq, Int.reduceDiv, reduceCtorEq, $xs,*])
  | `(tactic| simp_all! only [$xs,*]) => `(tactic| simp only [↓wp_ok, ↓wp_next, ↓wp_ret, ↓wp_sSeq, ↓wp_fnD, ↓outP_ret, ↓wp_outD_same, ↓wp_outD_keep, cmp_ii, neg_i, add_ii, sub_ii, mod_ii, len_lst, len_ro, len_tup, ↓wp_eK, ↓wp_eVar0, ↓wp_eVars, ↓wp_eBin, ↓wp_eUn, ↓wp_eArgs, ↓wp_aNil, ↓wp_aCons, ↓wp_tYes, ↓wp_tNot, ↓wp_tAnd, ↓wp_tOr, ↓wp_eIf, ↓wp_oNone, ↓wp_eSl, ↓wp_eFrz, ↓wp_eLc, ↓gwp_N, ↓gwp_nil, ↓gwp_cons, ↓gwp_T, ↓wp_sNext, ↓wp_sRet, ↓wp_sRetN, ↓wp_sExpr, ↓wp_sIf, ↓wp_sAsg, ↓par2_ok, ↓wp_sPar, ↓wp_sFor, tyChk_str, Den.sl_tup, okL_ok, list_tup, max_ii, min_ii, abs_i, ne_ii, eq_ii, eq_ss, ↓wp_eCall, okC_ok, ↓wp_outD_app, ↓wp_outD_st, app_app, mul_ib, fdiv_ib, divmod_ib, pow_ib, ofO_some, ↓wp_ofO, ix_lstE, ix_roE, ix_tupE, atI_0, atI_1, atI_2, atI_3, atI_4, atI_map, tyChk_lst, lo_non, lo_bl, lo_int, lo_str, lo_lst, lo_tup, lo_ins, loS_nil, loS_cons, loF_nil, loF_cons, loC_lst, loC_ins, loS_app, insOf_ins, add_ll', add_tt', add_ss', mkL_ok', mkT_ok', mkC_ok', len_str', ne_ss, imul_ib, iadd_ii, ↓wp_sAug, isN_non, isN_int, isN_str, isN_tup, isN_lst, notN_non, notN_int, notN_str, notN_tup, notN_lst, isi_str_non, isi_str_bl, isi_str_int, isi_str_str, isi_str_lst, isi_str_tup, isi_str_dct, isi_int_non, isi_int_bl, isi_int_int, isi_int_str, isi_int_lst, isi_int_tup, isi_int_dct, isi_bool_non, isi_bool_bl, isi_bool_int, isi_bool_str, isi_bool_lst, isi_bool_tup, isi_bool_dct, isi_list_non, isi_list_bl, isi_list_int, isi_list_str, isi_list_lst, isi_list_tup, isi_list_dct, isi_tuple_non, isi_tuple_bl, isi_tuple_int, isi_tuple_str, isi_tuple_lst, isi_tuple_tup, isi_tuple_dct, isi_dict_non, isi_dict_bl, isi_dict_int, isi_dict_str, isi_dict_lst, isi_dict_tup, isi_dict_dct, ↓insK_some, ↓optK_some, ↓cinK_app, ↓wp_eFldK, ↓wp_eMethK, ↓wp_sFldK, look_eq, look_ne, look_nil, put_nil, put_eq, put_ne, ↓blK_ok, ↓intK_ok, ↓strK_ok, ↓lstK_lst, ↓lstK_ro, ↓tupK_ok, ↓sqK_lst, ↓sqK_ro, ↓sqK_tup, ↓oneK_ok, ↓twoK_ok, ↓rngK_ok, ↓andK_true, ↓wk_tOf, ↓wk_eAnd, ↓wk_eOr, ↓wk_eNot, ↓wk_eChain, ↓wk_eM, ↓wk_oSome, ↓wk_iL, ↓wk_iT, ↓wk_iS, ↓wk_iR1, ↓wk_iR2, ↓wk_iEA, ↓wk_gsub, ↓lcK_ok, ↓lfK_ok, ↓lfK_fz, ↓szK_ok, ↓wk_append, ↓wk_reverse, ↓wk_clear, ↓wk_ixc, ↓frK_ok, ↓frK_fz, ↓wk_frz, ↓wk_frzL, ↓wk_lenc, ↓wk_setc, ↓wk_tyc, get_at0, get_at1, get_at2, get_at3, set_at0, set_at1, set_at2, set_at3, ↓wp_itemF, filterMap_some', filterMap_if, ↓itK_none, ↓itK_some, ↓wp_compN, ↓wp_forN, ↓wp_forC, ev_1, ev_2, ev_3, ev_4, ev_6, ev_7, ev_8, ev_9, ev_10, ev_11, ev_12, ev_13, ev_14, ev_15, ev_16, ev_17, ev_18, ev_19, ev_20, ev_21, ev_22, ev_23, ev_24, ev_25, ev_26, ev_27, ev_28, ev_29, ev_30, ev_31, ev_32, ev_33, ev_34, ev_35, ev_37, ev_38, ev_39, ev_40, ev_41, ev_42, ev_43, ev_44, ev_45, ev_46, ev_47, ev_48, ev_49, ev_50, ev_51, ev_54, ev_55, ev_56, ev_57, ev_58, ev_envOf, ev_wipe0, ev_wipe1, ev_rep0, ev_rep1, pick_cons, pick_nil, ↓szS_ok, ↓wk_jsN, ↓wk_js, fmt_s, fmt_i, str_i, str_s, int1_i, int1_b, isi_own, ↓wk_iZ, ↓wk_iV, zip_map, rev_lst, ↓par3_ok, ↓wp_sPar3, ↓truK_t, ↓truK_f, ↓wp_eOrT, truD_non, truD_bl, truD_int, truD_tup, truD_lst, ↓wk_slc, beqI_f, beqI_t, isub_ii, ifdiv_ib, ↓gwp_star1, ↓gwp_star0, lo_jars, lo_strs, lo_jD, lo_own, lo_rowL, lo_sh, ↓lstK_rowL, ↓sqK_rowL, ↓tupK_own, len_rowL, len_own, ix_rowL, ix_own, sl_rowL, tup_rowL, list_rowL, list_own, at_rd, at_rw, ↓frK_fzr, ↓lfK_fzr, lo_prs, lo_spD, lo_prD, ↓lstK_spD, ↓sqK_spD, len_spD, ix_spD, $xs,*])
theorem turned15 (h : JsB B ts) : den_law_turned [rowL ts] st = .ok (rowL (turn ts)) st := by
  refine Res.eq_of_wp ?_
  unfold den_law_turned
  have h12 := h.le
  simp! only [and_self]
  refine wp_compX (F := ?F1) (fun x hx => ?h1) (by first | assumption | omega | (simp only [List.length_map, List.length_append, List.length_cons, List.length_nil, List.length_set, List.length_replicate, List.length_take, List.length_drop, List.length_reverse] <;> omega)) ?q1
  case h1 =>
    simp! only [jD]
    exact rfl
  have en : List.map (fun x : J3 => D.str x.1) ts = (nms ts).map D.str := by simp [nms]
  have ad : addD (.lst (cutD (ts.map jD) (some (((nms ts).idxOf (minStr (nms ts)) : Nat) : Int)) none)) (.lst (cutD (ts.map jD) none (some (((nms ts).idxOf (minStr (nms ts)) : Nat) : Int)))) st = .ok (rowL (turn ts)) st := by
    rw [add_ll' (by rw [cutD_from, cutD_to]; simp; omega), row_cut]; rfl
  simp! only [en, min_strs (nms_ne h), index_strs (minStr_mem (nms_ne h)), ad]
theorem sg_jw (h : Lb t.1) : Sg (jw t) := by
  rw [jw_eq]
  exact ((((Sg.lb h).app (Sg.str ":")).app (Sg.str _)).app (Sg.str ":")).app (Sg.str _)
theorem sg_jtx (h : JsB B ts) : Sg (jtx ts) := by
  unfold jtx
  rw [TL.join_eq]
  refine Sg.join (Sg.str "") fun x hx => ?_
  obtain ⟨t, ht, rfl⟩ := List.mem_map.mp hx
  exact (Sg.str " ").app (sg_jw (h.lb t ht))
theorem shown15 (h : JsB (10 ^ 60) ts) (n0 : 0 ≤ n) (n1 : n < 10 ^ 60) : den_law_are_shown [.lst [shD (.rd (turn ts)), shD (.rw ts n)], rowL ts, .int n] st = .ok (.bl true) st := by
  refine Res.eq_of_wp ?_
  unfold den_law_are_shown
  have hB : (10 : Int) ^ 60 ≤ 10 ^ 150 := by decide +kernel
  have h12 := h.le
  have ht := h.turn
  have t12 := ht.le
  have tn : n.natAbs < 10 ^ 150 := by
    have e : ((10 ^ 150 : Nat) : Int) = (10 : Int) ^ 150 := by decide +kernel
    omega
  have td := fun st => turned15 (st := st) h
  have w1 := fun st => words15 (st := st) h hB
  have w2 := fun st => words15 (st := st) ht hB
  have r1 := fun st => txt_str (st := st) (els := strD) (g' := denRow_str) (hasRd (ts := turn ts)).at_ (.inl ⟨rfl, rstr_eq (st := st) ht hB⟩)
  have r2 := fun st => txt_str (st := st) (els := strD) (g := denRound_str) (hasRw (ts := ts) (tr := n)).at_ (.inr ⟨rfl, wstr_eq (st := st) h hB tn⟩)
  have r3 := fun st => txt_str (st := st) (els := reprD) (g' := denRow_repr) (hasRd (ts := turn ts)).at_ (.inl ⟨rfl, rrepr_eq (st := st) ht hB⟩)
  have r4 := fun st => txt_str (st := st) (els := reprD) (g := denRound_repr) (hasRw (ts := ts) (tr := n)).at_ (.inr ⟨rfl, wrepr_eq (st := st) h hB tn⟩)
  have i0 : ∀ (a b : D) st, ixD (.lst [a, b]) (.int 0) st = .ok a st := fun a b st => rfl
  have i1 : ∀ (a b : D) st, ixD (.lst [a, b]) (.int 1) st = .ok b st := fun a b st => rfl
  have fg := fun st => fig15 (st := st) n0 (show n < 10 ^ 150 by omega)
  have e1 : Str.length " " = 1 := rfl
  have l5 : Str.length "round" = 5 := rfl
  have l3 : Str.length "row" = 3 := rfl
  have wl := words_len h hB
  have wl2 := words_len ht hB
  have ln := int_len tn
  have j1 : ∀ st, joinD (.str " ") [.lst (D.str "round" :: (turn ts).map fun t => D.str (jw t))] st = .ok (.str ("round" ++ jtx (turn ts))) st := fun st => by
    have := join_str (st := st) (a := " ") (ys := "round" :: (turn ts).map jw) (by
      simp only [List.map_cons, List.sum_cons, List.length_cons, List.length_map, e1, l5]; omega)
    rw [join_sp, List.map_map, List.map_cons, List.map_map] at this
    exact this
  have j2 : ∀ st, joinD (.str " ") [.lst (D.str "row" :: D.str (Str.ofString (toString n)) :: ts.map fun t => D.str (jw t))] st = .ok (.str (("row " ++ Str.ofString (toString n)) ++ jtx ts)) st := fun st => by
    have := join_str (st := st) (a := " ") (ys := "row" :: Str.ofString (toString n) :: ts.map jw) (by
      simp only [List.map_cons, List.sum_cons, List.length_cons, List.length_map, e1, l3]; omega)
    have er : ("row" : Str) ++ (" " : Str) = "row " := by decide +kernel
    simp only [join_sp, List.map_cons, join0_cons, List.map_map, ← str_assoc, er] at this
    exact this
  have a1 : ∀ st, addD (.lst [D.str "round"]) (.lst ((turn ts).map fun t => D.str (jw t))) st = .ok (.lst (D.str "round" :: (turn ts).map fun t => D.str (jw t))) st := fun st => add_ll' (by simp; omega)
  have a2 : ∀ st, addD (.lst [D.str "row", D.str (Str.ofString (toString n))]) (.lst (ts.map fun t => D.str (jw t))) st = .ok (.lst (D.str "row" :: D.str (Str.ofString (toString n)) :: ts.map fun t => D.str (jw t))) st := fun st => add_ll' (by simp; omega)
  have p1 := fun st => repr_fine (st := st) (rowL_fd ht hB) (by decide) (by decide)
  have p2 := fun st => repr_fine (st := st) (rowL_fd h hB) (by decide) (by decide)
  have p3 := fun st => repr_fine (st := st) (fd_int tn) (by decide) (by decide)
  have lr := shw_len (rowL_fd ht hB) (by decide)
  have lw := shw_len (rowL_fd h hB) (by decide)
  have li : (shw (.int n)).length ≤ 151 := ln
  have c6 : Str.length "Round(" = 6 := rfl
  have c1 : Str.length ")" = 1 := rfl
  have c4 : Str.length "Row(" = 4 := rfl
  have c7 : Str.length ", tray=" = 7 := rfl
  have b1 : ∀ st, addD (.str "Round(") (.str (shw (rowL (turn ts)))) st = .ok (.str ("Round(" ++ shw (rowL (turn ts)))) st := fun st => add_sb (by omega)
  have b2 : ∀ st, addD (.str ("Round(" ++ shw (rowL (turn ts)))) (.str ")") st = .ok (.str (("Round(" ++ shw (rowL (turn ts))) ++ ")")) st := fun st => add_sb (by rw [str_len_app]; omega)
  have b3 : ∀ st, addD (.str "Row(") (.str (shw (rowL ts))) st = .ok (.str ("Row(" ++ shw (rowL ts))) st := fun st => add_sb (by omega)
  have b4 : ∀ st, addD (.str ("Row(" ++ shw (rowL ts))) (.str ", tray=") st = .ok (.str (("Row(" ++ shw (rowL ts)) ++ ", tray=")) st := fun st => add_sb (by rw [str_len_app]; omega)
  have b5 : ∀ st, addD (.str (("Row(" ++ shw (rowL ts)) ++ ", tray=")) (.str (shw (.int n))) st = .ok (.str ((("Row(" ++ shw (rowL ts)) ++ ", tray=") ++ shw (.int n))) st := fun st => add_sb (by rw [str_len_app, str_len_app]; omega)
  have b6 : ∀ st, addD (.str ((("Row(" ++ shw (rowL ts)) ++ ", tray=") ++ shw (.int n))) (.str ")") st = .ok (.str (((("Row(" ++ shw (rowL ts)) ++ ", tray=") ++ shw (.int n)) ++ ")")) st := fun st => add_sb (by rw [str_len_app, str_len_app, str_len_app]; omega)
  have eq := eq_texts (st := st) (us := ["round" ++ jtx (turn ts), ("row " ++ Str.ofString (toString n)) ++ jtx ts, ("Round(" ++ shw (rowL (turn ts))) ++ ")", ((("Row(" ++ shw (rowL ts)) ++ ", tray=") ++ shw (.int n)) ++ ")"]) (fun x hx => by
    simp only [List.mem_cons, List.not_mem_nil, or_false] at hx
    rcases hx with rfl | rfl | rfl | rfl
    · exact (Sg.str "round").app (sg_jtx ht)
    · exact ((Sg.str "row ").app (Sg.str _)).app (sg_jtx h)
    · exact ((Sg.str "Round(").app (Sg.row ht)).app (Sg.str ")")
    · exact ((((Sg.str "Row(").app (Sg.row h)).app (Sg.str ", tray=")).app Sg.int).app (Sg.str ")"))
  simp only [List.map_cons, List.map_nil] at eq
  simp! only [td, w1, w2, r1, r2, r3, r4, i0, i1, fg, j1, j2, a1, a2, p1, p2, p3, b1, b2, b3, b4, b5, b6, eq]
end
end Q

namespace Q
open PySem PySem.Spec PyProof.Rows L2 Den
noncomputable abbrev MT15 : Nat → Option Fn := fun c => if c = 22 then some denRound_eq else if c = 23 then some denRow_eq else none
section
variable {st : Store} {ts us : List J3} {B B' n t u : Int} {o : Option Int} {d e : D} {T : String} {c : Nat} {s s' : Shp} {b : Bool}
theorem isi_data {tab : List (Nat × Bool)} (hk : kdOf e = some T) : isi2 (isCl c) (isaC tab) [e, .cls c] st = .ok (.bl false) st := by
  cases e <;> cases hk <;> simp [isi2, isCl, isiD, tnOf, isaC, tyNames]
theorem ins_data (hk : kdOf e = some T) : insOf st e = none := by
  cases e <;> cases hk <;> rfl
local macro_rules
  | `(tactic| simp! only [$xs,*]) => `(tactic| simp (disch := first | assumption | exact id rfl | omega | (simp only [List.length_map, List.length_append, List.length_cons, List.length_nil, List.length_set, List.length_replicate, List.length_take, List.length_drop, List.length_reverse] <;> omega) | (simp only [if_true, if_false, eq_self, Nat.reduceEqDiff]; done) | (simp only [lo_non, lo_bl, lo_int, lo_str, lo_lst, lo_tup, lo_ins, loS_nil, loS_cons, loF_nil, loF_cons, loC_lst, loC_ins, loS_app, ev_1, ev_2, ev_3, ev_4, ev_6, ev_7, ev_8, ev_9, ev_10, ev_13, ev_14, ev_15, ev_16, ev_17, ev_18, ev_26, ev_27, ev_30, ev_31, ev_32, ev_33, ev_34, ev_35, ev_44, ev_45, ev_46, ev_47, ev_48, ev_49, ev_50, ev_51, ev_57, ev_58, lo_jars, lo_strs, lo_jD, lo_own, lo_rowL, lo_sh, lo_prs, lo_spD, lo_prD]; done) | fail) only [↓wp_ok, ↓wp_next, ↓wp_ret, ↓wp_sSeq, ↓wp_fnD, ↓outP_ret, ↓wp_outD_same, ↓wp_outD_keep, cmp_ii, neg_i, add_ii, sub_ii, mod_ii, len_lst, len_ro, len_tup, ↓wp_eK, ↓wp_eVar0, ↓wp_eVars, ↓wp_eBin, ↓wp_eUn, ↓wp_eArgs, ↓wp_aNil, ↓wp_aCons, ↓wp_tYes, ↓wp_tNot, ↓wp_tAnd, ↓wp_tOr, ↓wp_eIf, ↓wp_oNone, ↓wp_eSl, ↓wp_eFrz, ↓wp_eLc, ↓gwp_N, ↓gwp_nil, ↓gwp_cons, ↓gwp_T, ↓wp_sNext, ↓wp_sRet, ↓wp_sRetN, ↓wp_sExpr, ↓wp_sIf, ↓wp_sAsg, ↓par2_ok, ↓wp_sPar, ↓wp_sFor, tyChk_str, Den.sl_tup, okL_ok, list_tup, max_ii, min_ii, abs_i, ne_ii, eq_ii, eq_ss, ↓wp_eCall, okC_ok, ↓wp_outD_app, ↓wp_outD_st, app_app, mul_ib, fdiv_ib, divmod_ib, pow_ib, ofO_some, ↓wp_ofO, ix_lstE, ix_roE, ix_tupE, atI_0, atI_1, atI_2, atI_3, atI_4, atI_map, tyChk_lst, lo_non, lo_bl, lo_int, lo_str, lo_lst, lo_tup, lo_ins, loS_nil, loS_cons, loF_nil, loF_cons, loC_lst, loC_ins, loS_app, insOf_ins, add_ll', add_tt', add_ss', mkL_ok', mkT_ok', mkC_ok', len_str', ne_ss, imul_ib, iadd_ii, ↓wp_sAug, isN_non, isN_int, isN_str, isN_tup, isN_lst, notN_non, notN_int, notN_str, notN_tup, notN_lst, isi_str_non, isi_str_bl, isi_str_int, isi_str_str, isi_str_lst, isi_str_tup, isi_str_dct, isi_int_non, isi_int_bl, isi_int_int, isi_int_str, isi_int_lst, isi_int_tup, isi_int_dct, isi_bool_non, isi_bool_bl, isi_bool_int, isi_bool_str, isi_bool_lst, isi_bool_tup, isi_bool_dct, isi_list_non, isi_list_bl, isi_list_int, isi_list_str, isi_list_lst, isi_list_tup, isi_list_dct, isi_tuple_non, isi_tuple_bl, isi_tuple_int, isi_tuple_str, isi_tuple_lst, isi_tuple_tup, isi_tuple_dct, isi_dict_non, isi_dict_bl, isi_dict_int, isi_dict_str, isi_dict_lst, isi_dict_tup, isi_dict_dct, ↓insK_some, ↓optK_some, ↓cinK_app, ↓wp_eFldK, ↓wp_eMethK, ↓wp_sFldK, look_eq, look_ne, look_nil, put_nil, put_eq, put_ne, ↓blK_ok, ↓intK_ok, ↓strK_ok, ↓lstK_lst, ↓lstK_ro, ↓tupK_ok, ↓sqK_lst, ↓sqK_ro, ↓sqK_tup, ↓oneK_ok, ↓twoK_ok, ↓rngK_ok, ↓andK_true, ↓wk_tOf, ↓wk_eAnd, ↓wk_eOr, ↓wk_eNot, ↓wk_eChain, ↓wk_eM, ↓wk_oSome, ↓wk_iL, ↓wk_iT, ↓wk_iS, ↓wk_iR1, ↓wk_iR2, ↓wk_iEA, ↓wk_gsub, ↓lcK_ok, ↓lfK_ok, ↓lfK_fz, ↓szK_ok, ↓wk_append, ↓wk_reverse, ↓wk_clear, ↓wk_ixc, ↓frK_ok, ↓frK_fz, ↓wk_frz, ↓wk_frzL, ↓wk_lenc, ↓wk_setc, ↓wk_tyc, get_at0, get_at1, get_at2, get_at3, set_at0, set_at1, set_at2, set_at3, ↓wp_itemF, filterMap_some', filterMap_if, ↓itK_none, ↓itK_some, ↓wp_compN, ↓wp_forN, ↓wp_forC, ev_1, ev_2, ev_3, ev_4, ev_6, ev_7, ev_8, ev_9, ev_10, ev_11, ev_12, ev_13, ev_14, ev_15, ev_16, ev_17, ev_18, ev_19, ev_20, ev_21, ev_22, ev_23, ev_24, ev_25, ev_26, ev_27, ev_28, ev_29, ev_30, ev_31, ev_32, ev_33, ev_34, ev_35, ev_37, ev_38, ev_39, ev_40, ev_41, ev_42, ev_43, ev_44, ev_45, ev_46, ev_47, ev_48, ev_49, ev_50, ev_51, ev_54, ev_55, ev_56, ev_57, ev_58, ev_envOf, ev_wipe0, ev_wipe1, ev_rep0, ev_rep1, pick_cons, pick_nil, ↓szS_ok, ↓wk_jsN, ↓wk_js, fmt_s, fmt_i, str_i, str_s, int1_i, int1_b, isi_own, ↓wk_iZ, ↓wk_iV, zip_map, rev_lst, ↓par3_ok, ↓wp_sPar3, ↓truK_t, ↓truK_f, ↓wp_eOrT, truD_non, truD_bl, truD_int, truD_tup, truD_lst, ↓wk_slc, beqI_f, beqI_t, isub_ii, ifdiv_ib, ↓gwp_star1, ↓gwp_star0, lo_jars, lo_strs, lo_jD, lo_own, lo_rowL, lo_sh, ↓lstK_rowL, ↓sqK_rowL, ↓tupK_own, len_rowL, len_own, ix_rowL, ix_own, sl_rowL, tup_rowL, list_rowL, list_own, at_rd, at_rw, ↓frK_fzr, ↓lfK_fzr, lo_prs, lo_spD, lo_prD, ↓lstK_spD, ↓sqK_spD, len_spD, ix_spD, ↓reduceIte, Nat.reduceAdd, Nat.reduceSub, Nat.reduceLeDiff, Nat.reduceEqDiff, Nat.reduceLT, Nat.reduceBEq, Int.reduceDiv, reduceCtorEq, $xs,*])
  | `(tactic| dsimp! only [$xs,*]) => `(tactic| simp (disch := first | assumption | exact id rfl | omega | (simp only [List.length_map, List.length_append, List.length_cons, List.length_nil, List.length_set, List.length_replicate, List.length_take, List.length_drop, List.length_reverse] <;> omega) | (simp only [if_true, if_false, eq_self, Nat.reduceEqDiff]; done) | (simp only [lo_non, lo_bl, lo_int, lo_str, lo_lst, lo_tup, lo_ins, loS_nil, loS_cons, loF_nil, loF_cons, loC_lst, loC_ins, loS_app, ev_1, ev_2, ev_3, ev_4, ev_6, ev_7, ev_8, ev_9, ev_10, ev_13, ev_14, ev_15, ev_16, ev_17, ev_18, ev_26, ev_27, ev_30, ev_31, ev_32, ev_33, ev_34, ev_35, ev_44, ev_45, ev_46, ev_47, ev_48, ev_49, ev_50, ev_51, ev_57, ev_58, lo_jars, lo_strs, lo_jD, lo_own, lo_rowL, lo_sh, lo_prs, lo_spD, lo_prD]; done) | exact fun _ => id rfl | fail) only [↓wp_ok, ↓wp_next, ↓wp_ret, ↓wp_sSeq, ↓wp_fnD, ↓outP_ret, ↓wp_outD_same, ↓wp_outD_keep, cmp_ii, neg_i, add_ii, sub_ii, mod_ii, len_lst, len_ro, len_tup, ↓wp_eK, ↓wp_eVar0, ↓wp_eVars, ↓wp_eBin, ↓wp_eUn, ↓wp_eArgs, ↓wp_aNil, ↓wp_aCons, ↓wp_tYes, ↓wp_tNot, ↓wp_tAnd, ↓wp_tOr, ↓wp_eIf, ↓wp_oNone, ↓wp_eSl, ↓wp_eFrz, ↓wp_eLc, ↓gwp_N, ↓gwp_nil, ↓gwp_cons, ↓gwp_T, ↓wp_sNext, ↓wp_sRet, ↓wp_sRetN, ↓wp_sExpr, ↓wp_sIf, ↓wp_sAsg, ↓par2_ok, ↓wp_sPar, ↓wp_sFor, tyChk_str, Den.sl_tup, okL_ok, list_tup, max_ii, min_ii, abs_i, ne_ii, eq_ii, eq_ss, ↓wp_eCall, okC_ok, ↓wp_outD_app, ↓wp_outD_st, app_app, mul_ib, fdiv_ib, divmod_ib, pow_ib, ofO_some, ↓wp_ofO, ix_lstE, ix_roE, ix_tupE, atI_0, atI_1, atI_2, atI_3, atI_4, atI_map, tyChk_lst, lo_non, lo_bl, lo_int, lo_str, lo_lst, lo_tup, lo_ins, loS_nil, loS_cons, loF_nil, loF_cons, loC_lst, loC_ins, loS_app, insOf_ins, add_ll', add_tt', add_ss', mkL_ok', mkT_ok', mkC_ok', len_str', ne_ss, imul_ib, iadd_ii, ↓wp_sAug, isN_non, isN_int, isN_str, isN_tup, isN_lst, notN_non, notN_int, notN_str, notN_tup, notN_lst, isi_str_non, isi_str_bl, isi_str_int, isi_str_str, isi_str_lst, isi_str_tup, isi_str_dct, isi_int_non, isi_int_bl, isi_int_int, isi_int_str, isi_int_lst, isi_int_tup, isi_int_dct, isi_bool_non, isi_bool_bl, isi_bool_int, isi_bool_str, isi_bool_lst, isi_bool_tup, isi_bool_dct, isi_list_non, isi_list_bl, isi_list_int, isi_list_str, isi_list_lst, isi_list_tup, isi_list_dct, isi_tuple_non, isi_tuple_bl, isi_tuple_int, isi_tuple_str, isi_tuple_lst, isi_tuple_tup, isi_tuple_dct, isi_dict_non, isi_dict_bl, isi_dict_int, isi_dict_str, isi_dict_lst, isi_dict_tup, isi_dict_dct, ↓insK_some, ↓optK_some, ↓cinK_app, ↓wp_eFldK, ↓wp_eMethK, ↓wp_sFldK, look_eq, look_ne, look_nil, put_nil, put_eq, put_ne, ↓blK_ok, ↓intK_ok, ↓strK_ok, ↓lstK_lst, ↓lstK_ro, ↓tupK_ok, ↓sqK_lst, ↓sqK_ro, ↓sqK_tup, ↓oneK_ok, ↓twoK_ok, ↓rngK_ok, ↓andK_true, ↓wk_tOf, ↓wk_eAnd, ↓wk_eOr, ↓wk_eNot, ↓wk_eChain, ↓wk_eM, ↓wk_oSome, ↓wk_iL, ↓wk_iT, ↓wk_iS, ↓wk_iR1, ↓wk_iR2, ↓wk_iEA, ↓wk_gsub, ↓lcK_ok, ↓lfK_ok, ↓lfK_fz, ↓szK_ok, ↓wk_append, ↓wk_reverse, ↓wk_clear, ↓wk_ixc, ↓frK_ok, ↓frK_fz, ↓wk_frz, ↓wk_frzL, ↓wk_lenc, ↓wk_setc, ↓wk_tyc, get_at0, get_at1, get_at2, get_at3, set_at0, set_at1, set_at2, set_at3, ↓wp_itemF, filterMap_some', filterMap_if, ↓itK_none, ↓itK_some, ↓wp_compN, ↓wp_forN, ↓wp_forC, ev_1, ev_2, ev_3, ev_4, ev_6, ev_7, ev_8, ev_9, ev_10, ev_11, ev_12, ev_13, ev_14, ev_15, ev_16, ev_17, ev_18, ev_19, ev_20, ev_21, ev_22, ev_23, ev_24, ev_25, ev_26, ev_27, ev_28, ev_29, ev_30, ev_31, ev_32, ev_33, ev_34, ev_35, ev_37, ev_38, ev_39, ev_40, ev_41, ev_42, ev_43, ev_44, ev_45, ev_46, ev_47, ev_48, ev_49, ev_50, ev_51, ev_54, ev_55, ev_56, ev_57, ev_58, ev_envOf, ev_wipe0, ev_wipe1, ev_rep0, ev_rep1, pick_cons, pick_nil, ↓szS_ok, ↓wk_jsN, ↓wk_js, fmt_s, fmt_i, str_i, str_s, int1_i, int1_b, isi_own, ↓wk_iZ, ↓wk_iV, zip_map, rev_lst, ↓par3_ok, ↓wp_sPar3, ↓truK_t, ↓truK_f, ↓wp_eOrT, truD_non, truD_bl, truD_int, truD_tup, truD_lst, ↓wk_slc, beqI_f, beqI_t, isub_ii, ifdiv_ib, ↓gwp_star1, ↓gwp_star0, lo_jars, lo_strs, lo_jD, lo_own, lo_rowL, lo_sh, ↓lstK_rowL, ↓sqK_rowL, ↓tupK_own, len_rowL, len_own, ix_rowL, ix_own, sl_rowL, tup_rowL, list_rowL, list_own, at_rd, at_rw, ↓frK_fzr, ↓lfK_fzr, lo_prs, lo_spD, lo_prD, ↓lstK_spD, ↓sqK_spD, len_spD, ix_spD, ↓reduceIte, Nat.reduceAdd, Nat.reduceSub, Nat.reduceLeDiff, Nat.reduceEqDiff, Nat.reduceLT, Nat.reduceBEq, Int.reduceDiv, reduceCtorEq, $xs,*])
  | `(tactic| simp_all! only [$xs,*]) => `(tactic| simp only [↓wp_ok, ↓wp_next, ↓wp_ret, ↓wp_sSeq, ↓wp_fnD, ↓outP_ret, ↓wp_outD_same, ↓wp_outD_keep, cmp_ii, neg_i, add_ii, sub_ii, mod_ii, len_lst, len_ro, len_tup, ↓wp_eK, ↓wp_eVar0, ↓wp_eVars, ↓wp_eBin, ↓wp_eUn, ↓wp_eArgs, ↓wp_aNil, ↓wp_aCons, ↓wp_tYes, ↓wp_tNot, ↓wp_tAnd, ↓wp_tOr, ↓wp_eIf, ↓wp_oNone, ↓wp_eSl, ↓wp_eFrz, ↓wp_eLc, ↓gwp_N, ↓gwp_nil, ↓gwp_cons, ↓gwp_T, ↓wp_sNext, ↓wp_sRet, ↓wp_sRetN, ↓wp_sExpr, ↓wp_sIf, ↓wp_sAsg, ↓par2_ok, ↓wp_sPar, ↓wp_sFor, tyChk_str, Den.sl_tup, okL_ok, list_tup, max_ii, min_ii, abs_i, ne_ii, eq_ii, eq_ss, ↓wp_eCall, okC_ok, ↓wp_outD_app, ↓wp_outD_st, app_app, mul_ib, fdiv_ib, divmod_ib, pow_ib, ofO_some, ↓wp_ofO, ix_lstE, ix_roE, ix_tupE, atI_0, atI_1, atI_2, atI_3, atI_4, atI_map, tyChk_lst, lo_non, lo_bl, lo_int, lo_str, lo_lst, lo_tup, lo_ins, loS_nil, loS_cons, loF_nil, loF_cons, loC_lst, loC_ins, loS_app, insOf_ins, add_ll', add_tt', add_ss', mkL_ok', mkT_ok', mkC_ok', len_str', ne_ss, imul_ib, iadd_ii, ↓wp_sAug, isN_non, isN_int, isN_str, isN_tup, isN_lst, notN_non, notN_int, notN_str, notN_tup, notN_lst, isi_str_non, isi_str_bl, isi_str_int, isi_str_str, isi_str_lst, isi_str_tup, isi_str_dct, isi_int_non, isi_int_bl, isi_int_int, isi_int_str, isi_int_lst, isi_int_tup, isi_int_dct, isi_bool_non, isi_bool_bl, isi_bool_int, isi_bool_str, isi_bool_lst, isi_bool_tup, isi_bool_dct, isi_list_non, isi_list_bl, isi_list_int, isi_list_str, isi_list_lst, isi_list_tup, isi_list_dct, isi_tuple_non, isi_tuple_bl, isi_tuple_int, isi_tuple_str, isi_tuple_lst, isi_tuple_tup, isi_tuple_dct, isi_dict_non, isi_dict_bl, isi_dict_int, isi_dict_str, isi_dict_lst, isi_dict_tup, isi_dict_dct, ↓insK_some, ↓optK_some, ↓cinK_app, ↓wp_eFldK, ↓wp_eMethK, ↓wp_sFldK, look_eq, look_ne, look_nil, put_nil, put_eq, put_ne, ↓blK_ok, ↓intK_ok, ↓strK_ok, ↓lstK_lst, ↓lstK_ro, ↓tupK_ok, ↓sqK_lst, ↓sqK_ro, ↓sqK_tup, ↓oneK_ok, ↓twoK_ok, ↓rngK_ok, ↓andK_true, ↓wk_tOf, ↓wk_eAnd, ↓wk_eOr, ↓wk_eNot, ↓wk_eChain, ↓wk_eM, ↓wk_oSome, ↓wk_iL, ↓wk_iT, ↓wk_iS, ↓wk_iR1, ↓wk_iR2, ↓wk_iEA, ↓wk_gsub, ↓lcK_ok, ↓lfK_ok, ↓lfK_fz, ↓szK_ok, ↓wk_append, ↓wk_reverse, ↓wk_clear, ↓wk_ixc, ↓frK_ok, ↓frK_fz, ↓wk_frz, ↓wk_frzL, ↓wk_lenc, ↓wk_setc, ↓wk_tyc, get_at0, get_at1, get_at2, get_at3, set_at0, set_at1, set_at2, set_at3, ↓wp_itemF, filterMap_some', filterMap_if, ↓itK_none, ↓itK_some, ↓wp_compN, ↓wp_forN, ↓wp_forC, ev_1, ev_2, ev_3, ev_4, ev_6, ev_7, ev_8, ev_9, ev_10, ev_11, ev_12, ev_13, ev_14, ev_15, ev_16, ev_17, ev_18, ev_19, ev_20, ev_21, ev_22, ev_23, ev_24, ev_25, ev_26, ev_27, ev_28, ev_29, ev_30, ev_31, ev_32, ev_33, ev_34, ev_35, ev_37, ev_38, ev_39, ev_40, ev_41, ev_42, ev_43, ev_44, ev_45, ev_46, ev_47, ev_48, ev_49, ev_50, ev_51, ev_54, ev_55, ev_56, ev_57, ev_58, ev_envOf, ev_wipe0, ev_wipe1, ev_rep0, ev_rep1, pick_cons, pick_nil, ↓szS_ok, ↓wk_jsN, ↓wk_js, fmt_s, fmt_i, str_i, str_s, int1_i, int1_b, isi_own, ↓wk_iZ, ↓wk_iV, zip_map, rev_lst, ↓par3_ok, ↓wp_sPar3, ↓truK_t, ↓truK_f, ↓wp_eOrT, truD_non, truD_bl, truD_int, truD_tup, truD_lst, ↓wk_slc, beqI_f, beqI_t, isub_ii, ifdiv_ib, ↓gwp_star1, ↓gwp_star0, lo_jars, lo_strs, lo_jD, lo_own, lo_rowL, lo_sh, ↓lstK_rowL, ↓sqK_rowL, ↓tupK_own, len_rowL, len_own, ix_rowL, ix_own, sl_rowL, tup_rowL, list_rowL, list_own, at_rd, at_rw, ↓frK_fzr, ↓lfK_fzr, lo_prs, lo_spD, lo_prD, ↓lstK_spD, ↓sqK_spD, len_spD, ix_spD, $xs,*])
theorem req_data (hk : kdOf e = some T) : denRound_eq [shD (.rd ts), e] st = .ok (.bl false) st := by
  have i := fun st => isi_data (st := st) (c := 22) (tab := [(22, true), (23, false)]) hk
  refine Res.eq_of_wp ?_
  unfold denRound_eq
  simp! only [i]
theorem weq_data (hk : kdOf e = some T) : denRow_eq [shD (.rw ts t), e] st = .ok (.bl false) st := by
  have i := fun st => isi_data (st := st) (c := 23) (tab := [(22, false), (23, true)]) hk
  refine Res.eq_of_wp ?_
  unfold denRow_eq
  simp! only [i]
theorem req_row : denRound_eq [shD (.rd ts), shD (.rw us u)] st = .ok (.bl false) st := by
  have i : ∀ st, isi2 (isCl 22) (isaC [(22, true), (23, false)]) [shD (.rw us u), .cls 22] st = .ok (.bl false) st := fun st => isi_own rfl
  refine Res.eq_of_wp ?_
  unfold denRound_eq
  simp! only [i]
theorem weq_rd : denRow_eq [shD (.rw us u), shD (.rd ts)] st = .ok (.bl false) st := by
  have i : ∀ st, isi2 (isCl 23) (isaC [(22, false), (23, true)]) [shD (.rd ts), .cls 23] st = .ok (.bl false) st := fun st => isi_own rfl
  refine Res.eq_of_wp ?_
  unfold denRow_eq
  simp! only [i]
/-- both ways, == and != -/
def Mix15 (d e : D) (b : Bool) : Prop := ∀ (f : Bool → Bool) st, mixX MT15 f d e st = .ok (.bl (f b)) st ∧ mixX MT15 f e d st = .ok (.bl (f b)) st
theorem mix_data (hk : kdOf e = some T) : Mix15 (shD s) e false := fun f st => by
  cases s with
  | rd ts => exact ⟨mixX_left hasRd.at_ (ins_data hk) hk rfl (req_data hk), mixX_right (ins_data hk) hasRd.at_ hk rfl (req_data hk)⟩
  | rw ts t => exact ⟨mixX_left hasRw.at_ (ins_data hk) hk rfl (weq_data hk), mixX_right (ins_data hk) hasRw.at_ hk rfl (weq_data hk)⟩
theorem mix_kinds : Mix15 (shD (.rd ts)) (shD (.rw us u)) false := fun f st =>
  ⟨mixX_two hasRd.at_ hasRw.at_ rfl rfl req_row, mixX_two hasRw.at_ hasRd.at_ rfl rfl weq_rd⟩
theorem mix_rd (h : JsB B ts) (hB : B ≤ 10 ^ 150) (h' : JsB B' us) (hB' : B' ≤ 10 ^ 150) : Mix15 (shD (.rd ts)) (shD (.rd us)) (decide (ts = us)) := fun f st => by
  have q := req_gen (st := st) h hB h' hB'
  have q' := req_gen (st := st) h' hB' h hB
  have e2 : decide (us = ts) = decide (ts = us) := by simp [eq_comm]
  rw [e2] at q'
  exact ⟨mixX_two hasRd.at_ hasRd.at_ rfl rfl q, mixX_two hasRd.at_ hasRd.at_ rfl rfl q'⟩
theorem mix_rw (h : JsB B ts) (hB : B ≤ 10 ^ 150) (h' : JsB B' us) (hB' : B' ≤ 10 ^ 150) (t1 : t.natAbs < 10 ^ 150) (u1 : u.natAbs < 10 ^ 150) : Mix15 (shD (.rw ts t)) (shD (.rw us u)) (decide (ts = us ∧ t = u)) := fun f st => by
  have q := weq_gen (st := st) h hB h' hB' t1 u1
  have q' := weq_gen (st := st) h' hB' h hB u1 t1
  have e2 : decide (us = ts ∧ u = t) = decide (ts = us ∧ t = u) := by simp [eq_comm]
  rw [e2] at q'
  exact ⟨mixX_two hasRw.at_ hasRw.at_ rfl rfl q, mixX_two hasRw.at_ hasRw.at_ rfl rfl q'⟩
theorem alike15 (h : Mix15 d e b) : den_law_alike [d, e, .bl b] st = .ok (.bl true) st := by
  have h1 := fun st => (h id st).1
  have h2 := fun st => (h id st).2
  have h3 := fun st => (h (!·) st).1
  have h4 := fun st => (h (!·) st).2
  unfold MT15 at h1 h2 h3 h4
  have xe : ∀ x : Str, (x == x) = true := fun x => by simp
  refine Res.eq_of_wp ?_
  unfold den_law_alike
  cases b with
  | true =>
    have rp : ∀ st, reprD [.lst [.bl true, .bl true, .bl false, .bl false]] st = .ok (.str (shw (.lst [.bl true, .bl true, .bl false, .bl false]))) st := fun st => repr_fine (m := 100) (k := 1) ⟨by decide +kernel, by decide +kernel, by decide +kernel⟩ (by decide) (by decide)
    simp! only [h1, h2, h3, h4, id, rp, xe]
  | false =>
    have rp : ∀ st, reprD [.lst [.bl false, .bl false, .bl true, .bl true]] st = .ok (.str (shw (.lst [.bl false, .bl false, .bl true, .bl true]))) st := fun st => repr_fine (m := 100) (k := 1) ⟨by decide +kernel, by decide +kernel, by decide +kernel⟩ (by decide) (by decide)
    simp! only [h1, h2, h3, h4, id, rp, xe]
end
end Q

namespace Q
open PySem PySem.Spec PyProof.Rows L2 Den
section
variable {C : Store} {p : Nat} {st : Store} {Q : D → Store → Prop} {E : Xc → Store → Prop} {ts us : List J3} {B B' n t u : Int} {a b : J3} {y : Str} {i k : Nat}
theorem JsB.perm (h : JsB B ts) (q : us.Perm ts) : JsB B us :=
  ⟨fun t ht => h.lb t (q.mem_iff.mp ht), fun t ht => h.b2 t (q.mem_iff.mp ht), fun t ht => h.b6 t (q.mem_iff.mp ht), fun t ht => h.g0 t (q.mem_iff.mp ht), fun t ht => h.gB t (q.mem_iff.mp ht), (q.map _).nodup_iff.mpr h.nd, by rw [q.length_eq]; exact h.pos, by rw [q.length_eq]; exact h.le⟩
theorem JsB.sub (h : JsB B ts) (q : us.Sublist ts) (h1 : 1 ≤ us.length) : JsB B us :=
  ⟨fun t ht => h.lb t (q.subset ht), fun t ht => h.b2 t (q.subset ht), fun t ht => h.b6 t (q.subset ht), fun t ht => h.g0 t (q.subset ht), fun t ht => h.gB t (q.subset ht), List.Nodup.sublist (q.map _) h.nd, h1, Nat.le_trans q.length_le h.le⟩
theorem nodup_set15 {l : List Str} (h : l.Nodup) (hn : y ∉ l) : (l.set i y).Nodup := by
  induction l generalizing i with
  | nil => simp
  | cons x l ih =>
    rw [List.nodup_cons] at h
    cases i with
    | zero => rw [List.set_cons_zero, List.nodup_cons]; exact ⟨fun q => hn (List.mem_cons_of_mem _ q), h.2⟩
    | succ i =>
      rw [List.set_cons_succ, List.nodup_cons]
      refine ⟨fun q => ?_, ih h.2 fun q => hn (List.mem_cons_of_mem _ q)⟩
      rcases List.mem_or_eq_of_mem_set q with q | q
      · exact h.1 q
      · exact hn (by rw [← q]; exact List.mem_cons_self)
/-- one jar in the place of another -/
theorem JsB.at15 (h : JsB B ts) (hB : B ≤ B') (hi : ts[i]? = some a) (hy : y = a.1 ∨ Lb y ∧ y ∉ nms ts) (b2 : 2 ≤ n) (b6 : n ≤ 1000000) (g0 : 0 ≤ t) (gB : t < B') : JsB B' (ts.set i (y, n, t)) := by
  have hl := (List.getElem?_eq_some_iff.mp hi).1
  have ma := List.mem_of_getElem? hi
  have m : ∀ x ∈ ts.set i (y, n, t), x ∈ ts ∨ x = (y, n, t) := fun x hx => List.mem_or_eq_of_mem_set hx
  refine ⟨fun x hx => ?_, fun x hx => ?_, fun x hx => ?_, fun x hx => ?_, fun x hx => ?_, ?_, by rw [List.length_set]; exact h.pos, by rw [List.length_set]; exact h.le⟩
  · rcases m x hx with q | rfl
    · exact h.lb x q
    · rcases hy with rfl | hy
      · exact h.lb a ma
      · exact hy.1
  · rcases m x hx with q | rfl
    · exact h.b2 x q
    · exact b2
  · rcases m x hx with q | rfl
    · exact h.b6 x q
    · exact b6
  · rcases m x hx with q | rfl
    · exact h.g0 x q
    · exact g0
  · rcases m x hx with q | rfl
    · have := h.gB x q; omega
    · exact gB
  · rcases hy with rfl | hy
    · have e : nms (ts.set i (a.1, n, t)) = nms ts := nms_set hi rfl
      rw [e]; exact h.nd
    · have e : nms (ts.set i (y, n, t)) = (nms ts).set i y := by simp [nms, List.map_set]
      rw [e]
      exact nodup_set15 h.nd hy.2
end
end Q

namespace Q
open PySem PySem.Spec PyProof.Rows L2 Den
section
variable {C : Store} {p : Nat} {st : Store} {Q : D → Store → Prop} {E : Xc → Store → Prop} {ts us : List J3} {B B' n t u : Int} {a b : J3} {y : Str} {i k : Nat}
local macro_rules
  | `(tactic| simp! only [$xs,*]) => `(tactic| simp (disch := first | assumption | exact id rfl | omega | (simp only [List.length_map, List.length_append, List.length_cons, List.length_nil, List.length_set, List.length_replicate, List.length_take, List.length_drop, List.length_reverse] <;> omega) | (simp only [if_true, if_false, eq_self, Nat.reduceEqDiff]; done) | (simp only [lo_non, lo_bl, lo_int, lo_str, lo_lst, lo_tup, lo_ins, loS_nil, loS_cons, loF_nil, loF_cons, loC_lst, loC_ins, loS_app, ev_1, ev_2, ev_3, ev_4, ev_6, ev_7, ev_8, ev_9, ev_10, ev_13, ev_14, ev_15, ev_16, ev_17, ev_18, ev_26, ev_27, ev_30, ev_31, ev_32, ev_33, ev_34, ev_35, ev_44, ev_45, ev_46, ev_47, ev_48, ev_49, ev_50, ev_51, ev_57, ev_58, lo_jars, lo_strs, lo_jD, lo_own, lo_rowL, lo_sh, lo_prs, lo_spD, lo_prD]; done) | fail) only [↓wp_ok, ↓wp_next, ↓wp_ret, ↓wp_sSeq, ↓wp_fnD, ↓outP_ret, ↓wp_outD_same, ↓wp_outD_keep, cmp_ii, neg_i, add_ii, sub_ii, mod_ii, len_lst, len_ro, len_tup, ↓wp_eK, ↓wp_eVar0, ↓wp_eVars, ↓wp_eBin, ↓wp_eUn, ↓wp_eArgs, ↓wp_aNil, ↓wp_aCons, ↓wp_tYes, ↓wp_tNot, ↓wp_tAnd, ↓wp_tOr, ↓wp_eIf, ↓wp_oNone, ↓wp_eSl, ↓wp_eFrz, ↓wp_eLc, ↓gwp_N, ↓gwp_nil, ↓gwp_cons, ↓gwp_T, ↓wp_sNext, ↓wp_sRet, ↓wp_sRetN, ↓wp_sExpr, ↓wp_sIf, ↓wp_sAsg, ↓par2_ok, ↓wp_sPar, ↓wp_sFor, tyChk_str, Den.sl_tup, okL_ok, list_tup, max_ii, min_ii, abs_i, ne_ii, eq_ii, eq_ss, ↓wp_eCall, okC_ok, ↓wp_outD_app, ↓wp_outD_st, app_app, mul_ib, fdiv_ib, divmod_ib, pow_ib, ofO_some, ↓wp_ofO, ix_lstE, ix_roE, ix_tupE, atI_0, atI_1, atI_2, atI_3, atI_4, atI_map, tyChk_lst, lo_non, lo_bl, lo_int, lo_str, lo_lst, lo_tup, lo_ins, loS_nil, loS_cons, loF_nil, loF_cons, loC_lst, loC_ins, loS_app, insOf_ins, add_ll', add_tt', add_ss', mkL_ok', mkT_ok', mkC_ok', len_str', ne_ss, imul_ib, iadd_ii, ↓wp_sAug, isN_non, isN_int, isN_str, isN_tup, isN_lst, notN_non, notN_int, notN_str, notN_tup, notN_lst, isi_str_non, isi_str_bl, isi_str_int, isi_str_str, isi_str_lst, isi_str_tup, isi_str_dct, isi_int_non, isi_int_bl, isi_int_int, isi_int_str, isi_int_lst, isi_int_tup, isi_int_dct, isi_bool_non, isi_bool_bl, isi_bool_int, isi_bool_str, isi_bool_lst, isi_bool_tup, isi_bool_dct, isi_list_non, isi_list_bl, isi_list_int, isi_list_str, isi_list_lst, isi_list_tup, isi_list_dct, isi_tuple_non, isi_tuple_bl, isi_tuple_int, isi_tuple_str, isi_tuple_lst, isi_tuple_tup, isi_tuple_dct, isi_dict_non, isi_dict_bl, isi_dict_int, isi_dict_str, isi_dict_lst, isi_dict_tup, isi_dict_dct, ↓insK_some, ↓optK_some, ↓cinK_app, ↓wp_eFldK, ↓wp_eMethK, ↓wp_sFldK, look_eq, look_ne, look_nil, put_nil, put_eq, put_ne, ↓blK_ok, ↓intK_ok, ↓strK_ok, ↓lstK_lst, ↓lstK_ro, ↓tupK_ok, ↓sqK_lst, ↓sqK_ro, ↓sqK_tup, ↓oneK_ok, ↓twoK_ok, ↓rngK_ok, ↓andK_true, ↓wk_tOf, ↓wk_eAnd, ↓wk_eOr, ↓wk_eNot, ↓wk_eChain, ↓wk_eM, ↓wk_oSome, ↓wk_iL, ↓wk_iT, ↓wk_iS, ↓wk_iR1, ↓wk_iR2, ↓wk_iEA, ↓wk_gsub, ↓lcK_ok, ↓lfK_ok, ↓lfK_fz, ↓szK_ok, ↓wk_append, ↓wk_reverse, ↓wk_clear, ↓wk_ixc, ↓frK_ok, ↓frK_fz, ↓wk_frz, ↓wk_frzL, ↓wk_lenc, ↓wk_setc, ↓wk_tyc, get_at0, get_at1, get_at2, get_at3, set_at0, set_at1, set_at2, set_at3, ↓wp_itemF, filterMap_some', filterMap_if, ↓itK_none, ↓itK_some, ↓wp_compN, ↓wp_forN, ↓wp_forC, ev_1, ev_2, ev_3, ev_4, ev_6, ev_7, ev_8, ev_9, ev_10, ev_11, ev_12, ev_13, ev_14, ev_15, ev_16, ev_17, ev_18, ev_19, ev_20, ev_21, ev_22, ev_23, ev_24, ev_25, ev_26, ev_27, ev_28, ev_29, ev_30, ev_31, ev_32, ev_33, ev_34, ev_35, ev_37, ev_38, ev_39, ev_40, ev_41, ev_42, ev_43, ev_44, ev_45, ev_46, ev_47, ev_48, ev_49, ev_50, ev_51, ev_54, ev_55, ev_56, ev_57, ev_58, ev_envOf, ev_wipe0, ev_wipe1, ev_rep0, ev_rep1, pick_cons, pick_nil, ↓szS_ok, ↓wk_jsN, ↓wk_js, fmt_s, fmt_i, str_i, str_s, int1_i, int1_b, isi_own, ↓wk_iZ, ↓wk_iV, zip_map, rev_lst, ↓par3_ok, ↓wp_sPar3, ↓truK_t, ↓truK_f, ↓wp_eOrT, truD_non, truD_bl, truD_int, truD_tup, truD_lst, ↓wk_slc, beqI_f, beqI_t, isub_ii, ifdiv_ib, ↓gwp_star1, ↓gwp_star0, lo_jars, lo_strs, lo_jD, lo_own, lo_rowL, lo_sh, ↓lstK_rowL, ↓sqK_rowL, ↓tupK_own, len_rowL, len_own, ix_rowL, ix_own, sl_rowL, tup_rowL, list_rowL, list_own, at_rd, at_rw, ↓frK_fzr, ↓lfK_fzr, lo_prs, lo_spD, lo_prD, ↓lstK_spD, ↓sqK_spD, len_spD, ix_spD, ↓reduceIte, Nat.reduceAdd, Nat.reduceSub, Nat.reduceLeDiff, Nat.reduceEqDiff, Nat.reduceLT, Nat.reduceBEq, Int.reduceDiv, reduceCtorEq, $xs,*])
  | `(tactic| dsimp! only [$xs,*]) => `(tactic| simp (disch := first | assumption | exact id rfl | omega | (simp only [List.length_map, List.length_append, List.length_cons, List.length_nil, List.length_set, List.length_replicate, List.length_take, List.length_drop, List.length_reverse] <;> omega) | (simp only [if_true, if_false, eq_self, Nat.reduceEqDiff]; done) | (simp only [lo_non, lo_bl, lo_int, lo_str, lo_lst, lo_tup, lo_ins, loS_nil, loS_cons, loF_nil, loF_cons, loC_lst, loC_ins, loS_app, ev_1, ev_2, ev_3, ev_4, ev_6, ev_7, ev_8, ev_9, ev_10, ev_13, ev_14, ev_15, ev_16, ev_17, ev_18, ev_26, ev_27, ev_30, ev_31, ev_32, ev_33, ev_34, ev_35, ev_44, ev_45, ev_46, ev_47, ev_48, ev_49, ev_50, ev_51, ev_57, ev_58, lo_jars, lo_strs, lo_jD, lo_own, lo_rowL, lo_sh, lo_prs, lo_spD, lo_prD]; done) | exact fun _ => id rfl | fail) only [↓wp_ok, ↓wp_next, ↓wp_ret, ↓wp_sSeq, ↓wp_fnD, ↓outP_ret, ↓wp_outD_same, ↓wp_outD_keep, cmp_ii, neg_i, add_ii, sub_ii, mod_ii, len_lst, len_ro, len_tup, ↓wp_eK, ↓wp_eVar0, ↓wp_eVars, ↓wp_eBin, ↓wp_eUn, ↓wp_eArgs, ↓wp_aNil, ↓wp_aCons, ↓wp_tYes, ↓wp_tNot, ↓wp_tAnd, ↓wp_tOr, ↓wp_eIf, ↓wp_oNone, ↓wp_eSl, ↓wp_eFrz, ↓wp_eLc, ↓gwp_N, ↓gwp_nil, ↓gwp_cons, ↓gwp_T, ↓wp_sNext, ↓wp_sRet, ↓wp_sRetN, ↓wp_sExpr, ↓wp_sIf, ↓wp_sAsg, ↓par2_ok, ↓wp_sPar, ↓wp_sFor, tyChk_str, Den.sl_tup, okL_ok, list_tup, max_ii, min_ii, abs_i, ne_ii, eq_ii, eq_ss, ↓wp_eCall, okC_ok, ↓wp_outD_app, ↓wp_outD_st, app_app, mul_ib, fdiv_ib, divmod_ib, pow_ib, ofO_some, ↓wp_ofO, ix_lstE, ix_roE, ix_tupE, atI_0, atI_1, atI_2, atI_3, atI_4, atI_map, tyChk_lst, lo_non, lo_bl, lo_int, lo_str, lo_lst, lo_tup, lo_ins, loS_nil, loS_cons, loF_nil, loF_cons, loC_lst, loC_ins, loS_app, insOf_ins, add_ll', add_tt', add_ss', mkL_ok', mkT_ok', mkC_ok', len_str', ne_ss, imul_ib, iadd_ii, ↓wp_sAug, isN_non, isN_int, isN_str, isN_tup, isN_lst, notN_non, notN_int, notN_str, notN_tup, notN_lst, isi_str_non, isi_str_bl, isi_str_int, isi_str_str, isi_str_lst, isi_str_tup, isi_str_dct, isi_int_non, isi_int_bl, isi_int_int, isi_int_str, isi_int_lst, isi_int_tup, isi_int_dct, isi_bool_non, isi_bool_bl, isi_bool_int, isi_bool_str, isi_bool_lst, isi_bool_tup, isi_bool_dct, isi_list_non, isi_list_bl, isi_list_int, isi_list_str, isi_list_lst, isi_list_tup, isi_list_dct, isi_tuple_non, isi_tuple_bl, isi_tuple_int, isi_tuple_str, isi_tuple_lst, isi_tuple_tup, isi_tuple_dct, isi_dict_non, isi_dict_bl, isi_dict_int, isi_dict_str, isi_dict_lst, isi_dict_tup, isi_dict_dct, ↓insK_some, ↓optK_some, ↓cinK_app, ↓wp_eFldK, ↓wp_eMethK, ↓wp_sFldK, look_eq, look_ne, look_nil, put_nil, put_eq, put_ne, ↓blK_ok, ↓intK_ok, ↓strK_ok, ↓lstK_lst, ↓lstK_ro, ↓tupK_ok, ↓sqK_lst, ↓sqK_ro, ↓sqK_tup, ↓oneK_ok, ↓twoK_ok, ↓rngK_ok, ↓andK_true, ↓wk_tOf, ↓wk_eAnd, ↓wk_eOr, ↓wk_eNot, ↓wk_eChain, ↓wk_eM, ↓wk_oSome, ↓wk_iL, ↓wk_iT, ↓wk_iS, ↓wk_iR1, ↓wk_iR2, ↓wk_iEA, ↓wk_gsub, ↓lcK_ok, ↓lfK_ok, ↓lfK_fz, ↓szK_ok, ↓wk_append, ↓wk_reverse, ↓wk_clear, ↓wk_ixc, ↓frK_ok, ↓frK_fz, ↓wk_frz, ↓wk_frzL, ↓wk_lenc, ↓wk_setc, ↓wk_tyc, get_at0, get_at1, get_at2, get_at3, set_at0, set_at1, set_at2, set_at3, ↓wp_itemF, filterMap_some', filterMap_if, ↓itK_none, ↓itK_some, ↓wp_compN, ↓wp_forN, ↓wp_forC, ev_1, ev_2, ev_3, ev_4, ev_6, ev_7, ev_8, ev_9, ev_10, ev_11, ev_12, ev_13, ev_14, ev_15, ev_16, ev_17, ev_18, ev_19, ev_20, ev_21, ev_22, ev_23, ev_24, ev_25, ev_26, ev_27, ev_28, ev_29, ev_30, ev_31, ev_32, ev_33, ev_34, ev_35, ev_37, ev_38, ev_39, ev_40, ev_41, ev_42, ev_43, ev_44, ev_45, ev_46, ev_47, ev_48, ev_49, ev_50, ev_51, ev_54, ev_55, ev_56, ev_57, ev_58, ev_envOf, ev_wipe0, ev_wipe1, ev_rep0, ev_rep1, pick_cons, pick_nil, ↓szS_ok, ↓wk_jsN, ↓wk_js, fmt_s, fmt_i, str_i, str_s, int1_i, int1_b, isi_own, ↓wk_iZ, ↓wk_iV, zip_map, rev_lst, ↓par3_ok, ↓wp_sPar3, ↓truK_t, ↓truK_f, ↓wp_eOrT, truD_non, truD_bl, truD_int, truD_tup, truD_lst, ↓wk_slc, beqI_f, beqI_t, isub_ii, ifdiv_ib, ↓gwp_star1, ↓gwp_star0, lo_jars, lo_strs, lo_jD, lo_own, lo_rowL, lo_sh, ↓lstK_rowL, ↓sqK_rowL, ↓tupK_own, len_rowL, len_own, ix_rowL, ix_own, sl_rowL, tup_rowL, list_rowL, list_own, at_rd, at_rw, ↓frK_fzr, ↓lfK_fzr, lo_prs, lo_spD, lo_prD, ↓lstK_spD, ↓sqK_spD, len_spD, ix_spD, ↓reduceIte, Nat.reduceAdd, Nat.reduceSub, Nat.reduceLeDiff, Nat.reduceEqDiff, Nat.reduceLT, Nat.reduceBEq, Int.reduceDiv, reduceCtorEq, $xs,*])
  | `(tactic| simp_all! only [$xs,*]) => `(tactic| simp only [↓wp_ok, ↓wp_next, ↓wp_ret, ↓wp_sSeq, ↓wp_fnD, ↓outP_ret, ↓wp_outD_same, ↓wp_outD_keep, cmp_ii, neg_i, add_ii, sub_ii, mod_ii, len_lst, len_ro, len_tup, ↓wp_eK, ↓wp_eVar0, ↓wp_eVars, ↓wp_eBin, ↓wp_eUn, ↓wp_eArgs, ↓wp_aNil, ↓wp_aCons, ↓wp_tYes, ↓wp_tNot, ↓wp_tAnd, ↓wp_tOr, ↓wp_eIf, ↓wp_oNone, ↓wp_eSl, ↓wp_eFrz, ↓wp_eLc, ↓gwp_N, ↓gwp_nil, ↓gwp_cons, ↓gwp_T, ↓wp_sNext, ↓wp_sRet, ↓wp_sRetN, ↓wp_sExpr, ↓wp_sIf, ↓wp_sAsg, ↓par2_ok, ↓wp_sPar, ↓wp_sFor, tyChk_str, Den.sl_tup, okL_ok, list_tup, max_ii, min_ii, abs_i, ne_ii, eq_ii, eq_ss, ↓wp_eCall, okC_ok, ↓wp_outD_app, ↓wp_outD_st, app_app, mul_ib, fdiv_ib, divmod_ib, pow_ib, ofO_some, ↓wp_ofO, ix_lstE, ix_roE, ix_tupE, atI_0, atI_1, atI_2, atI_3, atI_4, atI_map, tyChk_lst, lo_non, lo_bl, lo_int, lo_str, lo_lst, lo_tup, lo_ins, loS_nil, loS_cons, loF_nil, loF_cons, loC_lst, loC_ins, loS_app, insOf_ins, add_ll', add_tt', add_ss', mkL_ok', mkT_ok', mkC_ok', len_str', ne_ss, imul_ib, iadd_ii, ↓wp_sAug, isN_non, isN_int, isN_str, isN_tup, isN_lst, notN_non, notN_int, notN_str, notN_tup, notN_lst, isi_str_non, isi_str_bl, isi_str_int, isi_str_str, isi_str_lst, isi_str_tup, isi_str_dct, isi_int_non, isi_int_bl, isi_int_int, isi_int_str, isi_int_lst, isi_int_tup, isi_int_dct, isi_bool_non, isi_bool_bl, isi_bool_int, isi_bool_str, isi_bool_lst, isi_bool_tup, isi_bool_dct, isi_list_non, isi_list_bl, isi_list_int, isi_list_str, isi_list_lst, isi_list_tup, isi_list_dct, isi_tuple_non, isi_tuple_bl, isi_tuple_int, isi_tuple_str, isi_tuple_lst, isi_tuple_tup, isi_tuple_dct, isi_dict_non, isi_dict_bl, isi_dict_int, isi_dict_str, isi_dict_lst, isi_dict_tup, isi_dict_dct, ↓insK_some, ↓optK_some, ↓cinK_app, ↓wp_eFldK, ↓wp_eMethK, ↓wp_sFldK, look_eq, look_ne, look_nil, put_nil, put_eq, put_ne, ↓blK_ok, ↓intK_ok, ↓strK_ok, ↓lstK_lst, ↓lstK_ro, ↓tupK_ok, ↓sqK_lst, ↓sqK_ro, ↓sqK_tup, ↓oneK_ok, ↓twoK_ok, ↓rngK_ok, ↓andK_true, ↓wk_tOf, ↓wk_eAnd, ↓wk_eOr, ↓wk_eNot, ↓wk_eChain, ↓wk_eM, ↓wk_oSome, ↓wk_iL, ↓wk_iT, ↓wk_iS, ↓wk_iR1, ↓wk_iR2, ↓wk_iEA, ↓wk_gsub, ↓lcK_ok, ↓lfK_ok, ↓lfK_fz, ↓szK_ok, ↓wk_append, ↓wk_reverse, ↓wk_clear, ↓wk_ixc, ↓frK_ok, ↓frK_fz, ↓wk_frz, ↓wk_frzL, ↓wk_lenc, ↓wk_setc, ↓wk_tyc, get_at0, get_at1, get_at2, get_at3, set_at0, set_at1, set_at2, set_at3, ↓wp_itemF, filterMap_some', filterMap_if, ↓itK_none, ↓itK_some, ↓wp_compN, ↓wp_forN, ↓wp_forC, ev_1, ev_2, ev_3, ev_4, ev_6, ev_7, ev_8, ev_9, ev_10, ev_11, ev_12, ev_13, ev_14, ev_15, ev_16, ev_17, ev_18, ev_19, ev_20, ev_21, ev_22, ev_23, ev_24, ev_25, ev_26, ev_27, ev_28, ev_29, ev_30, ev_31, ev_32, ev_33, ev_34, ev_35, ev_37, ev_38, ev_39, ev_40, ev_41, ev_42, ev_43, ev_44, ev_45, ev_46, ev_47, ev_48, ev_49, ev_50, ev_51, ev_54, ev_55, ev_56, ev_57, ev_58, ev_envOf, ev_wipe0, ev_wipe1, ev_rep0, ev_rep1, pick_cons, pick_nil, ↓szS_ok, ↓wk_jsN, ↓wk_js, fmt_s, fmt_i, str_i, str_s, int1_i, int1_b, isi_own, ↓wk_iZ, ↓wk_iV, zip_map, rev_lst, ↓par3_ok, ↓wp_sPar3, ↓truK_t, ↓truK_f, ↓wp_eOrT, truD_non, truD_bl, truD_int, truD_tup, truD_lst, ↓wk_slc, beqI_f, beqI_t, isub_ii, ifdiv_ib, ↓gwp_star1, ↓gwp_star0, lo_jars, lo_strs, lo_jD, lo_own, lo_rowL, lo_sh, ↓lstK_rowL, ↓sqK_rowL, ↓tupK_own, len_rowL, len_own, ix_rowL, ix_own, sl_rowL, tup_rowL, list_rowL, list_own, at_rd, at_rw, ↓frK_fzr, ↓lfK_fzr, lo_prs, lo_spD, lo_prD, ↓lstK_spD, ↓sqK_spD, len_spD, ix_spD, $xs,*])
theorem otherwise15_wp (hP : Pot C p st) (h : JsB (10 ^ 60) ts) (nx : ∀ us st', JsB (10 ^ 61) us → Pot C p st' → st'.length = C.length → Q (rowL us) st') : (den_law_otherwise [.cell p, rowL ts] st).wp Q E := by
  unfold den_law_otherwise
  have l0 := hP.len
  have h1 := h.pos
  have h12 := h.le
  have hb : (10 : Int) ^ 60 < 10 ^ 61 := by decide +kernel
  have ln : ∀ st, lenD [rowL ts] st = .ok (.int ts.length) st := fun st => by simp [lenD, asR, asL, rowL]
  simp! only [and_self]
  refine take_wp hP (by decide) (by decide) fun w s1 w0 w1 hP l1 => ?_
  simp! only [ln]
  refine take_wp hP (by omega) (by omega) fun i s2 i0 i1 hP l2 => ?_
  obtain ⟨i, rfl⟩ := Int.eq_ofNat_of_zero_le i0
  have hi : i < ts.length := by omega
  obtain ⟨a, ha⟩ : ∃ a, ts[i]? = some a := ⟨_, List.getElem?_eq_getElem hi⟩
  have ma := List.mem_of_getElem? ha
  have a2 := h.b2 a ma
  have a6 := h.b6 a ma
  have g0 := h.g0 a ma
  have gB := h.gB a ma
  have e0 : jD a = .tup [.str a.1, .int a.2.1, .int a.2.2] := rfl
  have ec : (i : Int) + 1 = ((i + 1 : Nat) : Int) := rfl
  have ec2 : (i : Int) + 2 = ((i + 2 : Nat) : Int) := rfl
  have em : ∀ (y : Str) (b g : Int), .lst (((ts.map jD).take i ++ [.tup [.str y, .int b, .int g]]) ++ (ts.map jD).drop (i + 1)) = rowL (ts.set i (y, b, g)) := fun y b g => by
    unfold rowL
    rw [List.map_set, List.set_eq_take_append_cons_drop, if_pos (by simpa using hi)]
    simp [jD]
  have e6 : (10 : Int) ^ Int.toNat 6 = 1000000 := by decide
  rcases (show w = 0 ∨ w = 1 ∨ w = 2 ∨ w = 3 ∨ w = 4 ∨ w = 5 ∨ w = 6 ∨ w = 7 by omega) with rfl | rfl | rfl | rfl | rfl | rfl | rfl | rfl
  · by_cases c : a.2.2 < 5
    · simp! only [atI_pos, ha, e0, c, cutD_to, cutD_from, ec, em]
      exact nx _ _ (h.at15 (by omega) ha (.inl rfl) a2 a6 (by omega) (by omega)) hP l2
    · simp! only [atI_pos, ha, e0, c, cutD_to, cutD_from, ec, em]
      exact nx _ _ (h.at15 (by omega) ha (.inl rfl) a2 a6 (by omega) (by omega)) hP l2
  · by_cases c : a.2.1 < 1000000
    · simp! only [atI_pos, ha, e0, e6, c, cutD_to, cutD_from, ec, em]
      exact nx _ _ (h.at15 (by omega) ha (.inl rfl) (by omega) (by omega) g0 (by omega)) hP l2
    · simp! only [atI_pos, ha, e0, e6, c, cutD_to, cutD_from, ec, em]
      exact nx _ _ (h.at15 (by omega) ha (.inl rfl) (by omega) (by omega) g0 (by omega)) hP l2
  · simp! only [atI_pos, ha, e0]
    refine wp_compX (F := ?F1) (fun x hx => ?h1) (by first | assumption | omega | (simp only [List.length_map, List.length_append, List.length_cons, List.length_nil, List.length_set, List.length_replicate, List.length_take, List.length_drop, List.length_reverse] <;> omega)) ?q1
    case h1 =>
      simp! only [jD]
      exact rfl
    simp! only [show List.map (fun x : J3 => D.str x.1) ts = (nms ts).map D.str by simp [nms]]
    refine label_wp (us := nms ts) hP (fun s hs => by simp only [toPyC, toPyCs_strs, Option.map_some]) (by rw [nms_len]; omega) h.lbn fun y s3 ly yn hP l3 => ?_
    simp! only [cutD_to, cutD_from, ec, em]
    exact nx _ _ (h.at15 (by omega) ha (.inr ⟨ly, yn⟩) a2 a6 g0 (by omega)) hP l3
  · by_cases c : (1 : Int) < (ts.length : Int)
    · have er : .lst ((ts.map jD).take i ++ (ts.map jD).drop (i + 1)) = rowL (ts.eraseIdx i) := by
        unfold rowL; rw [List.eraseIdx_eq_take_drop_succ]; simp
      simp! only [atI_pos, ha, e0, ln, c, cutD_to, cutD_from, ec, er]
      refine nx _ _ ((h.mono (by omega)).sub (List.eraseIdx_sublist ..) ?_) hP l2
      rw [List.length_eraseIdx_of_lt hi]; omega
    · simp! only [atI_pos, ha, e0, ln, c, cutD_to, cutD_from, ec, em]
      exact nx _ _ (h.at15 (by omega) ha (.inl rfl) a2 a6 (by omega) (by omega)) hP l2
  · have er : .lst ((ts.map jD).drop i ++ (ts.map jD).take i) = rowL (rot i ts) := by
      unfold rowL rot; simp
    simp! only [atI_pos, ha, e0, cutD_to, cutD_from, ec, er]
    exact nx _ _ (h.mono (by omega)).rot hP l2
  · have er : .lst (ts.map jD).reverse = rowL ts.reverse := by
      unfold rowL; rw [List.map_reverse]
    have rv : ∀ st, revD (rowL ts) st = .ok (rowL ts.reverse) st := fun st => by
      rw [← er]; rfl
    simp! only [atI_pos, ha, e0, rv]
    exact nx _ _ ((h.mono (by omega)).perm (List.reverse_perm ts)) hP l2
  · by_cases c : (i : Int) + 1 < (ts.length : Int)
    · obtain ⟨b, hb'⟩ : ∃ b, ts[i + 1]? = some b := ⟨_, List.getElem?_eq_getElem (by omega)⟩
      have er : .lst (((ts.map jD).take i ++ [jD b, jD a]) ++ (ts.map jD).drop (i + 2)) = rowL (ts.take i ++ [b, a] ++ ts.drop (i + 2)) := by
        unfold rowL; simp
      have c' : ((i + 1 : Nat) : Int) < (ts.length : Int) := c
      have e1 : jD b = .tup [.str b.1, .int b.2.1, .int b.2.2] := rfl
      rw [e0, e1] at er
      simp! only [atI_pos, ha, hb', e0, e1, ln, c', cutD_to, cutD_from, ec, ec2, er]
      refine nx _ _ ((h.mono (by omega)).perm ?_) hP l2
      have d1 : ts.drop i = a :: ts.drop (i + 1) := by rw [List.drop_eq_getElem_cons hi]; rw [List.getElem?_eq_getElem hi] at ha; cases ha; rfl
      have hi1 : i + 1 < ts.length := by omega
      have d2 : ts.drop (i + 1) = b :: ts.drop (i + 2) := by rw [List.drop_eq_getElem_cons hi1]; rw [List.getElem?_eq_getElem hi1] at hb'; cases hb'; rfl
      have e3 : ts = ts.take i ++ (a :: b :: ts.drop (i + 2)) := by rw [← d2, ← d1, List.take_append_drop]
      conv => rhs; rw [e3]
      rw [List.append_assoc]
      exact List.Perm.append_left _ (List.Perm.swap a b _)
    · have c' : ¬ ((i + 1 : Nat) : Int) < (ts.length : Int) := c
      simp! only [atI_pos, ha, e0, ln, c', cutD_to, cutD_from, ec, em]
      exact nx _ _ (h.at15 (by omega) ha (.inl rfl) a2 a6 (by omega) (by omega)) hP l2
  · simp! only [atI_pos, ha, e0, cutD_to, cutD_from, ec, em]
    exact nx _ _ (h.at15 (by omega) ha (.inl rfl) a2 a6 (by omega) (by omega)) hP l2
end
end Q

namespace Q
open PySem PySem.Spec PyProof.Rows L2 Den
section
variable {C : Store} {p : Nat} {st : Store} {Q : D → Store → Prop} {E : Xc → Store → Prop} {ts us : List J3} {B B' n t u m : Int} {a b : J3} {y : Str} {i k : Nat}
local macro_rules
  | `(tactic| simp! only [$xs,*]) => `(tactic| simp (disch := first | assumption | exact id rfl | omega | (simp only [List.length_map, List.length_append, List.length_cons, List.length_nil, List.length_set, List.length_replicate, List.length_take, List.length_drop, List.length_reverse] <;> omega) | (simp only [if_true, if_false, eq_self, Nat.reduceEqDiff]; done) | (simp only [lo_non, lo_bl, lo_int, lo_str, lo_lst, lo_tup, lo_ins, loS_nil, loS_cons, loF_nil, loF_cons, loC_lst, loC_ins, loS_app, ev_1, ev_2, ev_3, ev_4, ev_6, ev_7, ev_8, ev_9, ev_10, ev_13, ev_14, ev_15, ev_16, ev_17, ev_18, ev_26, ev_27, ev_30, ev_31, ev_32, ev_33, ev_34, ev_35, ev_44, ev_45, ev_46, ev_47, ev_48, ev_49, ev_50, ev_51, ev_57, ev_58, lo_jars, lo_strs, lo_jD, lo_own, lo_rowL, lo_sh, lo_prs, lo_spD, lo_prD]; done) | fail) only [↓wp_ok, ↓wp_next, ↓wp_ret, ↓wp_sSeq, ↓wp_fnD, ↓outP_ret, ↓wp_outD_same, ↓wp_outD_keep, cmp_ii, neg_i, add_ii, sub_ii, mod_ii, len_lst, len_ro, len_tup, ↓wp_eK, ↓wp_eVar0, ↓wp_eVars, ↓wp_eBin, ↓wp_eUn, ↓wp_eArgs, ↓wp_aNil, ↓wp_aCons, ↓wp_tYes, ↓wp_tNot, ↓wp_tAnd, ↓wp_tOr, ↓wp_eIf, ↓wp_oNone, ↓wp_eSl, ↓wp_eFrz, ↓wp_eLc, ↓gwp_N, ↓gwp_nil, ↓gwp_cons, ↓gwp_T, ↓wp_sNext, ↓wp_sRet, ↓wp_sRetN, ↓wp_sExpr, ↓wp_sIf, ↓wp_sAsg, ↓par2_ok, ↓wp_sPar, ↓wp_sFor, tyChk_str, Den.sl_tup, okL_ok, list_tup, max_ii, min_ii, abs_i, ne_ii, eq_ii, eq_ss, ↓wp_eCall, okC_ok, ↓wp_outD_app, ↓wp_outD_st, app_app, mul_ib, fdiv_ib, divmod_ib, pow_ib, ofO_some, ↓wp_ofO, ix_lstE, ix_roE, ix_tupE, atI_0, atI_1, atI_2, atI_3, atI_4, atI_map, tyChk_lst, lo_non, lo_bl, lo_int, lo_str, lo_lst, lo_tup, lo_ins, loS_nil, loS_cons, loF_nil, loF_cons, loC_lst, loC_ins, loS_app, insOf_ins, add_ll', add_tt', add_ss', mkL_ok', mkT_ok', mkC_ok', len_str', ne_ss, imul_ib, iadd_ii, ↓wp_sAug, isN_non, isN_int, isN_str, isN_tup, isN_lst, notN_non, notN_int, notN_str, notN_tup, notN_lst, isi_str_non, isi_str_bl, isi_str_int, isi_str_str, isi_str_lst, isi_str_tup, isi_str_dct, isi_int_non, isi_int_bl, isi_int_int, isi_int_str, isi_int_lst, isi_int_tup, isi_int_dct, isi_bool_non, isi_bool_bl, isi_bool_int, isi_bool_str, isi_bool_lst, isi_bool_tup, isi_bool_dct, isi_list_non, isi_list_bl, isi_list_int, isi_list_str, isi_list_lst, isi_list_tup, isi_list_dct, isi_tuple_non, isi_tuple_bl, isi_tuple_int, isi_tuple_str, isi_tuple_lst, isi_tuple_tup, isi_tuple_dct, isi_dict_non, isi_dict_bl, isi_dict_int, isi_dict_str, isi_dict_lst, isi_dict_tup, isi_dict_dct, ↓insK_some, ↓optK_some, ↓cinK_app, ↓wp_eFldK, ↓wp_eMethK, ↓wp_sFldK, look_eq, look_ne, look_nil, put_nil, put_eq, put_ne, ↓blK_ok, ↓intK_ok, ↓strK_ok, ↓lstK_lst, ↓lstK_ro, ↓tupK_ok, ↓sqK_lst, ↓sqK_ro, ↓sqK_tup, ↓oneK_ok, ↓twoK_ok, ↓rngK_ok, ↓andK_true, ↓wk_tOf, ↓wk_eAnd, ↓wk_eOr, ↓wk_eNot, ↓wk_eChain, ↓wk_eM, ↓wk_oSome, ↓wk_iL, ↓wk_iT, ↓wk_iS, ↓wk_iR1, ↓wk_iR2, ↓wk_iEA, ↓wk_gsub, ↓lcK_ok, ↓lfK_ok, ↓lfK_fz, ↓szK_ok, ↓wk_append, ↓wk_reverse, ↓wk_clear, ↓wk_ixc, ↓frK_ok, ↓frK_fz, ↓wk_frz, ↓wk_frzL, ↓wk_lenc, ↓wk_setc, ↓wk_tyc, get_at0, get_at1, get_at2, get_at3, set_at0, set_at1, set_at2, set_at3, ↓wp_itemF, filterMap_some', filterMap_if, ↓itK_none, ↓itK_some, ↓wp_compN, ↓wp_forN, ↓wp_forC, ev_1, ev_2, ev_3, ev_4, ev_6, ev_7, ev_8, ev_9, ev_10, ev_11, ev_12, ev_13, ev_14, ev_15, ev_16, ev_17, ev_18, ev_19, ev_20, ev_21, ev_22, ev_23, ev_24, ev_25, ev_26, ev_27, ev_28, ev_29, ev_30, ev_31, ev_32, ev_33, ev_34, ev_35, ev_37, ev_38, ev_39, ev_40, ev_41, ev_42, ev_43, ev_44, ev_45, ev_46, ev_47, ev_48, ev_49, ev_50, ev_51, ev_54, ev_55, ev_56, ev_57, ev_58, ev_envOf, ev_wipe0, ev_wipe1, ev_rep0, ev_rep1, pick_cons, pick_nil, ↓szS_ok, ↓wk_jsN, ↓wk_js, fmt_s, fmt_i, str_i, str_s, int1_i, int1_b, isi_own, ↓wk_iZ, ↓wk_iV, zip_map, rev_lst, ↓par3_ok, ↓wp_sPar3, ↓truK_t, ↓truK_f, ↓wp_eOrT, truD_non, truD_bl, truD_int, truD_tup, truD_lst, ↓wk_slc, beqI_f, beqI_t, isub_ii, ifdiv_ib, ↓gwp_star1, ↓gwp_star0, lo_jars, lo_strs, lo_jD, lo_own, lo_rowL, lo_sh, ↓lstK_rowL, ↓sqK_rowL, ↓tupK_own, len_rowL, len_own, ix_rowL, ix_own, sl_rowL, tup_rowL, list_rowL, list_own, at_rd, at_rw, ↓frK_fzr, ↓lfK_fzr, lo_prs, lo_spD, lo_prD, ↓lstK_spD, ↓sqK_spD, len_spD, ix_spD, ↓reduceIte, Nat.reduceAdd, Nat.reduceSub, Nat.reduceLeDiff, Nat.reduceEqDiff, Nat.reduceLT, Nat.reduceBEq, Int.reduceDiv, reduceCtorEq, $xs,*])
  | `(tactic| dsimp! only [$xs,*]) => `(tactic| simp (disch := first | assumption | exact id rfl | omega | (simp only [List.length_map, List.length_append, List.length_cons, List.length_nil, List.length_set, List.length_replicate, List.length_take, List.length_drop, List.length_reverse] <;> omega) | (simp only [if_true, if_false, eq_self, Nat.reduceEqDiff]; done) | (simp only [lo_non, lo_bl, lo_int, lo_str, lo_lst, lo_tup, lo_ins, loS_nil, loS_cons, loF_nil, loF_cons, loC_lst, loC_ins, loS_app, ev_1, ev_2, ev_3, ev_4, ev_6, ev_7, ev_8, ev_9, ev_10, ev_13, ev_14, ev_15, ev_16, ev_17, ev_18, ev_26, ev_27, ev_30, ev_31, ev_32, ev_33, ev_34, ev_35, ev_44, ev_45, ev_46, ev_47, ev_48, ev_49, ev_50, ev_51, ev_57, ev_58, lo_jars, lo_strs, lo_jD, lo_own, lo_rowL, lo_sh, lo_prs, lo_spD, lo_prD]; done) | exact fun _ => id rfl | fail) only [↓wp_ok, ↓wp_next, ↓wp_ret, ↓wp_sSeq, ↓wp_fnD, ↓outP_ret, ↓wp_outD_same, ↓wp_outD_keep, cmp_ii, neg_i, add_ii, sub_ii, mod_ii, len_lst, len_ro, len_tup, ↓wp_eK, ↓wp_eVar0, ↓wp_eVars, ↓wp_eBin, ↓wp_eUn, ↓wp_eArgs, ↓wp_aNil, ↓wp_aCons, ↓wp_tYes, ↓wp_tNot, ↓wp_tAnd, ↓wp_tOr, ↓wp_eIf, ↓wp_oNone, ↓wp_eSl, ↓wp_eFrz, ↓wp_eLc, ↓gwp_N, ↓gwp_nil, ↓gwp_cons, ↓gwp_T, ↓wp_sNext, ↓wp_sRet, ↓wp_sRetN, ↓wp_sExpr, ↓wp_sIf, ↓wp_sAsg, ↓par2_ok, ↓wp_sPar, ↓wp_sFor, tyChk_str, Den.sl_tup, okL_ok, list_tup, max_ii, min_ii, abs_i, ne_ii, eq_ii, eq_ss, ↓wp_eCall, okC_ok, ↓wp_outD_app, ↓wp_outD_st, app_app, mul_ib, fdiv_ib, divmod_ib, pow_ib, ofO_some, ↓wp_ofO, ix_lstE, ix_roE, ix_tupE, atI_0, atI_1, atI_2, atI_3, atI_4, atI_map, tyChk_lst, lo_non, lo_bl, lo_int, lo_str, lo_lst, lo_tup, lo_ins, loS_nil, loS_cons, loF_nil, loF_cons, loC_lst, loC_ins, loS_app, insOf_ins, add_ll', add_tt', add_ss', mkL_ok', mkT_ok', mkC_ok', len_str', ne_ss, imul_ib, iadd_ii, ↓wp_sAug, isN_non, isN_int, isN_str, isN_tup, isN_lst, notN_non, notN_int, notN_str, notN_tup, notN_lst, isi_str_non, isi_str_bl, isi_str_int, isi_str_str, isi_str_lst, isi_str_tup, isi_str_dct, isi_int_non, isi_int_bl, isi_int_int, isi_int_str, isi_int_lst, isi_int_tup, isi_int_dct, isi_bool_non, isi_bool_bl, isi_bool_int, isi_bool_str, isi_bool_lst, isi_bool_tup, isi_bool_dct, isi_list_non, isi_list_bl, isi_list_int, isi_list_str, isi_list_lst, isi_list_tup, isi_list_dct, isi_tuple_non, isi_tuple_bl, isi_tuple_int, isi_tuple_str, isi_tuple_lst, isi_tuple_tup, isi_tuple_dct, isi_dict_non, isi_dict_bl, isi_dict_int, isi_dict_str, isi_dict_lst, isi_dict_tup, isi_dict_dct, ↓insK_some, ↓optK_some, ↓cinK_app, ↓wp_eFldK, ↓wp_eMethK, ↓wp_sFldK, look_eq, look_ne, look_nil, put_nil, put_eq, put_ne, ↓blK_ok, ↓intK_ok, ↓strK_ok, ↓lstK_lst, ↓lstK_ro, ↓tupK_ok, ↓sqK_lst, ↓sqK_ro, ↓sqK_tup, ↓oneK_ok, ↓twoK_ok, ↓rngK_ok, ↓andK_true, ↓wk_tOf, ↓wk_eAnd, ↓wk_eOr, ↓wk_eNot, ↓wk_eChain, ↓wk_eM, ↓wk_oSome, ↓wk_iL, ↓wk_iT, ↓wk_iS, ↓wk_iR1, ↓wk_iR2, ↓wk_iEA, ↓wk_gsub, ↓lcK_ok, ↓lfK_ok, ↓lfK_fz, ↓szK_ok, ↓wk_append, ↓wk_reverse, ↓wk_clear, ↓wk_ixc, ↓frK_ok, ↓frK_fz, ↓wk_frz, ↓wk_frzL, ↓wk_lenc, ↓wk_setc, ↓wk_tyc, get_at0, get_at1, get_at2, get_at3, set_at0, set_at1, set_at2, set_at3, ↓wp_itemF, filterMap_some', filterMap_if, ↓itK_none, ↓itK_some, ↓wp_compN, ↓wp_forN, ↓wp_forC, ev_1, ev_2, ev_3, ev_4, ev_6, ev_7, ev_8, ev_9, ev_10, ev_11, ev_12, ev_13, ev_14, ev_15, ev_16, ev_17, ev_18, ev_19, ev_20, ev_21, ev_22, ev_23, ev_24, ev_25, ev_26, ev_27, ev_28, ev_29, ev_30, ev_31, ev_32, ev_33, ev_34, ev_35, ev_37, ev_38, ev_39, ev_40, ev_41, ev_42, ev_43, ev_44, ev_45, ev_46, ev_47, ev_48, ev_49, ev_50, ev_51, ev_54, ev_55, ev_56, ev_57, ev_58, ev_envOf, ev_wipe0, ev_wipe1, ev_rep0, ev_rep1, pick_cons, pick_nil, ↓szS_ok, ↓wk_jsN, ↓wk_js, fmt_s, fmt_i, str_i, str_s, int1_i, int1_b, isi_own, ↓wk_iZ, ↓wk_iV, zip_map, rev_lst, ↓par3_ok, ↓wp_sPar3, ↓truK_t, ↓truK_f, ↓wp_eOrT, truD_non, truD_bl, truD_int, truD_tup, truD_lst, ↓wk_slc, beqI_f, beqI_t, isub_ii, ifdiv_ib, ↓gwp_star1, ↓gwp_star0, lo_jars, lo_strs, lo_jD, lo_own, lo_rowL, lo_sh, ↓lstK_rowL, ↓sqK_rowL, ↓tupK_own, len_rowL, len_own, ix_rowL, ix_own, sl_rowL, tup_rowL, list_rowL, list_own, at_rd, at_rw, ↓frK_fzr, ↓lfK_fzr, lo_prs, lo_spD, lo_prD, ↓lstK_spD, ↓sqK_spD, len_spD, ix_spD, ↓reduceIte, Nat.reduceAdd, Nat.reduceSub, Nat.reduceLeDiff, Nat.reduceEqDiff, Nat.reduceLT, Nat.reduceBEq, Int.reduceDiv, reduceCtorEq, $xs,*])
  | `(tactic| simp_all! only [$xs,*]) => `(tactic| simp only [↓wp_ok, ↓wp_next, ↓wp_ret, ↓wp_sSeq, ↓wp_fnD, ↓outP_ret, ↓wp_outD_same, ↓wp_outD_keep, cmp_ii, neg_i, add_ii, sub_ii, mod_ii, len_lst, len_ro, len_tup, ↓wp_eK, ↓wp_eVar0, ↓wp_eVars, ↓wp_eBin, ↓wp_eUn, ↓wp_eArgs, ↓wp_aNil, ↓wp_aCons, ↓wp_tYes, ↓wp_tNot, ↓wp_tAnd, ↓wp_tOr, ↓wp_eIf, ↓wp_oNone, ↓wp_eSl, ↓wp_eFrz, ↓wp_eLc, ↓gwp_N, ↓gwp_nil, ↓gwp_cons, ↓gwp_T, ↓wp_sNext, ↓wp_sRet, ↓wp_sRetN, ↓wp_sExpr, ↓wp_sIf, ↓wp_sAsg, ↓par2_ok, ↓wp_sPar, ↓wp_sFor, tyChk_str, Den.sl_tup, okL_ok, list_tup, max_ii, min_ii, abs_i, ne_ii, eq_ii, eq_ss, ↓wp_eCall, okC_ok, ↓wp_outD_app, ↓wp_outD_st, app_app, mul_ib, fdiv_ib, divmod_ib, pow_ib, ofO_some, ↓wp_ofO, ix_lstE, ix_roE, ix_tupE, atI_0, atI_1, atI_2, atI_3, atI_4, atI_map, tyChk_lst, lo_non, lo_bl, lo_int, lo_str, lo_lst, lo_tup, lo_ins, loS_nil, loS_cons, loF_nil, loF_cons, loC_lst, loC_ins, loS_app, insOf_ins, add_ll', add_tt', add_ss', mkL_ok', mkT_ok', mkC_ok', len_str', ne_ss, imul_ib, iadd_ii, ↓wp_sAug, isN_non, isN_int, isN_str, isN_tup, isN_lst, notN_non, notN_int, notN_str, notN_tup, notN_lst, isi_str_non, isi_str_bl, isi_str_int, isi_str_str, isi_str_lst, isi_str_tup, isi_str_dct, isi_int_non, isi_int_bl, isi_int_int, isi_int_str, isi_int_lst, isi_int_tup, isi_int_dct, isi_bool_non, isi_bool_bl, isi_bool_int, isi_bool_str, isi_bool_lst, isi_bool_tup, isi_bool_dct, isi_list_non, isi_list_bl, isi_list_int, isi_list_str, isi_list_lst, isi_list_tup, isi_list_dct, isi_tuple_non, isi_tuple_bl, isi_tuple_int, isi_tuple_str, isi_tuple_lst, isi_tuple_tup, isi_tuple_dct, isi_dict_non, isi_dict_bl, isi_dict_int, isi_dict_str, isi_dict_lst, isi_dict_tup, isi_dict_dct, ↓insK_some, ↓optK_some, ↓cinK_app, ↓wp_eFldK, ↓wp_eMethK, ↓wp_sFldK, look_eq, look_ne, look_nil, put_nil, put_eq, put_ne, ↓blK_ok, ↓intK_ok, ↓strK_ok, ↓lstK_lst, ↓lstK_ro, ↓tupK_ok, ↓sqK_lst, ↓sqK_ro, ↓sqK_tup, ↓oneK_ok, ↓twoK_ok, ↓rngK_ok, ↓andK_true, ↓wk_tOf, ↓wk_eAnd, ↓wk_eOr, ↓wk_eNot, ↓wk_eChain, ↓wk_eM, ↓wk_oSome, ↓wk_iL, ↓wk_iT, ↓wk_iS, ↓wk_iR1, ↓wk_iR2, ↓wk_iEA, ↓wk_gsub, ↓lcK_ok, ↓lfK_ok, ↓lfK_fz, ↓szK_ok, ↓wk_append, ↓wk_reverse, ↓wk_clear, ↓wk_ixc, ↓frK_ok, ↓frK_fz, ↓wk_frz, ↓wk_frzL, ↓wk_lenc, ↓wk_setc, ↓wk_tyc, get_at0, get_at1, get_at2, get_at3, set_at0, set_at1, set_at2, set_at3, ↓wp_itemF, filterMap_some', filterMap_if, ↓itK_none, ↓itK_some, ↓wp_compN, ↓wp_forN, ↓wp_forC, ev_1, ev_2, ev_3, ev_4, ev_6, ev_7, ev_8, ev_9, ev_10, ev_11, ev_12, ev_13, ev_14, ev_15, ev_16, ev_17, ev_18, ev_19, ev_20, ev_21, ev_22, ev_23, ev_24, ev_25, ev_26, ev_27, ev_28, ev_29, ev_30, ev_31, ev_32, ev_33, ev_34, ev_35, ev_37, ev_38, ev_39, ev_40, ev_41, ev_42, ev_43, ev_44, ev_45, ev_46, ev_47, ev_48, ev_49, ev_50, ev_51, ev_54, ev_55, ev_56, ev_57, ev_58, ev_envOf, ev_wipe0, ev_wipe1, ev_rep0, ev_rep1, pick_cons, pick_nil, ↓szS_ok, ↓wk_jsN, ↓wk_js, fmt_s, fmt_i, str_i, str_s, int1_i, int1_b, isi_own, ↓wk_iZ, ↓wk_iV, zip_map, rev_lst, ↓par3_ok, ↓wp_sPar3, ↓truK_t, ↓truK_f, ↓wp_eOrT, truD_non, truD_bl, truD_int, truD_tup, truD_lst, ↓wk_slc, beqI_f, beqI_t, isub_ii, ifdiv_ib, ↓gwp_star1, ↓gwp_star0, lo_jars, lo_strs, lo_jD, lo_own, lo_rowL, lo_sh, ↓lstK_rowL, ↓sqK_rowL, ↓tupK_own, len_rowL, len_own, ix_rowL, ix_own, sl_rowL, tup_rowL, list_rowL, list_own, at_rd, at_rw, ↓frK_fzr, ↓lfK_fzr, lo_prs, lo_spD, lo_prD, ↓lstK_spD, ↓sqK_spD, len_spD, ix_spD, $xs,*])
theorem alikes15 (h : JsB (10 ^ 60) ts) (h' : JsB (10 ^ 61) us) (n0 : 0 ≤ n) (n1 : n < 10 ^ 60) (m0 : 0 ≤ m) (m1 : m ≤ 10 ^ 60) :
    den_law_are_alike [.lst [shD (.rd (turn ts)), shD (.rw ts n)], .tup [rowL us, .int m], rowL ts, .int n] st = .ok (.bl true) st := by
  have hB : (10 : Int) ^ 60 ≤ 10 ^ 150 := by decide +kernel
  have hB' : (10 : Int) ^ 61 ≤ 10 ^ 150 := by decide +kernel
  have q60 : (10 : Int) ^ 60 < 10 ^ 150 := by decide +kernel
  have e150 : ((10 ^ 150 : Nat) : Int) = (10 : Int) ^ 150 := by decide +kernel
  have h12 := h.le
  have tn : n.natAbs < 10 ^ 150 := by omega
  have tm : m.natAbs < 10 ^ 150 := by omega
  have td := fun st => turned15 (st := st) h
  have tu := fun st => turned15 (st := st) h'
  have mr := fun st => mkRd (st := st) h' hB' JArg.ofRow
  have mw := fun st => mkRw (st := st) (tr := m) h' hB' m0 (by omega) (show JArg st (rowL us) us from JArg.ofRow)
  have mw0 : ∀ st, newI 23 (fun ds es st => denRow_init (ds ++ (es ++ [.int 0])) st) [rowL (turn ts)] [] st = .ok (shD (.rw (turn ts) 0)) st := fun st => mkRw (st := st) (tr := 0) h.turn hB (Int.le_refl _) (by decide +kernel) (show JArg st (rowL (turn ts)) (turn ts) from JArg.ofRow)
  have i0 : ∀ (a b : D) st, ixD (.lst [a, b]) (.int 0) st = .ok a st := fun a b st => rfl
  have i1 : ∀ (a b : D) st, ixD (.lst [a, b]) (.int 1) st = .ok b st := fun a b st => rfl
  have q1 := fun st => eq_row (st := st) h.turn hB h'.turn hB'
  have q2 := fun st => eq_row (st := st) h hB h' hB'
  have A1 := fun st => alike15 (st := st) (mix_rd h.turn hB h'.turn hB')
  have A2 := fun st => alike15 (st := st) (mix_rw h hB h' hB' tn tm)
  have A3 := fun st => alike15 (st := st) (mix_kinds (ts := turn ts) (us := ts) (u := n))
  have A4 := fun st => alike15 (st := st) (mix_kinds (ts := turn ts) (us := turn ts) (u := 0))
  have pos := h.pos
  obtain ⟨a, ha⟩ : ∃ a, ts[0]? = some a := ⟨_, List.getElem?_eq_getElem pos⟩
  have ln : ∀ st, lenD [rowL ts] st = .ok (.int ts.length) st := fun st => by simp [lenD, asR, asL, rowL]
  have li : ∀ st, listD okL [rowL ts] st = .ok (rowL ts) st := fun st => rfl
  have lt : ∀ st, tupleD [rowL ts] st = .ok (.tup (ts.map jD)) st := fun st => rfl
  have ir : ∀ st, ixD (rowL ts) (.int 0) st = .ok (jD a) st := fun st => by
    rw [show (0 : Int) = ((0 : Nat) : Int) from rfl, ix_rowL, atI_pos, ha]; rfl
  have r1 := fun st => txt_str (st := st) (els := strD) (g' := denRow_str) (hasRd (ts := turn ts)).at_ (.inl ⟨rfl, rstr_eq (st := st) h.turn hB⟩)
  have r4 := fun st => txt_str (st := st) (els := reprD) (g := denRound_repr) (hasRw (ts := ts) (tr := n)).at_ (.inr ⟨rfl, wrepr_eq (st := st) h hB tn⟩)
  have N1 := fun st => alike15 (st := st) (mix_data (s := .rd (turn ts)) (e := .non) rfl)
  have N2 := fun st => alike15 (st := st) (mix_data (s := .rw ts n) (e := .non) rfl)
  have I1 := fun x st => alike15 (st := st) (mix_data (s := .rd (turn ts)) (e := .int x) rfl)
  have I2 := fun x st => alike15 (st := st) (mix_data (s := .rw ts n) (e := .int x) rfl)
  have R1 := fun st => alike15 (st := st) (mix_data (s := .rd (turn ts)) (e := rowL ts) rfl)
  have R2 := fun st => alike15 (st := st) (mix_data (s := .rw ts n) (e := rowL ts) rfl)
  have L1 := fun x st => alike15 (st := st) (mix_data (s := .rd (turn ts)) (e := .lst x) rfl)
  have L2 := fun x st => alike15 (st := st) (mix_data (s := .rw ts n) (e := .lst x) rfl)
  have T1 := fun x st => alike15 (st := st) (mix_data (s := .rd (turn ts)) (e := .tup x) rfl)
  have T2 := fun x st => alike15 (st := st) (mix_data (s := .rw ts n) (e := .tup x) rfl)
  have J1 := fun st => alike15 (st := st) (mix_data (s := .rd (turn ts)) (e := jD a) rfl)
  have J2 := fun st => alike15 (st := st) (mix_data (s := .rw ts n) (e := jD a) rfl)
  have S1 := fun x st => alike15 (st := st) (mix_data (s := .rd (turn ts)) (e := .str x) rfl)
  have S2 := fun x st => alike15 (st := st) (mix_data (s := .rw ts n) (e := .str x) rfl)
  have B1 := fun x st => alike15 (st := st) (mix_data (s := .rd (turn ts)) (e := .bl x) rfl)
  have B2 := fun x st => alike15 (st := st) (mix_data (s := .rw ts n) (e := .bl x) rfl)
  have D1 := fun x st => alike15 (st := st) (mix_data (s := .rd (turn ts)) (e := .dct x) rfl)
  have D2 := fun x st => alike15 (st := st) (mix_data (s := .rw ts n) (e := .dct x) rfl)
  refine Res.eq_of_wp ?_
  unfold den_law_are_alike
  by_cases c1 : ts = us
  · subst c1
    by_cases c2 : n = m
    · subst c2
      simp only [true_and, and_self, decide_true] at A1 A2 q1 q2
      simp! only [i0, i1, td, tu, mr, mw, mw0, mkS, q1, q2, A1, A2, A3, A4, ln, li, lt, ir, r1, r4, N1, N2, I1, I2, R1, R2, L1, L2, T1, T2, J1, J2, S1, S2, B1, B2, D1, D2]
    · have d2 : decide (n = m) = false := decide_eq_false c2
      simp only [true_and, decide_true, d2] at A1 A2 q1 q2
      simp! only [c2, i0, i1, td, tu, mr, mw, mw0, mkS, q1, q2, A1, A2, A3, A4, ln, li, lt, ir, r1, r4, N1, N2, I1, I2, R1, R2, L1, L2, T1, T2, J1, J2, S1, S2, B1, B2, D1, D2]
  · have d1 : decide (ts = us) = false := decide_eq_false c1
    have d3 : decide (ts = us ∧ n = m) = false := decide_eq_false fun q => c1 q.1
    simp only [d3] at A2
    simp only [d1] at q2
    simp! only [i0, i1, td, tu, mr, mw, mw0, mkS, q1, q2, A1, A2, A3, A4, ln, li, lt, ir, r1, r4, N1, N2, I1, I2, R1, R2, L1, L2, T1, T2, J1, J2, S1, S2, B1, B2, D1, D2]
end
end Q

namespace K15
open PySem PySem.Spec PyProof.Rows L2 Den
def topS (i : Nat) : Stmt := PySem.Challenge.pw_pourround_k15_equal_and_shown.main.body.getD i (.Pass ⟨0, 0, 0, 0⟩)
abbrev sShape_names : Stmt := (clsB (topS 19)).getD 2 (.Pass ⟨0, 0, 0, 0⟩)
theorem scShape_names : FnScope ["self", "name", "base", "grains"] ["self"] (defScope sShape_names) := ⟨rfl, rfl, rfl, by decide +kernel, rfl, by decide +kernel, by decide +kernel⟩
abbrev sShape_has : Stmt := (clsB (topS 19)).getD 3 (.Pass ⟨0, 0, 0, 0⟩)
theorem scShape_has : FnScope ["self", "name"] ["self", "name"] (defScope sShape_has) := ⟨rfl, rfl, rfl, by decide +kernel, rfl, by decide +kernel, by decide +kernel⟩
abbrev sShape_place : Stmt := (clsB (topS 19)).getD 4 (.Pass ⟨0, 0, 0, 0⟩)
theorem scShape_place : FnScope ["self", "name"] ["self", "name"] (defScope sShape_place) := ⟨rfl, rfl, rfl, by decide +kernel, rfl, by decide +kernel, by decide +kernel⟩
abbrev sRound_jars : Stmt := (clsB (topS 20)).getD 1 (.Pass ⟨0, 0, 0, 0⟩)
theorem scRound_jars : FnScope ["self", "start", "at"] ["self", "start"] (defScope sRound_jars) := ⟨rfl, rfl, rfl, by decide +kernel, rfl, by decide +kernel, by decide +kernel⟩
abbrev sis_whole : Stmt := topS 10
theorem scis_whole : FnScope ["thing"] ["thing"] (defScope sis_whole) := ⟨rfl, rfl, rfl, by decide +kernel, rfl, by decide +kernel, by decide +kernel⟩
abbrev sis_base : Stmt := topS 12
theorem scis_base : FnScope ["thing"] ["thing"] (defScope sis_base) := ⟨rfl, rfl, rfl, by decide +kernel, rfl, by decide +kernel, by decide +kernel⟩
abbrev sis_grains : Stmt := topS 13
theorem scis_grains : FnScope ["thing"] ["thing"] (defScope sis_grains) := ⟨rfl, rfl, rfl, by decide +kernel, rfl, by decide +kernel, by decide +kernel⟩
abbrev sis_name : Stmt := topS 11
theorem scis_name : FnScope ["thing", "sign"] ["thing"] (defScope sis_name) := ⟨rfl, rfl, rfl, by decide +kernel, rfl, by decide +kernel, by decide +kernel⟩
abbrev sis_jar : Stmt := topS 14
theorem scis_jar : FnScope ["thing", "name", "base", "grains"] ["thing"] (defScope sis_jar) := ⟨rfl, rfl, rfl, by decide +kernel, rfl, by decide +kernel, by decide +kernel⟩
abbrev swant_jars : Stmt := topS 17
theorem scwant_jars : FnScope ["things", "names", "at", "thing"] ["things"] (defScope swant_jars) := ⟨rfl, rfl, rfl, by decide +kernel, rfl, by decide +kernel, by decide +kernel⟩
abbrev sShape_init : Stmt := (clsB (topS 19)).getD 0 (.Pass ⟨0, 0, 0, 0⟩)
theorem scShape_init : FnScope ["self", "jars"] ["self", "jars"] (defScope sShape_init) := ⟨rfl, rfl, rfl, by decide +kernel, rfl, by decide +kernel, by decide +kernel⟩
abbrev sRound_init : Stmt := (clsB (topS 20)).getD 0 (.Pass ⟨0, 0, 0, 0⟩)
theorem scRound_init : FnScope ["self", "jars"] ["self", "jars"] (defScope sRound_init) := ⟨rfl, rfl, rfl, by decide +kernel, rfl, by decide +kernel, by decide +kernel⟩
abbrev sRow_init : Stmt := (clsB (topS 21)).getD 0 (.Pass ⟨0, 0, 0, 0⟩)
theorem scRow_init : FnScope ["self", "jars", "tray"] ["self", "jars", "tray"] (defScope sRow_init) := ⟨rfl, rfl, rfl, by decide +kernel, rfl, by decide +kernel, by decide +kernel⟩
abbrev sShape_jars : Stmt := (clsB (topS 19)).getD 1 (.Pass ⟨0, 0, 0, 0⟩)
theorem scShape_jars : FnScope ["self"] ["self"] (defScope sShape_jars) := ⟨rfl, rfl, rfl, by decide +kernel, rfl, by decide +kernel, by decide +kernel⟩
abbrev sRound_eq : Stmt := (clsB (topS 20)).getD 4 (.Pass ⟨0, 0, 0, 0⟩)
theorem scRound_eq : FnScope ["self", "other"] ["self", "other"] (defScope sRound_eq) := ⟨rfl, rfl, rfl, by decide +kernel, rfl, by decide +kernel, by decide +kernel⟩
abbrev sRow_tray : Stmt := (clsB (topS 21)).getD 1 (.Pass ⟨0, 0, 0, 0⟩)
theorem scRow_tray : FnScope ["self"] ["self"] (defScope sRow_tray) := ⟨rfl, rfl, rfl, by decide +kernel, rfl, by decide +kernel, by decide +kernel⟩
abbrev sRow_eq : Stmt := (clsB (topS 21)).getD 4 (.Pass ⟨0, 0, 0, 0⟩)
theorem scRow_eq : FnScope ["self", "other"] ["self", "other"] (defScope sRow_eq) := ⟨rfl, rfl, rfl, by decide +kernel, rfl, by decide +kernel, by decide +kernel⟩
abbrev s_law_alike : Stmt := topS 34
theorem sc_law_alike : FnScope ["_law_one", "_law_other", "_law_due", "_law_told"] ["_law_one", "_law_other", "_law_due"] (defScope s_law_alike) := ⟨rfl, rfl, rfl, by decide +kernel, rfl, by decide +kernel, by decide +kernel⟩
abbrev sRound_repr : Stmt := (clsB (topS 20)).getD 5 (.Pass ⟨0, 0, 0, 0⟩)
theorem scRound_repr : FnScope ["self"] ["self"] (defScope sRound_repr) := ⟨rfl, rfl, rfl, by decide +kernel, rfl, by decide +kernel, by decide +kernel⟩
abbrev sjar_text : Stmt := topS 18
theorem scjar_text : FnScope ["jar", "part"] ["jar"] (defScope sjar_text) := ⟨rfl, rfl, rfl, by decide +kernel, rfl, by decide +kernel, by decide +kernel⟩
abbrev sShape_jars_text : Stmt := (clsB (topS 19)).getD 6 (.Pass ⟨0, 0, 0, 0⟩)
theorem scShape_jars_text : FnScope ["self", "jar"] ["self"] (defScope sShape_jars_text) := ⟨rfl, rfl, rfl, by decide +kernel, rfl, by decide +kernel, by decide +kernel⟩
abbrev sRound_str : Stmt := (clsB (topS 20)).getD 6 (.Pass ⟨0, 0, 0, 0⟩)
theorem scRound_str : FnScope ["self"] ["self"] (defScope sRound_str) := ⟨rfl, rfl, rfl, by decide +kernel, rfl, by decide +kernel, by decide +kernel⟩
abbrev sRow_repr : Stmt := (clsB (topS 21)).getD 5 (.Pass ⟨0, 0, 0, 0⟩)
theorem scRow_repr : FnScope ["self"] ["self"] (defScope sRow_repr) := ⟨rfl, rfl, rfl, by decide +kernel, rfl, by decide +kernel, by decide +kernel⟩
abbrev sRow_str : Stmt := (clsB (topS 21)).getD 6 (.Pass ⟨0, 0, 0, 0⟩)
theorem scRow_str : FnScope ["self"] ["self"] (defScope sRow_str) := ⟨rfl, rfl, rfl, by decide +kernel, rfl, by decide +kernel, by decide +kernel⟩
abbrev s_law_turned : Stmt := topS 30
theorem sc_law_turned : FnScope ["_law_row_here", "_law_labels", "_law_at", "_law_label_here", "_law_size_here", "_law_heap_here"] ["_law_row_here"] (defScope s_law_turned) := ⟨rfl, rfl, rfl, by decide +kernel, rfl, by decide +kernel, by decide +kernel⟩
abbrev s_law_are_alike : Stmt := topS 36
theorem sc_law_are_alike : FnScope ["_law_some", "_law_others", "_law_row_here", "_law_heap_here", "_law_other", "_law_beside", "_law_thing"] ["_law_some", "_law_others", "_law_row_here", "_law_heap_here"] (defScope s_law_are_alike) := ⟨rfl, rfl, rfl, by decide +kernel, rfl, by decide +kernel, by decide +kernel⟩
abbrev s_law_figures : Stmt := topS 32
theorem sc_law_figures : FnScope ["_law_number", "_law_found", "_law_rest", "_law_digit"] ["_law_number"] (defScope s_law_figures) := ⟨rfl, rfl, rfl, by decide +kernel, rfl, by decide +kernel, by decide +kernel⟩
abbrev s_law_words : Stmt := topS 33
theorem sc_law_words : FnScope ["_law_row_here", "_law_label_here", "_law_size_here", "_law_heap_here"] ["_law_row_here"] (defScope s_law_words) := ⟨rfl, rfl, rfl, by decide +kernel, rfl, by decide +kernel, by decide +kernel⟩
abbrev s_law_are_shown : Stmt := topS 35
theorem sc_law_are_shown : FnScope ["_law_some", "_law_row_here", "_law_heap_here", "_law_due", "_law_words_here", "_law_shown", "_law_told"] ["_law_some", "_law_row_here", "_law_heap_here"] (defScope s_law_are_shown) := ⟨rfl, rfl, rfl, by decide +kernel, rfl, by decide +kernel, by decide +kernel⟩
abbrev s_law_take : Stmt := topS 24
theorem sc_law_take : FnScope ["_law_pot_here", "_law_upto", "_law_digit"] ["_law_pot_here", "_law_upto"] (defScope s_law_take) := ⟨rfl, rfl, rfl, by decide +kernel, rfl, by decide +kernel, by decide +kernel⟩
abbrev s_law_among : Stmt := topS 25
theorem sc_law_among : FnScope ["_law_pot_here", "_law_some"] ["_law_pot_here", "_law_some"] (defScope s_law_among) := ⟨rfl, rfl, rfl, by decide +kernel, rfl, by decide +kernel, by decide +kernel⟩
abbrev s_law_heap : Stmt := topS 28
theorem sc_law_heap : FnScope ["_law_pot_here", "_law_size_here", "_law_about", "_law_far"] ["_law_pot_here", "_law_size_here"] (defScope s_law_heap) := ⟨rfl, rfl, rfl, by decide +kernel, rfl, by decide +kernel, by decide +kernel⟩
abbrev s_law_label : Stmt := topS 26
theorem sc_law_label : FnScope ["_law_pot_here", "_law_used", "_law_letters", "_law_length", "_law_label_here", "_law_some", "_law_k", "_law_letter", "_law_one"] ["_law_pot_here", "_law_used"] (defScope s_law_label) := ⟨rfl, rfl, rfl, by decide +kernel, rfl, by decide +kernel, by decide +kernel⟩
abbrev s_law_otherwise : Stmt := topS 31
theorem sc_law_otherwise : FnScope ["_law_pot_here", "_law_row_here", "_law_way", "_law_at", "_law_label_here", "_law_size_here", "_law_heap_here", "_law_one", "_law_jar"] ["_law_pot_here", "_law_row_here"] (defScope s_law_otherwise) := ⟨rfl, rfl, rfl, by decide +kernel, rfl, by decide +kernel, by decide +kernel⟩
abbrev s_law_pot_C : Stmt := topS 23
theorem sc_law_pot_C : FnScope ["_law_script", "_law_k", "_law_cell"] ["_law_script", "_law_k"] (defScope s_law_pot_C) := ⟨rfl, rfl, rfl, by decide +kernel, rfl, by decide +kernel, by decide +kernel⟩
abbrev s_law_size : Stmt := topS 27
theorem sc_law_size : FnScope ["_law_pot_here", "_law_both"] ["_law_pot_here"] (defScope s_law_size) := ⟨rfl, rfl, rfl, by decide +kernel, rfl, by decide +kernel, by decide +kernel⟩
abbrev s_law_row : Stmt := topS 29
theorem sc_law_row : FnScope ["_law_pot_here", "_law_upto", "_law_labels", "_law_found", "_law_k", "_law_size_here"] ["_law_pot_here", "_law_upto"] (defScope s_law_row) := ⟨rfl, rfl, rfl, by decide +kernel, rfl, by decide +kernel, by decide +kernel⟩
abbrev slaw : Stmt := topS 37
theorem sclaw : FnScope ["_law_script", "_law_k", "_law_pot_here", "_law_row_here", "_law_at", "_law_heap_here", "_law_some", "_law_turn", "_law_beside", "_law_twins", "_law_shape", "_law_twin"] ["_law_script"] (defScope slaw) := ⟨rfl, rfl, rfl, by decide +kernel, rfl, by decide +kernel, by decide +kernel⟩
set_option genInjectivity false
set_option genSizeOfSpec false
structure Top (K : PySem.W.Frag) (mg : Str → Option Value) (G : Nat → Addr) where
  aShape_names : Addr
  dShape_names : FuncData
  FShape_names : Fun K "names" "Shape.names" sShape_names aShape_names dShape_names
  aShape_has : Addr
  dShape_has : FuncData
  FShape_has : Fun K "has" "Shape.has" sShape_has aShape_has dShape_has
  aShape_place : Addr
  dShape_place : FuncData
  FShape_place : Fun K "place" "Shape.place" sShape_place aShape_place dShape_place
  aRound_jars : Addr
  dRound_jars : FuncData
  FRound_jars : Fun K "jars" "Round.jars" sRound_jars aRound_jars dRound_jars
  DRound_jars : FunD K "jars" "Round.jars" (defArgs sRound_jars) (defBody sRound_jars) (defScope sRound_jars) [] [("start", .non)] aRound_jars dRound_jars
  ais_whole : Addr
  dis_whole : FuncData
  Fis_whole : Fun K "is_whole" "is_whole" sis_whole ais_whole dis_whole
  gis_whole : mg "is_whole" = some (.ref ais_whole)
  ais_base : Addr
  dis_base : FuncData
  Fis_base : Fun K "is_base" "is_base" sis_base ais_base dis_base
  gis_base : mg "is_base" = some (.ref ais_base)
  ais_grains : Addr
  dis_grains : FuncData
  Fis_grains : Fun K "is_grains" "is_grains" sis_grains ais_grains dis_grains
  gis_grains : mg "is_grains" = some (.ref ais_grains)
  ais_name : Addr
  dis_name : FuncData
  Fis_name : Fun K "is_name" "is_name" sis_name ais_name dis_name
  gis_name : mg "is_name" = some (.ref ais_name)
  ais_jar : Addr
  dis_jar : FuncData
  Fis_jar : Fun K "is_jar" "is_jar" sis_jar ais_jar dis_jar
  gis_jar : mg "is_jar" = some (.ref ais_jar)
  awant_jars : Addr
  dwant_jars : FuncData
  Fwant_jars : Fun K "want_jars" "want_jars" swant_jars awant_jars dwant_jars
  gwant_jars : mg "want_jars" = some (.ref awant_jars)
  aShape_init : Addr
  dShape_init : FuncData
  FShape_init : Fun K "__init__" "Shape.__init__" sShape_init aShape_init dShape_init
  aRound_init : Addr
  dRound_init : FuncData
  FRound_init : Fun K "__init__" "Round.__init__" sRound_init aRound_init dRound_init
  aRow_init : Addr
  dRow_init : FuncData
  FRow_init : Fun K "__init__" "Row.__init__" sRow_init aRow_init dRow_init
  DRow_init : FunD K "__init__" "Row.__init__" (defArgs sRow_init) (defBody sRow_init) (defScope sRow_init) [] [("tray", .int 0)] aRow_init dRow_init
  aShape_jars : Addr
  dShape_jars : FuncData
  FShape_jars : Fun K "jars" "Shape.jars" sShape_jars aShape_jars dShape_jars
  aRound_eq : Addr
  dRound_eq : FuncData
  FRound_eq : Fun K "__eq__" "Round.__eq__" sRound_eq aRound_eq dRound_eq
  aRow_tray : Addr
  dRow_tray : FuncData
  FRow_tray : Fun K "tray" "Row.tray" sRow_tray aRow_tray dRow_tray
  aRow_eq : Addr
  dRow_eq : FuncData
  FRow_eq : Fun K "__eq__" "Row.__eq__" sRow_eq aRow_eq dRow_eq
  a_law_alike : Addr
  d_law_alike : FuncData
  F_law_alike : Fun K "_law_alike" "_law_alike" s_law_alike a_law_alike d_law_alike
  g_law_alike : mg "_law_alike" = some (.ref a_law_alike)
  aRound_repr : Addr
  dRound_repr : FuncData
  FRound_repr : Fun K "__repr__" "Round.__repr__" sRound_repr aRound_repr dRound_repr
  ajar_text : Addr
  djar_text : FuncData
  Fjar_text : Fun K "jar_text" "jar_text" sjar_text ajar_text djar_text
  gjar_text : mg "jar_text" = some (.ref ajar_text)
  aShape_jars_text : Addr
  dShape_jars_text : FuncData
  FShape_jars_text : Fun K "jars_text" "Shape.jars_text" sShape_jars_text aShape_jars_text dShape_jars_text
  aRound_str : Addr
  dRound_str : FuncData
  FRound_str : Fun K "__str__" "Round.__str__" sRound_str aRound_str dRound_str
  aRow_repr : Addr
  dRow_repr : FuncData
  FRow_repr : Fun K "__repr__" "Row.__repr__" sRow_repr aRow_repr dRow_repr
  aRow_str : Addr
  dRow_str : FuncData
  FRow_str : Fun K "__str__" "Row.__str__" sRow_str aRow_str dRow_str
  a_law_turned : Addr
  d_law_turned : FuncData
  F_law_turned : Fun K "_law_turned" "_law_turned" s_law_turned a_law_turned d_law_turned
  g_law_turned : mg "_law_turned" = some (.ref a_law_turned)
  a_law_are_alike : Addr
  d_law_are_alike : FuncData
  F_law_are_alike : Fun K "_law_are_alike" "_law_are_alike" s_law_are_alike a_law_are_alike d_law_are_alike
  g_law_are_alike : mg "_law_are_alike" = some (.ref a_law_are_alike)
  a_law_figures : Addr
  d_law_figures : FuncData
  F_law_figures : Fun K "_law_figures" "_law_figures" s_law_figures a_law_figures d_law_figures
  g_law_figures : mg "_law_figures" = some (.ref a_law_figures)
  a_law_words : Addr
  d_law_words : FuncData
  F_law_words : Fun K "_law_words" "_law_words" s_law_words a_law_words d_law_words
  g_law_words : mg "_law_words" = some (.ref a_law_words)
  a_law_are_shown : Addr
  d_law_are_shown : FuncData
  F_law_are_shown : Fun K "_law_are_shown" "_law_are_shown" s_law_are_shown a_law_are_shown d_law_are_shown
  g_law_are_shown : mg "_law_are_shown" = some (.ref a_law_are_shown)
  a_law_take : Addr
  d_law_take : FuncData
  F_law_take : Fun K "_law_take" "_law_take" s_law_take a_law_take d_law_take
  g_law_take : mg "_law_take" = some (.ref a_law_take)
  a_law_among : Addr
  d_law_among : FuncData
  F_law_among : Fun K "_law_among" "_law_among" s_law_among a_law_among d_law_among
  g_law_among : mg "_law_among" = some (.ref a_law_among)
  a_law_heap : Addr
  d_law_heap : FuncData
  F_law_heap : Fun K "_law_heap" "_law_heap" s_law_heap a_law_heap d_law_heap
  g_law_heap : mg "_law_heap" = some (.ref a_law_heap)
  a_law_label : Addr
  d_law_label : FuncData
  F_law_label : Fun K "_law_label" "_law_label" s_law_label a_law_label d_law_label
  g_law_label : mg "_law_label" = some (.ref a_law_label)
  a_law_otherwise : Addr
  d_law_otherwise : FuncData
  F_law_otherwise : Fun K "_law_otherwise" "_law_otherwise" s_law_otherwise a_law_otherwise d_law_otherwise
  g_law_otherwise : mg "_law_otherwise" = some (.ref a_law_otherwise)
  a_law_pot_C : Addr
  d_law_pot_C : FuncData
  F_law_pot_C : Fun K "_law_pot" "_law_pot" s_law_pot_C a_law_pot_C d_law_pot_C
  g_law_pot_C : mg "_law_pot" = some (.ref a_law_pot_C)
  a_law_size : Addr
  d_law_size : FuncData
  F_law_size : Fun K "_law_size" "_law_size" s_law_size a_law_size d_law_size
  g_law_size : mg "_law_size" = some (.ref a_law_size)
  a_law_row : Addr
  d_law_row : FuncData
  F_law_row : Fun K "_law_row" "_law_row" s_law_row a_law_row d_law_row
  g_law_row : mg "_law_row" = some (.ref a_law_row)
  alaw : Addr
  dlaw : FuncData
  Flaw : Fun K "law" "law" slaw alaw dlaw
  glaw : mg "law" = some (.ref alaw)
  cl_Round : Cls K (G 22)
  cl_Row : Cls K (G 23)
  na_Round_own_jars : NoAttr K (G 22) "own_jars"
  na_Row_own_jars : NoAttr K (G 23) "own_jars"
  na_Row_own_tray : NoAttr K (G 23) "own_tray"
  me_Round_eq : Meth K (G 22) "__eq__" aRound_eq
  me_Round_init : Meth K (G 22) "__init__" aRound_init
  me_Round_repr : Meth K (G 22) "__repr__" aRound_repr
  me_Round_str : Meth K (G 22) "__str__" aRound_str
  me_Round_has : Meth K (G 22) "has" aShape_has
  me_Round_jars : Meth K (G 22) "jars" aRound_jars
  me_Round_jars_text : Meth K (G 22) "jars_text" aShape_jars_text
  me_Round_names : Meth K (G 22) "names" aShape_names
  me_Round_place : Meth K (G 22) "place" aShape_place
  me_Row_eq : Meth K (G 23) "__eq__" aRow_eq
  me_Row_init : Meth K (G 23) "__init__" aRow_init
  me_Row_repr : Meth K (G 23) "__repr__" aRow_repr
  me_Row_str : Meth K (G 23) "__str__" aRow_str
  me_Row_has : Meth K (G 23) "has" aShape_has
  me_Row_jars : Meth K (G 23) "jars" aShape_jars
  me_Row_jars_text : Meth K (G 23) "jars_text" aShape_jars_text
  me_Row_names : Meth K (G 23) "names" aShape_names
  me_Row_tray : Meth K (G 23) "tray" aRow_tray
  gc_Round : mg "Round" = some (.ref (G 22))
  mk_Round : Mk K (G 22) aRound_init
  gc_Row : mg "Row" = some (.ref (G 23))
  mk_Row : Mk K (G 23) aRow_init
  gc_Shape : mg "Shape" = some (.ref (G 21))
  rd_Shape : ClX.CRead K (G 21) (.type "type")
  fc_Shape_init : PySem.W.findCls K (.ref (G 21)) (.type "type") "__init__" = some (.val (.ref aShape_init))
  ne_Round : PySem.W.findIn K (.ref (G 22)) "__ne__" = some (some (.builtin "object.__ne__")) ∧ PySem.W.subIn K (.ref (G 22)) (.type "object") = some true
  ne_Row : PySem.W.findIn K (.ref (G 23)) "__ne__" = some (some (.builtin "object.__ne__")) ∧ PySem.W.subIn K (.ref (G 23)) (.type "object") = some true
  isa_Round : IsaC K G 22 [(22, true), (23, false)]
  isa_Row : IsaC K G 23 [(22, false), (23, true)]
  mx_Round : MixAt K (G 22)
  mx_Row : MixAt K (G 23)
  mx2 : PySem.W.subIn K (.ref (G 23)) (.ref (G 22)) = some false ∧ PySem.W.subIn K (.ref (G 22)) (.ref (G 23)) = some false
  z_abs : mg "abs" = none
  z_all : mg "all" = none
  z_bool : mg "bool" = none
  z_divmod : mg "divmod" = none
  z_enumerate : mg "enumerate" = none
  z_int : mg "int" = none
  z_isinstance : mg "isinstance" = none
  z_len : mg "len" = none
  z_list : mg "list" = none
  z_max : mg "max" = none
  z_min : mg "min" = none
  z_range : mg "range" = none
  z_repr : mg "repr" = none
  z_str : mg "str" = none
  z_tuple : mg "tuple" = none
  z_zip : mg "zip" = none
  c_LEAST_BASE : ∃ u, mg "LEAST_BASE" = some u ∧ RelV (.int 2) u
  c_LETTERS : ∃ u, mg "LETTERS" = some u ∧ RelV (.str "abcdefghijklmnopqrstuvwxyz") u
  c_MOST_BASE : ∃ u, mg "MOST_BASE" = some u ∧ RelV (.int 1000000) u
  c_MOST_JARS : ∃ u, mg "MOST_JARS" = some u ∧ RelV (.int 12) u
  c_MOST_LETTERS : ∃ u, mg "MOST_LETTERS" = some u ∧ RelV (.int 8) u
section
variable {P : Program} {w : World} {K : PySem.W.Frag} {mg : Str → Option Value} {base : Heap} {G : Nat → Addr}
theorem biShape_names (T : Top K mg G) : Binds K T.dShape_names ["self"] [] := T.FShape_names.binds fun _ _ _ _ _ _ us hl => by obtain ⟨u1, rfl⟩ := len1 hl; rfl
theorem bdShape_names_1 (T : Top K mg G) : Bd K G T.dShape_names ["self"] 1 [] (fun ds es => ds) := bd_all (biShape_names T) rfl
theorem okShape_names (T : Top K mg G) : FnG P w K mg base G 1 T.aShape_names T.dShape_names ["self"] Q.denShape_names := Fng T.FShape_names scShape_names fun cdv _ A outer s H E cg => dss_one (ds_ret (de_lc mkaL [("name", 1), ("base", 2), ("grains", 3)] rfl scShape_names.nd (di_tup (de_fld (fldT2 ⟨T.cl_Round, T.na_Round_own_jars⟩ ⟨T.cl_Row, T.na_Row_own_jars⟩) (de_var 0))) (blkOk_by (own := [("name", 1), ("base", 2), ("grains", 3)]) (N := ["self", "name", "base", "grains"]) (sc := defScope sShape_names) (by decide +kernel)) (fun _ _ _ _ _ => dg_tup rfl (dgs_cons (dg_name (ws := [1, 2, 3]) 1 scShape_names.nd) (dgs_cons (dg_name (ws := [1, 2, 3]) 2 scShape_names.nd) (dgs_cons (dg_name (ws := [1, 2, 3]) 3 scShape_names.nd) dgs_nil)))) (fun _ _ _ _ _ => dts_nil) (fun _ _ _ _ _ => de_var 1)))
theorem biShape_has (T : Top K mg G) : Binds K T.dShape_has ["self", "name"] [] := T.FShape_has.binds fun _ _ _ _ _ _ us hl => by obtain ⟨u1, u2, rfl⟩ := len2 hl; rfl
theorem bdShape_has_2 (T : Top K mg G) : Bd K G T.dShape_has ["self", "name"] 2 [] (fun ds es => ds) := bd_all (biShape_has T) rfl
theorem okShape_has (T : Top K mg G) : FnG P w K mg base G 2 T.aShape_has T.dShape_has ["self", "name"] Q.denShape_has := Fng T.FShape_has scShape_has fun cdv _ A outer s H E cg => dss_one (ds_ret (de_and (de_callB cd_isiTy T.z_isinstance bf_isinstance (da_cons (de_var 1) (da_cons (de_bty T.z_str bt_str) da_nil))) (de_one (de_cmp (od_in cg.units65) (de_var 1) (de_meth (pl := _) (de_var 0) (met2 ⟨_, T.cl_Round, T.me_Round_names, (cg_fn (okShape_names T) cg.gd (cg.room.mono (by decide)) (takes_of rfl rfl rfl rfl) (bdShape_names_1 T))⟩ ⟨_, T.cl_Row, T.me_Row_names, (cg_fn (okShape_names T) cg.gd (cg.room.mono (by decide)) (takes_of rfl rfl rfl rfl) (bdShape_names_1 T))⟩) cw_0)))))
theorem biShape_place (T : Top K mg G) : Binds K T.dShape_place ["self", "name"] [] := T.FShape_place.binds fun _ _ _ _ _ _ us hl => by obtain ⟨u1, u2, rfl⟩ := len2 hl; rfl
theorem bdShape_place_2 (T : Top K mg G) : Bd K G T.dShape_place ["self", "name"] 2 [] (fun ds es => ds) := bd_all (biShape_place T) rfl
theorem okShape_place (T : Top K mg G) : FnG P w K mg base G 3 T.aShape_place T.dShape_place ["self", "name"] Q.denShape_place := Fng T.FShape_place scShape_place fun cdv _ A outer s H E cg => dss_cons (ds_if (dt_not (dt_val (de_meth (pl := _) (de_var 0) (met2 ⟨_, T.cl_Round, T.me_Round_has, (cg_fn (okShape_has T) cg.gd (cg.room.mono (by decide)) (takes_of rfl rfl rfl rfl) (bdShape_has_2 T))⟩ ⟨_, T.cl_Row, T.me_Row_has, (cg_fn (okShape_has T) cg.gd (cg.room.mono (by decide)) (takes_of rfl rfl rfl rfl) (bdShape_has_2 T))⟩) (cw_n (da_cons (de_var 1) da_nil) (alen_cons (fun _ _ _ _ => alen_nil)))))) (dss_one ds_never) dss_nil)
    (dss_one (ds_ret (de_bm md_index (de_meth (pl := _) (de_var 0) (met2 ⟨_, T.cl_Round, T.me_Round_names, (cg_fn (okShape_names T) cg.gd (cg.room.mono (by decide)) (takes_of rfl rfl rfl rfl) (bdShape_names_1 T))⟩ ⟨_, T.cl_Row, T.me_Row_names, (cg_fn (okShape_names T) cg.gd (cg.room.mono (by decide)) (takes_of rfl rfl rfl rfl) (bdShape_names_1 T))⟩) cw_0) (da_cons (de_var 1) da_nil) PySem.F.plainAttrs_list PySem.F.slot_list_index PySem.F.type_list_index)))
theorem bdRound_jars_1 (T : Top K mg G) : Bd K G T.dRound_jars ["self", "start"] 1 [] (fun ds es => ds ++ (es ++ [.non])) := bd_kw T.DRound_jars 1 [] [("start", .non)] [.non] (by simp) (by simp) (fun F ph => by simp only [List.map_cons, List.map_nil, Rs, R]; exact ⟨_, _, rfl, rfl, rfl⟩) rfl fun D _ _ _ _ _ us mv ws h1 h2 h3 => by obtain ⟨u1, rfl⟩ := len1 h1; obtain ⟨m1, rfl⟩ := len1 h2; obtain rfl := len0 h3; exact ⟨_, _, _, _, _, _, rfl, rfl, rfl⟩
theorem bdRound_jars_1_start (T : Top K mg G) : Bd K G T.dRound_jars ["self", "start"] 1 ["start"] (fun ds es => ds ++ (es ++ [])) := bd_kw T.DRound_jars 1 ["start"] [] [] (by simp) (by simp) (fun F ph => by simp only [List.map_cons, List.map_nil, Rs, R]) rfl fun D _ _ _ _ _ us mv ws h1 h2 h3 => by obtain ⟨u1, rfl⟩ := len1 h1; obtain rfl := len0 h2; obtain ⟨w1, rfl⟩ := len1 h3; exact rfl
theorem okRound_jars (T : Top K mg G) : FnG P w K mg base G 4 T.aRound_jars T.dRound_jars ["self", "start"] Q.denRound_jars := Fng T.FRound_jars scRound_jars fun cdv _ A outer s H E cg => dss_cons (ds_asg (de_if (dt_cmp od_isN (de_var 1) de_non) de_int (de_meth (pl := _) (de_var 0) (met1 ⟨_, T.cl_Round, T.me_Round_place, (cg_fn (okShape_place T) cg.gd (cg.room.mono (by decide)) (takes_of rfl rfl rfl rfl) (bdShape_place_2 T))⟩) (cw_n (da_cons (de_var 1) da_nil) (alen_cons (fun _ _ _ _ => alen_nil))))) (dg_name (ws := [2]) 2 scRound_jars.nd))
    (dss_one (ds_ret (de_callT (cd_list mk1L) T.z_list bt_list (da_cons (de_bin od_add (de_slice mk1L (de_fld (fldT1 ⟨T.cl_Round, T.na_Round_own_jars⟩) (de_var 0)) (do_some (de_var 2)) do_none) (de_slice mk1L (de_fld (fldT1 ⟨T.cl_Round, T.na_Round_own_jars⟩) (de_var 0)) do_none (do_some (de_var 2)))) da_nil))))
theorem biis_whole (T : Top K mg G) : Binds K T.dis_whole ["thing"] [] := T.Fis_whole.binds fun _ _ _ _ _ _ us hl => by obtain ⟨u1, rfl⟩ := len1 hl; rfl
theorem okis_whole (T : Top K mg G) : FnG P w K mg base G 1 T.ais_whole T.dis_whole ["thing"] Q.denis_whole := Fng T.Fis_whole scis_whole fun cdv _ A outer s H E cg => dss_one (ds_ret (de_and (de_callB cd_isiTy T.z_isinstance bf_isinstance (da_cons (de_var 0) (da_cons (de_bty T.z_int bt_int) da_nil))) (de_one (de_not (de_callB cd_isiTy T.z_isinstance bf_isinstance (da_cons (de_var 0) (da_cons (de_bty T.z_bool bt_bool) da_nil)))))))
theorem biis_base (T : Top K mg G) : Binds K T.dis_base ["thing"] [] := T.Fis_base.binds fun _ _ _ _ _ _ us hl => by obtain ⟨u1, rfl⟩ := len1 hl; rfl
theorem okis_base (T : Top K mg G) : FnG P w K mg base G 2 T.ais_base T.dis_base ["thing"] Q.denis_base := Fng T.Fis_base scis_base fun cdv _ A outer s H E cg => dss_one (ds_ret (de_and (de_call (okis_whole T) cg.gd (cg.room.mono (by decide)) (takes_of rfl rfl rfl rfl) T.gis_whole T.Fis_whole.kp (biis_whole T) (da_cons (de_var 0) da_nil) (hlen := (alen_cons (fun _ _ _ _ => alen_nil)))) (de_one (de_chain od_le od_le (de_glob T.c_LEAST_BASE.choose_spec.1 T.c_LEAST_BASE.choose_spec.2 rfl) (de_var 0) (de_glob T.c_MOST_BASE.choose_spec.1 T.c_MOST_BASE.choose_spec.2 rfl)))))
theorem biis_grains (T : Top K mg G) : Binds K T.dis_grains ["thing"] [] := T.Fis_grains.binds fun _ _ _ _ _ _ us hl => by obtain ⟨u1, rfl⟩ := len1 hl; rfl
theorem okis_grains (T : Top K mg G) : FnG P w K mg base G 2 T.ais_grains T.dis_grains ["thing"] Q.denis_grains := Fng T.Fis_grains scis_grains fun cdv _ A outer s H E cg => dss_one (ds_ret (de_and (de_call (okis_whole T) cg.gd (cg.room.mono (by decide)) (takes_of rfl rfl rfl rfl) T.gis_whole T.Fis_whole.kp (biis_whole T) (da_cons (de_var 0) da_nil) (hlen := (alen_cons (fun _ _ _ _ => alen_nil)))) (de_one (de_cmp od_ge (de_var 0) de_int))))
theorem biis_name (T : Top K mg G) : Binds K T.dis_name ["thing"] [] := T.Fis_name.binds fun _ _ _ _ _ _ us hl => by obtain ⟨u1, rfl⟩ := len1 hl; rfl
theorem okis_name (T : Top K mg G) : FnG P w K mg base G 1 T.ais_name T.dis_name ["thing"] Q.denis_name := Fng T.Fis_name scis_name fun cdv _ A outer s H E cg => dss_cons (ds_if (dt_w (dw_or (dt_not (dt_val (de_callB cd_isiTy T.z_isinstance bf_isinstance (da_cons (de_var 0) (da_cons (de_bty T.z_str bt_str) da_nil))))) (dw_or1 (dt_not (dt_chain od_le od_le de_int (de_callB cd_len T.z_len bf_len (da_cons (de_var 0) da_nil)) (de_glob T.c_MOST_LETTERS.choose_spec.1 T.c_MOST_LETTERS.choose_spec.2 rfl)))))) (dss_one (ds_ret de_bl)) dss_nil)
    (dss_one (ds_ret (de_callB (cd_all rfl) T.z_all bf_all (da_cons (de_lc mkaL [("sign", 1)] rfl scis_name.nd (di_str (de_var 0)) (blkOk_by (own := [("sign", 1)]) (N := ["thing", "sign"]) (sc := defScope sis_name) (by decide +kernel)) (fun _ _ _ _ _ => dg_name (ws := [1]) 1 scis_name.nd) (fun _ _ _ _ _ => dts_nil) (fun _ _ _ _ _ => de_cmp (od_in cg.units65) (de_var 1) (de_glob T.c_LETTERS.choose_spec.1 T.c_LETTERS.choose_spec.2 rfl))) da_nil))))
theorem biis_jar (T : Top K mg G) : Binds K T.dis_jar ["thing"] [] := T.Fis_jar.binds fun _ _ _ _ _ _ us hl => by obtain ⟨u1, rfl⟩ := len1 hl; rfl
theorem okis_jar (T : Top K mg G) : FnG P w K mg base G 3 T.ais_jar T.dis_jar ["thing"] Q.denis_jar := Fng T.Fis_jar scis_jar fun cdv _ A outer s H E cg => dss_cons (ds_if (dt_w (dw_or (dt_not (dt_val (de_callB cd_isiTy T.z_isinstance bf_isinstance (da_cons (de_var 0) (da_cons (de_bty T.z_tuple bt_tuple) da_nil))))) (dw_or1 (dt_cmp (od_ne cg.units) (de_callB cd_len T.z_len bf_len (da_cons (de_var 0) da_nil)) de_int)))) (dss_one (ds_ret de_bl)) dss_nil)
    (dss_cons (ds_asg (de_var 0) (dg_tup rfl (dgs_cons (dg_name (ws := [1, 2, 3]) 1 scis_jar.nd) (dgs_cons (dg_name (ws := [1, 2, 3]) 2 scis_jar.nd) (dgs_cons (dg_name (ws := [1, 2, 3]) 3 scis_jar.nd) dgs_nil)))))
    (dss_one (ds_ret (de_and (de_call (okis_name T) cg.gd (cg.room.mono (by decide)) (takes_of rfl rfl rfl rfl) T.gis_name T.Fis_name.kp (biis_name T) (da_cons (de_var 1) da_nil) (hlen := (alen_cons (fun _ _ _ _ => alen_nil)))) (de_and (de_call (okis_base T) cg.gd (cg.room.mono (by decide)) (takes_of rfl rfl rfl rfl) T.gis_base T.Fis_base.kp (biis_base T) (da_cons (de_var 2) da_nil) (hlen := (alen_cons (fun _ _ _ _ => alen_nil)))) (de_one (de_call (okis_grains T) cg.gd (cg.room.mono (by decide)) (takes_of rfl rfl rfl rfl) T.gis_grains T.Fis_grains.kp (biis_grains T) (da_cons (de_var 3) da_nil) (hlen := (alen_cons (fun _ _ _ _ => alen_nil))))))))))
theorem biwant_jars (T : Top K mg G) : Binds K T.dwant_jars ["things"] [] := T.Fwant_jars.binds fun _ _ _ _ _ _ us hl => by obtain ⟨u1, rfl⟩ := len1 hl; rfl
theorem okwant_jars (T : Top K mg G) : FnG P w K mg base G 4 T.awant_jars T.dwant_jars ["things"] Q.denwant_jars := Fng T.Fwant_jars scwant_jars fun cdv _ A outer s H E cg => dss_cons (ds_if (dt_w (dw_or (dt_not (dt_val (de_callB cd_isi3 T.z_isinstance bf_isinstance (da_cons (de_var 0) (da_cons (de_tup (da_cons (de_bty T.z_list bt_list) (da_cons (de_bty T.z_tuple bt_tuple) da_nil))) da_nil))))) (dw_or1 (dt_not (dt_chain od_le od_le de_int (de_callB cd_len T.z_len bf_len (da_cons (de_var 0) da_nil)) (de_glob T.c_MOST_JARS.choose_spec.1 T.c_MOST_JARS.choose_spec.2 rfl)))))) (dss_one ds_never) dss_nil)
    (dss_cons (ds_asg (de_lstC da_nil) (dg_name (ws := [1]) 1 scwant_jars.nd))
    (dss_one (ds_for (passes_of rfl) rfl (di_enumA T.z_enumerate (da_cons (de_var 0) da_nil)) (dg_tup rfl (dgs_cons (dg_name (ws := [2, 3]) 2 scwant_jars.nd) (dgs_cons (dg_name (ws := [2, 3]) 3 scwant_jars.nd) dgs_nil))) (dss_cons (ds_if (dt_w (dw_or (dt_not (dt_val (de_call (okis_jar T) cg.gd (cg.room.mono (by decide)) (takes_of rfl rfl rfl rfl) T.gis_jar T.Fis_jar.kp (biis_jar T) (da_cons (de_var 3) da_nil) (hlen := (alen_cons (fun _ _ _ _ => alen_nil)))))) (dw_or1 (dt_cmp (od_in cg.units65) (de_ix (de_var 3) de_int) (de_var 1))))) (dss_one ds_never) dss_nil)
    (dss_one (ds_expr (de_bm md_append (de_var 1) (da_cons (de_ix (de_var 3) de_int) da_nil) PySem.F.plainAttrs_list PySem.F.slot_list_append PySem.F.type_list_append)))))))
theorem biShape_init (T : Top K mg G) : Binds K T.dShape_init ["self", "jars"] [] := T.FShape_init.binds fun _ _ _ _ _ _ us hl => by obtain ⟨u1, u2, rfl⟩ := len2 hl; rfl
theorem bdShape_init_2 (T : Top K mg G) : Bd K G T.dShape_init ["self", "jars"] 2 [] (fun ds es => ds) := bd_all (biShape_init T) rfl
theorem okShape_init (T : Top K mg G) : FnG P w K mg base G 5 T.aShape_init T.dShape_init ["self", "jars"] Q.denShape_init := Fng T.FShape_init scShape_init fun cdv _ A outer s H E cg => dss_cons (ds_expr (de_hide (de_call (okwant_jars T) cg.gd (cg.room.mono (by decide)) (takes_of rfl rfl rfl rfl) T.gwant_jars T.Fwant_jars.kp (biwant_jars T) (da_cons (de_var 1) da_nil) (hlen := (alen_cons (fun _ _ _ _ => alen_nil))))))
    (dss_one (ds_fld (fldT2 ⟨T.cl_Round, T.na_Round_own_jars⟩ ⟨T.cl_Row, T.na_Row_own_jars⟩) (de_var 0) (de_callT cd_tuple T.z_tuple bt_tuple (da_cons (de_var 1) da_nil))))
theorem biRound_init (T : Top K mg G) : Binds K T.dRound_init ["self", "jars"] [] := T.FRound_init.binds fun _ _ _ _ _ _ us hl => by obtain ⟨u1, u2, rfl⟩ := len2 hl; rfl
theorem bdRound_init_2 (T : Top K mg G) : Bd K G T.dRound_init ["self", "jars"] 2 [] (fun ds es => ds) := bd_all (biRound_init T) rfl
theorem okRound_init (T : Top K mg G) : FnG P w K mg base G 6 T.aRound_init T.dRound_init ["self", "jars"] Q.denRound_init := Fng T.FRound_init scRound_init fun cdv _ A outer s H E cg => dss_cons (ds_expr (de_cmeth (cg_fn (okShape_init T) cg.gd (cg.room.mono (by decide)) (takes_of rfl rfl rfl rfl) (bdShape_init_2 T)) (cw_n (da_cons (de_var 0) (da_cons (de_var 1) da_nil)) (alen_cons (alen_cons (fun _ _ _ _ => alen_nil)))) T.gc_Shape T.rd_Shape T.fc_Shape_init T.FShape_init.kp))
    (dss_one (ds_fld (fldT1 ⟨T.cl_Round, T.na_Round_own_jars⟩) (de_var 0) (de_callT cd_tuple T.z_tuple bt_tuple (da_cons (de_meth (pl := _) (de_var 0) (met1 ⟨_, T.cl_Round, T.me_Round_jars, (cg_fn (okRound_jars T) cg.gd (cg.room.mono (by decide)) (takes_of rfl rfl rfl rfl) (bdRound_jars_1_start T))⟩) (cw_k (dk_cons (de_callB (cd_minS rfl) T.z_min bf_min (da_cons (de_meth (pl := _) (de_var 0) (met1 ⟨_, T.cl_Round, T.me_Round_names, (cg_fn (okShape_names T) cg.gd (cg.room.mono (by decide)) (takes_of rfl rfl rfl rfl) (bdShape_names_1 T))⟩) cw_0) da_nil)) dk_nil) (alen_cons (fun _ _ _ _ => alen_nil)))) da_nil))))
theorem bdRow_init_2 (T : Top K mg G) : Bd K G T.dRow_init ["self", "jars", "tray"] 2 [] (fun ds es => ds ++ (es ++ [.int 0])) := bd_kw T.DRow_init 2 [] [("tray", .int 0)] [.int 0] (by simp) (by simp) (fun F ph => by simp only [List.map_cons, List.map_nil, Rs, R]; exact ⟨_, _, rfl, rfl, rfl⟩) rfl fun D _ _ _ _ _ us mv ws h1 h2 h3 => by obtain ⟨u1, u2, rfl⟩ := len2 h1; obtain ⟨m1, rfl⟩ := len1 h2; obtain rfl := len0 h3; exact ⟨_, _, _, _, _, _, rfl, rfl, rfl⟩
theorem bdRow_init_2_tray (T : Top K mg G) : Bd K G T.dRow_init ["self", "jars", "tray"] 2 ["tray"] (fun ds es => ds ++ (es ++ [])) := bd_kw T.DRow_init 2 ["tray"] [] [] (by simp) (by simp) (fun F ph => by simp only [List.map_cons, List.map_nil, Rs, R]) rfl fun D _ _ _ _ _ us mv ws h1 h2 h3 => by obtain ⟨u1, u2, rfl⟩ := len2 h1; obtain rfl := len0 h2; obtain ⟨w1, rfl⟩ := len1 h3; exact rfl
theorem okRow_init (T : Top K mg G) : FnG P w K mg base G 6 T.aRow_init T.dRow_init ["self", "jars", "tray"] Q.denRow_init := Fng T.FRow_init scRow_init fun cdv _ A outer s H E cg => dss_cons (ds_expr (de_cmeth (cg_fn (okShape_init T) cg.gd (cg.room.mono (by decide)) (takes_of rfl rfl rfl rfl) (bdShape_init_2 T)) (cw_n (da_cons (de_var 0) (da_cons (de_var 1) da_nil)) (alen_cons (alen_cons (fun _ _ _ _ => alen_nil)))) T.gc_Shape T.rd_Shape T.fc_Shape_init T.FShape_init.kp))
    (dss_cons (ds_if (dt_not (dt_val (de_call (okis_grains T) cg.gd (cg.room.mono (by decide)) (takes_of rfl rfl rfl rfl) T.gis_grains T.Fis_grains.kp (biis_grains T) (da_cons (de_var 2) da_nil) (hlen := (alen_cons (fun _ _ _ _ => alen_nil)))))) (dss_one ds_never) dss_nil)
    (dss_one (ds_fld (fldT1 ⟨T.cl_Row, T.na_Row_own_tray⟩) (de_var 0) (de_var 2))))
theorem biShape_jars (T : Top K mg G) : Binds K T.dShape_jars ["self"] [] := T.FShape_jars.binds fun _ _ _ _ _ _ us hl => by obtain ⟨u1, rfl⟩ := len1 hl; rfl
theorem bdShape_jars_1 (T : Top K mg G) : Bd K G T.dShape_jars ["self"] 1 [] (fun ds es => ds) := bd_all (biShape_jars T) rfl
theorem okShape_jars (T : Top K mg G) : FnG P w K mg base G 1 T.aShape_jars T.dShape_jars ["self"] Q.denShape_jars := Fng T.FShape_jars scShape_jars fun cdv _ A outer s H E cg => dss_one (ds_ret (de_callT (cd_list mk1L) T.z_list bt_list (da_cons (de_fld (fldT2 ⟨T.cl_Round, T.na_Round_own_jars⟩ ⟨T.cl_Row, T.na_Row_own_jars⟩) (de_var 0)) da_nil)))
theorem biRound_eq (T : Top K mg G) : Binds K T.dRound_eq ["self", "other"] [] := T.FRound_eq.binds fun _ _ _ _ _ _ us hl => by obtain ⟨u1, u2, rfl⟩ := len2 hl; rfl
theorem okRound_eq (T : Top K mg G) : FnG P w K mg base G 5 T.aRound_eq T.dRound_eq ["self", "other"] Q.denRound_eq := Fng T.FRound_eq scRound_eq fun cdv _ A outer s H E cg => dss_one (ds_ret (de_and (de_callB (cd_isiCl T.isa_Round) T.z_isinstance bf_isinstance (da_cons (de_var 1) (da_cons (de_gcls T.gc_Round) da_nil))) (de_one (de_cmp (od_eq cg.units) (de_meth (pl := _) (de_var 0) (met1 ⟨_, T.cl_Round, T.me_Round_jars, (cg_fn (okRound_jars T) cg.gd (cg.room.mono (by decide)) (takes_of rfl rfl rfl rfl) (bdRound_jars_1 T))⟩) cw_0) (de_meth (pl := _) (de_var 1) (met2 ⟨_, T.cl_Round, T.me_Round_jars, (cg_fn (okRound_jars T) cg.gd (cg.room.mono (by decide)) (takes_of rfl rfl rfl rfl) (bdRound_jars_1 T))⟩ ⟨_, T.cl_Row, T.me_Row_jars, (cg_fn (okShape_jars T) cg.gd (cg.room.mono (by decide)) (takes_of rfl rfl rfl rfl) (bdShape_jars_1 T))⟩) cw_0)))))
theorem biRow_tray (T : Top K mg G) : Binds K T.dRow_tray ["self"] [] := T.FRow_tray.binds fun _ _ _ _ _ _ us hl => by obtain ⟨u1, rfl⟩ := len1 hl; rfl
theorem bdRow_tray_1 (T : Top K mg G) : Bd K G T.dRow_tray ["self"] 1 [] (fun ds es => ds) := bd_all (biRow_tray T) rfl
theorem okRow_tray (T : Top K mg G) : FnG P w K mg base G 1 T.aRow_tray T.dRow_tray ["self"] Q.denRow_tray := Fng T.FRow_tray scRow_tray fun cdv _ A outer s H E cg => dss_one (ds_ret (de_fld (fldT1 ⟨T.cl_Row, T.na_Row_own_tray⟩) (de_var 0)))
theorem biRow_eq (T : Top K mg G) : Binds K T.dRow_eq ["self", "other"] [] := T.FRow_eq.binds fun _ _ _ _ _ _ us hl => by obtain ⟨u1, u2, rfl⟩ := len2 hl; rfl
theorem okRow_eq (T : Top K mg G) : FnG P w K mg base G 5 T.aRow_eq T.dRow_eq ["self", "other"] Q.denRow_eq := Fng T.FRow_eq scRow_eq fun cdv _ A outer s H E cg => dss_one (ds_ret (de_and (de_callB (cd_isiCl T.isa_Row) T.z_isinstance bf_isinstance (da_cons (de_var 1) (da_cons (de_gcls T.gc_Row) da_nil))) (de_one (de_cmp (od_eq cg.units) (de_tup (da_cons (de_meth (pl := _) (de_var 0) (met1 ⟨_, T.cl_Row, T.me_Row_jars, (cg_fn (okShape_jars T) cg.gd (cg.room.mono (by decide)) (takes_of rfl rfl rfl rfl) (bdShape_jars_1 T))⟩) cw_0) (da_cons (de_meth (pl := _) (de_var 0) (met1 ⟨_, T.cl_Row, T.me_Row_tray, (cg_fn (okRow_tray T) cg.gd (cg.room.mono (by decide)) (takes_of rfl rfl rfl rfl) (bdRow_tray_1 T))⟩) cw_0) da_nil))) (de_tup (da_cons (de_meth (pl := _) (de_var 1) (met2 ⟨_, T.cl_Round, T.me_Round_jars, (cg_fn (okRound_jars T) cg.gd (cg.room.mono (by decide)) (takes_of rfl rfl rfl rfl) (bdRound_jars_1 T))⟩ ⟨_, T.cl_Row, T.me_Row_jars, (cg_fn (okShape_jars T) cg.gd (cg.room.mono (by decide)) (takes_of rfl rfl rfl rfl) (bdShape_jars_1 T))⟩) cw_0) (da_cons (de_meth (pl := _) (de_var 1) (met1 ⟨_, T.cl_Row, T.me_Row_tray, (cg_fn (okRow_tray T) cg.gd (cg.room.mono (by decide)) (takes_of rfl rfl rfl rfl) (bdRow_tray_1 T))⟩) cw_0) da_nil)))))))
theorem bi_law_alike (T : Top K mg G) : Binds K T.d_law_alike ["_law_one", "_law_other", "_law_due"] [] := T.F_law_alike.binds fun _ _ _ _ _ _ us hl => by obtain ⟨u1, u2, u3, rfl⟩ := len3 hl; rfl
theorem ok_law_alike (T : Top K mg G) : FnG P w K mg base G 7 T.a_law_alike T.d_law_alike ["_law_one", "_law_other", "_law_due"] Q.den_law_alike := Fng T.F_law_alike sc_law_alike fun cdv _ A outer s H E cg => dss_cons (ds_asg (de_lst (da_cons (de_cmp (od_eqX (spT2 (k := 5) ⟨_, _, _, T.me_Round_eq.at_, T.me_Round_eq.fn, (okRound_eq T).mono (by decide), biRound_eq T, rfl⟩ ⟨_, _, _, T.me_Row_eq.at_, T.me_Row_eq.fn, (okRow_eq T).mono (by decide), biRow_eq T, rfl⟩) (mixT2 T.mx_Round T.mx_Row T.mx2.1 T.mx2.2) cg.gd (cg.room.mono (by decide))) (de_var 0) (de_var 1)) (da_cons (de_cmp (od_eqX (spT2 (k := 5) ⟨_, _, _, T.me_Round_eq.at_, T.me_Round_eq.fn, (okRound_eq T).mono (by decide), biRound_eq T, rfl⟩ ⟨_, _, _, T.me_Row_eq.at_, T.me_Row_eq.fn, (okRow_eq T).mono (by decide), biRow_eq T, rfl⟩) (mixT2 T.mx_Round T.mx_Row T.mx2.1 T.mx2.2) cg.gd (cg.room.mono (by decide))) (de_var 1) (de_var 0)) (da_cons (de_cmp (od_neX (spT2 (k := 5) ⟨_, _, _, T.me_Round_eq.at_, T.me_Round_eq.fn, (okRound_eq T).mono (by decide), biRound_eq T, rfl⟩ ⟨_, _, _, T.me_Row_eq.at_, T.me_Row_eq.fn, (okRow_eq T).mono (by decide), biRow_eq T, rfl⟩) (mixT2 T.mx_Round T.mx_Row T.mx2.1 T.mx2.2) (neT2 T.ne_Round T.ne_Row) cg.gd (cg.room.mono (by decide))) (de_var 0) (de_var 1)) (da_cons (de_cmp (od_neX (spT2 (k := 5) ⟨_, _, _, T.me_Round_eq.at_, T.me_Round_eq.fn, (okRound_eq T).mono (by decide), biRound_eq T, rfl⟩ ⟨_, _, _, T.me_Row_eq.at_, T.me_Row_eq.fn, (okRow_eq T).mono (by decide), biRow_eq T, rfl⟩) (mixT2 T.mx_Round T.mx_Row T.mx2.1 T.mx2.2) (neT2 T.ne_Round T.ne_Row) cg.gd (cg.room.mono (by decide))) (de_var 1) (de_var 0)) da_nil))))) (dg_name (ws := [3]) 3 sc_law_alike.nd))
    (dss_one (ds_ret (de_cmp (od_eq cg.units) (de_callB (cd_repr cg.gd cg.units) T.z_repr bf_repr (da_cons (de_var 3) da_nil)) (de_callB (cd_repr cg.gd cg.units) T.z_repr bf_repr (da_cons (de_lst (da_cons (de_var 2) (da_cons (de_var 2) (da_cons (de_not (de_var 2)) (da_cons (de_not (de_var 2)) da_nil))))) da_nil)))))
theorem biRound_repr (T : Top K mg G) : Binds K T.dRound_repr ["self"] [] := T.FRound_repr.binds fun _ _ _ _ _ _ us hl => by obtain ⟨u1, rfl⟩ := len1 hl; rfl
theorem okRound_repr (T : Top K mg G) : FnG P w K mg base G 5 T.aRound_repr T.dRound_repr ["self"] Q.denRound_repr := Fng T.FRound_repr scRound_repr fun cdv _ A outer s H E cg => dss_one (ds_ret (de_joined (DJ.cons de_str (DJ.cons (de_fmtR cg.gd cg.units (de_meth (pl := _) (de_var 0) (met1 ⟨_, T.cl_Round, T.me_Round_jars, (cg_fn (okRound_jars T) cg.gd (cg.room.mono (by decide)) (takes_of rfl rfl rfl rfl) (bdRound_jars_1 T))⟩) cw_0)) (DJ.cons de_str DJ.nil)))))
theorem bijar_text (T : Top K mg G) : Binds K T.djar_text ["jar"] [] := T.Fjar_text.binds fun _ _ _ _ _ _ us hl => by obtain ⟨u1, rfl⟩ := len1 hl; rfl
theorem okjar_text (T : Top K mg G) : FnG P w K mg base G 1 T.ajar_text T.djar_text ["jar"] Q.denjar_text := Fng T.Fjar_text scjar_text fun cdv _ A outer s H E cg => dss_one (ds_ret (de_bm md_join de_str (da_cons (de_lc mkaL [("part", 1)] rfl scjar_text.nd (di_tup (de_var 0)) (blkOk_by (own := [("part", 1)]) (N := ["jar", "part"]) (sc := defScope sjar_text) (by decide +kernel)) (fun _ _ _ _ _ => dg_name (ws := [1]) 1 scjar_text.nd) (fun _ _ _ _ _ => dts_nil) (fun _ _ _ _ _ => de_callT cd_str T.z_str bt_str (da_cons (de_var 1) da_nil))) da_nil) PySem.F.plainAttrs_str PySem.F.slot_str_join PySem.F.type_str_join))
theorem biShape_jars_text (T : Top K mg G) : Binds K T.dShape_jars_text ["self"] [] := T.FShape_jars_text.binds fun _ _ _ _ _ _ us hl => by obtain ⟨u1, rfl⟩ := len1 hl; rfl
theorem bdShape_jars_text_1 (T : Top K mg G) : Bd K G T.dShape_jars_text ["self"] 1 [] (fun ds es => ds) := bd_all (biShape_jars_text T) rfl
theorem okShape_jars_text (T : Top K mg G) : FnG P w K mg base G 2 T.aShape_jars_text T.dShape_jars_text ["self"] Q.denShape_jars_text := Fng T.FShape_jars_text scShape_jars_text fun cdv _ A outer s H E cg => dss_one (ds_ret (de_bm md_join de_str (da_cons (de_lc mkaL [("jar", 1)] rfl scShape_jars_text.nd (di_tup (de_fld (fldT2 ⟨T.cl_Round, T.na_Round_own_jars⟩ ⟨T.cl_Row, T.na_Row_own_jars⟩) (de_var 0))) (blkOk_by (own := [("jar", 1)]) (N := ["self", "jar"]) (sc := defScope sShape_jars_text) (by decide +kernel)) (fun _ _ _ _ _ => dg_name (ws := [1]) 1 scShape_jars_text.nd) (fun _ _ _ _ _ => dts_nil) (fun _ _ _ _ _ => de_bin od_add de_str (de_call (okjar_text T) cg.gd (cg.room.mono (by decide)) takes0 T.gjar_text T.Fjar_text.kp (bijar_text T) (da_cons (de_var 1) da_nil) (hlen := (alen_cons (fun _ _ _ _ => alen_nil)))))) da_nil) PySem.F.plainAttrs_str PySem.F.slot_str_join PySem.F.type_str_join))
theorem biRound_str (T : Top K mg G) : Binds K T.dRound_str ["self"] [] := T.FRound_str.binds fun _ _ _ _ _ _ us hl => by obtain ⟨u1, rfl⟩ := len1 hl; rfl
theorem okRound_str (T : Top K mg G) : FnG P w K mg base G 3 T.aRound_str T.dRound_str ["self"] Q.denRound_str := Fng T.FRound_str scRound_str fun cdv _ A outer s H E cg => dss_one (ds_ret (de_joined (DJ.cons de_str (DJ.cons (de_fmt (de_meth (pl := _) (de_var 0) (met1 ⟨_, T.cl_Round, T.me_Round_jars_text, (cg_fn (okShape_jars_text T) cg.gd (cg.room.mono (by decide)) (takes_of rfl rfl rfl rfl) (bdShape_jars_text_1 T))⟩) cw_0)) DJ.nil))))
theorem biRow_repr (T : Top K mg G) : Binds K T.dRow_repr ["self"] [] := T.FRow_repr.binds fun _ _ _ _ _ _ us hl => by obtain ⟨u1, rfl⟩ := len1 hl; rfl
theorem okRow_repr (T : Top K mg G) : FnG P w K mg base G 2 T.aRow_repr T.dRow_repr ["self"] Q.denRow_repr := Fng T.FRow_repr scRow_repr fun cdv _ A outer s H E cg => dss_one (ds_ret (de_joined (DJ.cons de_str (DJ.cons (de_fmtR cg.gd cg.units (de_meth (pl := _) (de_var 0) (met1 ⟨_, T.cl_Row, T.me_Row_jars, (cg_fn (okShape_jars T) cg.gd (cg.room.mono (by decide)) (takes_of rfl rfl rfl rfl) (bdShape_jars_1 T))⟩) cw_0)) (DJ.cons de_str (DJ.cons (de_fmtR cg.gd cg.units (de_meth (pl := _) (de_var 0) (met1 ⟨_, T.cl_Row, T.me_Row_tray, (cg_fn (okRow_tray T) cg.gd (cg.room.mono (by decide)) (takes_of rfl rfl rfl rfl) (bdRow_tray_1 T))⟩) cw_0)) (DJ.cons de_str DJ.nil)))))))
theorem biRow_str (T : Top K mg G) : Binds K T.dRow_str ["self"] [] := T.FRow_str.binds fun _ _ _ _ _ _ us hl => by obtain ⟨u1, rfl⟩ := len1 hl; rfl
theorem okRow_str (T : Top K mg G) : FnG P w K mg base G 3 T.aRow_str T.dRow_str ["self"] Q.denRow_str := Fng T.FRow_str scRow_str fun cdv _ A outer s H E cg => dss_one (ds_ret (de_joined (DJ.cons de_str (DJ.cons (de_fmt (de_meth (pl := _) (de_var 0) (met1 ⟨_, T.cl_Row, T.me_Row_tray, (cg_fn (okRow_tray T) cg.gd (cg.room.mono (by decide)) (takes_of rfl rfl rfl rfl) (bdRow_tray_1 T))⟩) cw_0)) (DJ.cons (de_fmt (de_meth (pl := _) (de_var 0) (met1 ⟨_, T.cl_Row, T.me_Row_jars_text, (cg_fn (okShape_jars_text T) cg.gd (cg.room.mono (by decide)) (takes_of rfl rfl rfl rfl) (bdShape_jars_text_1 T))⟩) cw_0)) DJ.nil)))))
theorem bi_law_turned (T : Top K mg G) : Binds K T.d_law_turned ["_law_row_here"] [] := T.F_law_turned.binds fun _ _ _ _ _ _ us hl => by obtain ⟨u1, rfl⟩ := len1 hl; rfl
theorem ok_law_turned (T : Top K mg G) : FnG P w K mg base G 1 T.a_law_turned T.d_law_turned ["_law_row_here"] Q.den_law_turned := Fng T.F_law_turned sc_law_turned fun cdv _ A outer s H E cg => dss_cons (ds_setLc 1 mkaL [("_law_label_here", 3), ("_law_size_here", 4), ("_law_heap_here", 5)] rfl sc_law_turned.nd (sw_true rfl rfl rfl (by decide +kernel)) (di_list (de_var 0)) (blkOk_by (own := [("_law_label_here", 3), ("_law_size_here", 4), ("_law_heap_here", 5)]) (N := ["_law_row_here", "_law_labels", "_law_at", "_law_label_here", "_law_size_here", "_law_heap_here"]) (sc := defScope s_law_turned) (by decide +kernel)) (fun _ _ _ _ _ => dg_tup rfl (dgs_cons (dg_name (ws := [3, 4, 5]) 3 sc_law_turned.nd) (dgs_cons (dg_name (ws := [3, 4, 5]) 4 sc_law_turned.nd) (dgs_cons (dg_name (ws := [3, 4, 5]) 5 sc_law_turned.nd) dgs_nil)))) (fun _ _ _ _ _ => dts_nil) (fun _ _ _ _ _ => de_var 3))
    (dss_cons (ds_asg (de_bm md_index (de_var 1) (da_cons (de_callB (cd_minS rfl) T.z_min bf_min (da_cons (de_var 1) da_nil)) da_nil) PySem.F.plainAttrs_list PySem.F.slot_list_index PySem.F.type_list_index) (dg_name (ws := [2]) 2 sc_law_turned.nd))
    (dss_one (ds_ret (de_bin od_add (de_slice mk1L (de_var 0) (do_some (de_var 2)) do_none) (de_slice mk1L (de_var 0) do_none (do_some (de_var 2)))))))
theorem bi_law_are_alike (T : Top K mg G) : Binds K T.d_law_are_alike ["_law_some", "_law_others", "_law_row_here", "_law_heap_here"] [] := T.F_law_are_alike.binds fun _ _ _ _ _ _ us hl => by obtain ⟨u1, u2, u3, u4, rfl⟩ := len4 hl; rfl
theorem ok_law_are_alike (T : Top K mg G) : FnG P w K mg base G 8 T.a_law_are_alike T.d_law_are_alike ["_law_some", "_law_others", "_law_row_here", "_law_heap_here"] Q.den_law_are_alike := Fng T.F_law_are_alike sc_law_are_alike fun cdv _ A outer s H E cg => dss_cons (ds_asg (de_var 1) (dg_tup rfl (dgs_cons (dg_name (ws := [4, 5]) 4 sc_law_are_alike.nd) (dgs_cons (dg_name (ws := [4, 5]) 5 sc_law_are_alike.nd) dgs_nil))))
    (dss_cons (ds_if (dt_not (dt_val (de_call (ok_law_alike T) cg.gd (cg.room.mono (by decide)) (takes_of rfl rfl rfl rfl) T.g_law_alike T.F_law_alike.kp (bi_law_alike T) (da_cons (de_ix (de_var 0) de_int) (da_cons (de_callG (cg_make T.mk_Round (okRound_init T) cg.gd (cg.room.mono (by decide)) (takes_of rfl rfl rfl rfl) (bdRound_init_2 T)) (cw_n (da_cons (de_var 4) da_nil) (alen_cons (fun _ _ _ _ => alen_nil))) T.gc_Round T.mk_Round.kp) (da_cons (de_cmp (od_eq cg.units) (de_call (ok_law_turned T) cg.gd (cg.room.mono (by decide)) (takes_of rfl rfl rfl rfl) T.g_law_turned T.F_law_turned.kp (bi_law_turned T) (da_cons (de_var 2) da_nil) (hlen := (alen_cons (fun _ _ _ _ => alen_nil)))) (de_call (ok_law_turned T) cg.gd (cg.room.mono (by decide)) (takes_of rfl rfl rfl rfl) T.g_law_turned T.F_law_turned.kp (bi_law_turned T) (da_cons (de_var 4) da_nil) (hlen := (alen_cons (fun _ _ _ _ => alen_nil))))) da_nil))) (hlen := (alen_cons ((alen_cons ((alen_cons (fun _ _ _ _ => alen_nil)))))))))) (dss_one (ds_ret de_bl)) dss_nil)
    (dss_cons (ds_if (dt_not (dt_val (de_call (ok_law_alike T) cg.gd (cg.room.mono (by decide)) (takes_of rfl rfl rfl rfl) T.g_law_alike T.F_law_alike.kp (bi_law_alike T) (da_cons (de_ix (de_var 0) de_int) (da_cons (de_callG (cg_make T.mk_Row (okRow_init T) cg.gd (cg.room.mono (by decide)) (takes_of rfl rfl rfl rfl) (bdRow_init_2_tray T)) (cw_nk (da_cons (de_var 4) da_nil) (alen_cons (fun _ _ _ _ => alen_nil)) (dk_cons (de_var 5) dk_nil) (alen_cons (fun _ _ _ _ => alen_nil))) T.gc_Row T.mk_Row.kp) (da_cons (de_and (de_cmp (od_eq cg.units) (de_var 2) (de_var 4)) (de_one (de_cmp (od_eq cg.units) (de_var 3) (de_var 5)))) da_nil))) (hlen := (alen_cons ((alen_cons ((alen_cons (fun _ _ _ _ => alen_nil)))))))))) (dss_one (ds_ret de_bl)) dss_nil)
    (dss_cons (ds_if (dt_w (dw_or (dt_not (dt_val (de_call (ok_law_alike T) cg.gd (cg.room.mono (by decide)) (takes_of rfl rfl rfl rfl) T.g_law_alike T.F_law_alike.kp (bi_law_alike T) (da_cons (de_ix (de_var 0) de_int) (da_cons (de_ix (de_var 0) de_int) (da_cons de_bl da_nil))) (hlen := (alen_cons ((alen_cons ((alen_cons (fun _ _ _ _ => alen_nil)))))))))) (dw_or1 (dt_not (dt_val (de_call (ok_law_alike T) cg.gd (cg.room.mono (by decide)) (takes_of rfl rfl rfl rfl) T.g_law_alike T.F_law_alike.kp (bi_law_alike T) (da_cons (de_ix (de_var 0) de_int) (da_cons (de_callG (cg_make T.mk_Row (okRow_init T) cg.gd (cg.room.mono (by decide)) (takes_of rfl rfl rfl rfl) (bdRow_init_2 T)) (cw_n (da_cons (de_call (ok_law_turned T) cg.gd (cg.room.mono (by decide)) (takes_of rfl rfl rfl rfl) T.g_law_turned T.F_law_turned.kp (bi_law_turned T) (da_cons (de_var 2) da_nil) (hlen := (alen_cons (fun _ _ _ _ => alen_nil)))) da_nil) (alen_cons (fun _ _ _ _ => alen_nil))) T.gc_Row T.mk_Row.kp) (da_cons de_bl da_nil))) (hlen := (alen_cons ((alen_cons ((alen_cons (fun _ _ _ _ => alen_nil))))))))))))) (dss_one (ds_ret de_bl)) dss_nil)
    (dss_cons (ds_for (passes_of rfl) rfl (di_list (de_lst (da_cons de_non (da_cons de_int (da_cons (de_callB cd_len T.z_len bf_len (da_cons (de_var 2) da_nil)) (da_cons (de_callT (cd_list mk1L) T.z_list bt_list (da_cons (de_var 2) da_nil)) (da_cons (de_callT cd_tuple T.z_tuple bt_tuple (da_cons (de_var 2) da_nil)) (da_cons (de_callT (cd_strO (spT2 (k := 3) ⟨_, _, _, T.me_Round_str.at_, T.me_Round_str.fn, (okRound_str T).mono (by decide), biRound_str T, rfl⟩ ⟨_, _, _, T.me_Row_str.at_, T.me_Row_str.fn, (okRow_str T).mono (by decide), biRow_str T, rfl⟩) cg.gd (cg.room.mono (by decide)) cd_str) T.z_str bt_str (da_cons (de_ix (de_var 0) de_int) da_nil)) (da_cons (de_callB (cd_reprO (spT2 (k := 5) ⟨_, _, _, T.me_Round_repr.at_, T.me_Round_repr.fn, (okRound_repr T).mono (by decide), biRound_repr T, rfl⟩ ⟨_, _, _, T.me_Row_repr.at_, T.me_Row_repr.fn, (okRow_repr T).mono (by decide), biRow_repr T, rfl⟩) cg.gd (cg.room.mono (by decide)) (cd_repr cg.gd cg.units)) T.z_repr bf_repr (da_cons (de_ix (de_var 0) de_int) da_nil)) (da_cons (de_ix (de_var 2) de_int) (da_cons de_bl (da_cons (de_lst da_nil) (da_cons de_str (da_cons de_dict0 da_nil)))))))))))))) (dg_name (ws := [6]) 6 sc_law_are_alike.nd) (dss_one (ds_if (dt_w (dw_or (dt_not (dt_val (de_call (ok_law_alike T) cg.gd (cg.room.mono (by decide)) (takes_of rfl rfl rfl rfl) T.g_law_alike T.F_law_alike.kp (bi_law_alike T) (da_cons (de_ix (de_var 0) de_int) (da_cons (de_var 6) (da_cons de_bl da_nil))) (hlen := (alen_cons ((alen_cons ((alen_cons (fun _ _ _ _ => alen_nil)))))))))) (dw_or1 (dt_not (dt_val (de_call (ok_law_alike T) cg.gd (cg.room.mono (by decide)) (takes_of rfl rfl rfl rfl) T.g_law_alike T.F_law_alike.kp (bi_law_alike T) (da_cons (de_ix (de_var 0) de_int) (da_cons (de_var 6) (da_cons de_bl da_nil))) (hlen := (alen_cons ((alen_cons ((alen_cons (fun _ _ _ _ => alen_nil))))))))))))) (dss_one (ds_ret de_bl)) dss_nil)))
    (dss_one (ds_ret de_bl))))))
theorem bi_law_figures (T : Top K mg G) : Binds K T.d_law_figures ["_law_number"] [] := T.F_law_figures.binds fun _ _ _ _ _ _ us hl => by obtain ⟨u1, rfl⟩ := len1 hl; rfl
theorem ok_law_figures (T : Top K mg G) : FnG P w K mg base G 1 T.a_law_figures T.d_law_figures ["_law_number"] Q.den_law_figures := Fng T.F_law_figures sc_law_figures fun cdv _ A outer s H E cg => dss_cons (ds_par (i := 1) (j := 2) rfl sc_law_figures.nd (da_cons de_str (da_cons (de_var 0) da_nil)))
    (dss_cons (ds_whileU (passes_of rfl) (dt_cmp od_gt (de_var 2) de_int) (dss_cons (ds_asg (de_callB cd_divmod T.z_divmod bf_divmod (da_cons (de_var 2) (da_cons de_int da_nil))) (dg_tup rfl (dgs_cons (dg_name (ws := [2, 3]) 2 sc_law_figures.nd) (dgs_cons (dg_name (ws := [2, 3]) 3 sc_law_figures.nd) dgs_nil))))
    (dss_one (ds_asg (de_bin od_add (de_ix de_str (de_var 3)) (de_var 1)) (dg_name (ws := [1]) 1 sc_law_figures.nd)))))
    (dss_one (ds_ret (de_bin od_add (de_ix de_str (de_var 2)) (de_var 1)))))
theorem bi_law_words (T : Top K mg G) : Binds K T.d_law_words ["_law_row_here"] [] := T.F_law_words.binds fun _ _ _ _ _ _ us hl => by obtain ⟨u1, rfl⟩ := len1 hl; rfl
theorem ok_law_words (T : Top K mg G) : FnG P w K mg base G 2 T.a_law_words T.d_law_words ["_law_row_here"] Q.den_law_words := Fng T.F_law_words sc_law_words fun cdv _ A outer s H E cg => dss_one (ds_ret (de_lc mkaL [("_law_label_here", 1), ("_law_size_here", 2), ("_law_heap_here", 3)] rfl sc_law_words.nd (di_list (de_var 0)) (blkOk_by (own := [("_law_label_here", 1), ("_law_size_here", 2), ("_law_heap_here", 3)]) (N := ["_law_row_here", "_law_label_here", "_law_size_here", "_law_heap_here"]) (sc := defScope s_law_words) (by decide +kernel)) (fun _ _ _ _ _ => dg_tup rfl (dgs_cons (dg_name (ws := [1, 2, 3]) 1 sc_law_words.nd) (dgs_cons (dg_name (ws := [1, 2, 3]) 2 sc_law_words.nd) (dgs_cons (dg_name (ws := [1, 2, 3]) 3 sc_law_words.nd) dgs_nil)))) (fun _ _ _ _ _ => dts_nil) (fun _ _ _ _ _ => de_bin od_add (de_bin od_add (de_bin od_add (de_bin od_add (de_var 1) de_str) (de_call (ok_law_figures T) cg.gd (cg.room.mono (by decide)) takes0 T.g_law_figures T.F_law_figures.kp (bi_law_figures T) (da_cons (de_var 2) da_nil) (hlen := (alen_cons (fun _ _ _ _ => alen_nil))))) de_str) (de_call (ok_law_figures T) cg.gd (cg.room.mono (by decide)) takes0 T.g_law_figures T.F_law_figures.kp (bi_law_figures T) (da_cons (de_var 3) da_nil) (hlen := (alen_cons (fun _ _ _ _ => alen_nil)))))))
theorem bi_law_are_shown (T : Top K mg G) : Binds K T.d_law_are_shown ["_law_some", "_law_row_here", "_law_heap_here"] [] := T.F_law_are_shown.binds fun _ _ _ _ _ _ us hl => by obtain ⟨u1, u2, u3, rfl⟩ := len3 hl; rfl
theorem ok_law_are_shown (T : Top K mg G) : FnG P w K mg base G 7 T.a_law_are_shown T.d_law_are_shown ["_law_some", "_law_row_here", "_law_heap_here"] Q.den_law_are_shown := Fng T.F_law_are_shown sc_law_are_shown fun cdv _ A outer s H E cg => dss_cons (ds_par (i := 3) (j := 4) rfl sc_law_are_shown.nd (da_cons (de_call (ok_law_turned T) cg.gd (cg.room.mono (by decide)) (takes_of rfl rfl rfl rfl) T.g_law_turned T.F_law_turned.kp (bi_law_turned T) (da_cons (de_var 1) da_nil) (hlen := (alen_cons (fun _ _ _ _ => alen_nil)))) (da_cons (de_call (ok_law_words T) cg.gd (cg.room.mono (by decide)) (takes_of rfl rfl rfl rfl) T.g_law_words T.F_law_words.kp (bi_law_words T) (da_cons (de_var 1) da_nil) (hlen := (alen_cons (fun _ _ _ _ => alen_nil)))) da_nil)))
    (dss_cons (ds_asg (de_lst (da_cons (de_callT (cd_strO (spT2 (k := 3) ⟨_, _, _, T.me_Round_str.at_, T.me_Round_str.fn, (okRound_str T).mono (by decide), biRound_str T, rfl⟩ ⟨_, _, _, T.me_Row_str.at_, T.me_Row_str.fn, (okRow_str T).mono (by decide), biRow_str T, rfl⟩) cg.gd (cg.room.mono (by decide)) cd_str) T.z_str bt_str (da_cons (de_ix (de_var 0) de_int) da_nil)) (da_cons (de_callT (cd_strO (spT2 (k := 3) ⟨_, _, _, T.me_Round_str.at_, T.me_Round_str.fn, (okRound_str T).mono (by decide), biRound_str T, rfl⟩ ⟨_, _, _, T.me_Row_str.at_, T.me_Row_str.fn, (okRow_str T).mono (by decide), biRow_str T, rfl⟩) cg.gd (cg.room.mono (by decide)) cd_str) T.z_str bt_str (da_cons (de_ix (de_var 0) de_int) da_nil)) (da_cons (de_callB (cd_reprO (spT2 (k := 5) ⟨_, _, _, T.me_Round_repr.at_, T.me_Round_repr.fn, (okRound_repr T).mono (by decide), biRound_repr T, rfl⟩ ⟨_, _, _, T.me_Row_repr.at_, T.me_Row_repr.fn, (okRow_repr T).mono (by decide), biRow_repr T, rfl⟩) cg.gd (cg.room.mono (by decide)) (cd_repr cg.gd cg.units)) T.z_repr bf_repr (da_cons (de_ix (de_var 0) de_int) da_nil)) (da_cons (de_callB (cd_reprO (spT2 (k := 5) ⟨_, _, _, T.me_Round_repr.at_, T.me_Round_repr.fn, (okRound_repr T).mono (by decide), biRound_repr T, rfl⟩ ⟨_, _, _, T.me_Row_repr.at_, T.me_Row_repr.fn, (okRow_repr T).mono (by decide), biRow_repr T, rfl⟩) cg.gd (cg.room.mono (by decide)) (cd_repr cg.gd cg.units)) T.z_repr bf_repr (da_cons (de_ix (de_var 0) de_int) da_nil)) da_nil))))) (dg_name (ws := [5]) 5 sc_law_are_shown.nd))
    (dss_cons (ds_asg (de_lst (da_cons (de_bm md_join de_str (da_cons (de_bin od_add (de_lst (da_cons de_str da_nil)) (de_call (ok_law_words T) cg.gd (cg.room.mono (by decide)) (takes_of rfl rfl rfl rfl) T.g_law_words T.F_law_words.kp (bi_law_words T) (da_cons (de_var 3) da_nil) (hlen := (alen_cons (fun _ _ _ _ => alen_nil))))) da_nil) PySem.F.plainAttrs_str PySem.F.slot_str_join PySem.F.type_str_join) (da_cons (de_bm md_join de_str (da_cons (de_bin od_add (de_lst (da_cons de_str (da_cons (de_call (ok_law_figures T) cg.gd (cg.room.mono (by decide)) (takes_of rfl rfl rfl rfl) T.g_law_figures T.F_law_figures.kp (bi_law_figures T) (da_cons (de_var 2) da_nil) (hlen := (alen_cons (fun _ _ _ _ => alen_nil)))) da_nil))) (de_var 4)) da_nil) PySem.F.plainAttrs_str PySem.F.slot_str_join PySem.F.type_str_join) da_nil))) (dg_name (ws := [6]) 6 sc_law_are_shown.nd))
    (dss_one (ds_ret (de_cmp (od_eq cg.units) (de_var 5) (de_bin od_add (de_var 6) (de_lst (da_cons (de_bin od_add (de_bin od_add de_str (de_callB (cd_repr cg.gd cg.units) T.z_repr bf_repr (da_cons (de_var 3) da_nil))) de_str) (da_cons (de_bin od_add (de_bin od_add (de_bin od_add (de_bin od_add de_str (de_callB (cd_repr cg.gd cg.units) T.z_repr bf_repr (da_cons (de_var 1) da_nil))) de_str) (de_callB (cd_repr cg.gd cg.units) T.z_repr bf_repr (da_cons (de_var 2) da_nil))) de_str) da_nil)))))))))
theorem bi_law_take (T : Top K mg G) : Binds K T.d_law_take ["_law_pot_here", "_law_upto"] [] := T.F_law_take.binds fun _ _ _ _ _ _ us hl => by obtain ⟨u1, u2, rfl⟩ := len2 hl; rfl
theorem ok_law_take (T : Top K mg G) : FnG P w K mg base G 1 T.a_law_take T.d_law_take ["_law_pot_here", "_law_upto"] Q.den_law_take := Fng T.F_law_take sc_law_take fun cdv _ A outer s H E cg => dss_cons (ds_if (dt_cmp od_gt (de_ix (de_var 0) de_int) de_int) (dss_cons (ds_asg (de_callB cd_divmod T.z_divmod bf_divmod (da_cons (de_ix (de_var 0) de_int) (da_cons (de_var 1) da_nil))) (dg_tup rfl (dgs_cons (dg_sub (ws := [2]) (de_var 0) de_int) (dgs_cons (dg_name (ws := [2]) 2 sc_law_take.nd) dgs_nil))))
    (dss_one (ds_ret (de_var 2)))) dss_nil)
    (dss_cons (ds_asg (de_bin od_mod (de_bin od_add (de_bin od_mul (de_ix (de_var 0) de_int) de_int) de_int) de_int) (dg_sub (ws := []) (de_var 0) de_int))
    (dss_one (ds_ret (de_bin od_mod (de_bin od_fdiv (de_bin od_mod (de_bin od_mul (de_ix (de_var 0) de_int) (de_ix (de_var 0) de_int)) de_int) de_int) (de_var 1)))))
theorem bi_law_among (T : Top K mg G) : Binds K T.d_law_among ["_law_pot_here", "_law_some"] [] := T.F_law_among.binds fun _ _ _ _ _ _ us hl => by obtain ⟨u1, u2, rfl⟩ := len2 hl; rfl
theorem ok_law_among (T : Top K mg G) : FnG P w K mg base G 2 T.a_law_among T.d_law_among ["_law_pot_here", "_law_some"] Q.den_law_among := Fng T.F_law_among sc_law_among fun cdv _ A outer s H E cg => dss_one (ds_ret (de_ix (de_var 1) (de_call (ok_law_take T) cg.gd (cg.room.mono (by decide)) (takes_of rfl rfl rfl rfl) T.g_law_take T.F_law_take.kp (bi_law_take T) (da_cons (de_var 0) (da_cons (de_callB cd_len T.z_len bf_len (da_cons (de_var 1) da_nil)) da_nil)) (hlen := (alen_cons ((alen_cons (fun _ _ _ _ => alen_nil))))))))
theorem bi_law_heap (T : Top K mg G) : Binds K T.d_law_heap ["_law_pot_here", "_law_size_here"] [] := T.F_law_heap.binds fun _ _ _ _ _ _ us hl => by obtain ⟨u1, u2, rfl⟩ := len2 hl; rfl
theorem ok_law_heap (T : Top K mg G) : FnG P w K mg base G 3 T.a_law_heap T.d_law_heap ["_law_pot_here", "_law_size_here"] Q.den_law_heap := Fng T.F_law_heap sc_law_heap fun cdv _ A outer s H E cg => dss_cons (ds_asg (de_callB (cd_max2 rfl) T.z_max bf_max (da_cons de_int (da_cons (de_bin od_sub (de_bin od_add (de_bin od_mul (de_var 1) (de_call (ok_law_take T) cg.gd (cg.room.mono (by decide)) (takes_of rfl rfl rfl rfl) T.g_law_take T.F_law_take.kp (bi_law_take T) (da_cons (de_var 0) (da_cons de_int da_nil)) (hlen := (alen_cons ((alen_cons (fun _ _ _ _ => alen_nil))))))) (de_call (ok_law_take T) cg.gd (cg.room.mono (by decide)) (takes_of rfl rfl rfl rfl) T.g_law_take T.F_law_take.kp (bi_law_take T) (da_cons (de_var 0) (da_cons de_int da_nil)) (hlen := (alen_cons ((alen_cons (fun _ _ _ _ => alen_nil))))))) de_int) da_nil))) (dg_name (ws := [2]) 2 sc_law_heap.nd))
    (dss_cons (ds_asg (de_call (ok_law_take T) cg.gd (cg.room.mono (by decide)) (takes_of rfl rfl rfl rfl) T.g_law_take T.F_law_take.kp (bi_law_take T) (da_cons (de_var 0) (da_cons (de_bin od_pow de_int de_int) da_nil)) (hlen := (alen_cons ((alen_cons (fun _ _ _ _ => alen_nil)))))) (dg_name (ws := [3]) 3 sc_law_heap.nd))
    (dss_one (ds_ret (de_call (ok_law_among T) cg.gd (cg.room.mono (by decide)) (takes_of rfl rfl rfl rfl) T.g_law_among T.F_law_among.kp (bi_law_among T) (da_cons (de_var 0) (da_cons (de_lst (da_cons de_int (da_cons (de_call (ok_law_take T) cg.gd (cg.room.mono (by decide)) (takes_of rfl rfl rfl rfl) T.g_law_take T.F_law_take.kp (bi_law_take T) (da_cons (de_var 0) (da_cons (de_var 1) da_nil)) (hlen := (alen_cons ((alen_cons (fun _ _ _ _ => alen_nil)))))) (da_cons (de_bin od_sub (de_var 1) de_int) (da_cons (de_var 2) (da_cons (de_call (ok_law_take T) cg.gd (cg.room.mono (by decide)) (takes_of rfl rfl rfl rfl) T.g_law_take T.F_law_take.kp (bi_law_take T) (da_cons (de_var 0) (da_cons (de_bin od_mul (de_var 1) de_int) da_nil)) (hlen := (alen_cons ((alen_cons (fun _ _ _ _ => alen_nil)))))) (da_cons (de_var 3) da_nil))))))) da_nil)) (hlen := (alen_cons ((alen_cons (fun _ _ _ _ => alen_nil)))))))))
theorem bi_law_label (T : Top K mg G) : Binds K T.d_law_label ["_law_pot_here", "_law_used"] [] := T.F_law_label.binds fun _ _ _ _ _ _ us hl => by obtain ⟨u1, u2, rfl⟩ := len2 hl; rfl
theorem ok_law_label (T : Top K mg G) : FnG P w K mg base G 2 T.a_law_label T.d_law_label ["_law_pot_here", "_law_used"] Q.den_law_label := Fng T.F_law_label sc_law_label fun cdv _ A outer s H E cg => dss_cons (ds_asg de_str (dg_name (ws := [2]) 2 sc_law_label.nd))
    (dss_cons (ds_asg (de_ix (de_lst (da_cons de_int (da_cons de_int (da_cons de_int (da_cons (de_bin od_add de_int (de_call (ok_law_take T) cg.gd (cg.room.mono (by decide)) (takes_of rfl rfl rfl rfl) T.g_law_take T.F_law_take.kp (bi_law_take T) (da_cons (de_var 0) (da_cons de_int da_nil)) (hlen := (alen_cons ((alen_cons (fun _ _ _ _ => alen_nil))))))) da_nil))))) (de_call (ok_law_take T) cg.gd (cg.room.mono (by decide)) (takes_of rfl rfl rfl rfl) T.g_law_take T.F_law_take.kp (bi_law_take T) (da_cons (de_var 0) (da_cons de_int da_nil)) (hlen := (alen_cons ((alen_cons (fun _ _ _ _ => alen_nil))))))) (dg_name (ws := [3]) 3 sc_law_label.nd))
    (dss_cons (ds_asg (de_bm md_join de_str (da_cons (de_lc mkaL [("_law_k", 6)] rfl sc_law_label.nd (di_range1 T.z_range (da_cons (de_var 3) da_nil)) (blkOk_by (own := [("_law_k", 6)]) (N := ["_law_pot_here", "_law_used", "_law_letters", "_law_length", "_law_label_here", "_law_some", "_law_k", "_law_letter", "_law_one"]) (sc := defScope s_law_label) (by decide +kernel)) (fun _ _ _ _ _ => dg_name (ws := [6]) 6 sc_law_label.nd) (fun _ _ _ _ _ => dts_nil) (fun _ _ _ _ _ => de_ix (de_var 2) (de_call (ok_law_take T) cg.gd (cg.room.mono (by decide)) takes0 T.g_law_take T.F_law_take.kp (bi_law_take T) (da_cons (de_var 0) (da_cons de_int da_nil)) (hlen := (alen_cons ((alen_cons (fun _ _ _ _ => alen_nil)))))))) da_nil) PySem.F.plainAttrs_str PySem.F.slot_str_join PySem.F.type_str_join) (dg_name (ws := [4]) 4 sc_law_label.nd))
    (dss_cons (ds_asg (de_bin od_add (de_lst (da_cons (de_var 4) da_nil)) (de_lc mkaL [("_law_letter", 7)] rfl sc_law_label.nd (di_str (de_var 2)) (blkOk_by (own := [("_law_letter", 7)]) (N := ["_law_pot_here", "_law_used", "_law_letters", "_law_length", "_law_label_here", "_law_some", "_law_k", "_law_letter", "_law_one"]) (sc := defScope s_law_label) (by decide +kernel)) (fun _ _ _ _ _ => dg_name (ws := [7]) 7 sc_law_label.nd) (fun _ _ _ _ _ => dts_nil) (fun _ _ _ _ _ => de_bin od_add (de_slice mk1L (de_var 4) do_none (do_some de_int)) (de_var 7)))) (dg_name (ws := [5]) 5 sc_law_label.nd))
    (dss_one (ds_ret (de_ix (de_lc mkaL [("_law_one", 8)] rfl sc_law_label.nd (di_list (de_var 5)) (blkOk_by (own := [("_law_one", 8)]) (N := ["_law_pot_here", "_law_used", "_law_letters", "_law_length", "_law_label_here", "_law_some", "_law_k", "_law_letter", "_law_one"]) (sc := defScope s_law_label) (by decide +kernel)) (fun _ _ _ _ _ => dg_name (ws := [8]) 8 sc_law_label.nd) (fun _ _ _ _ _ => dts_one (dt_cmp (od_notIn cg.units65) (de_var 8) (de_var 1))) (fun _ _ _ _ _ => de_var 8)) de_int))))))
theorem bi_law_otherwise (T : Top K mg G) : Binds K T.d_law_otherwise ["_law_pot_here", "_law_row_here"] [] := T.F_law_otherwise.binds fun _ _ _ _ _ _ us hl => by obtain ⟨u1, u2, rfl⟩ := len2 hl; rfl
theorem ok_law_otherwise (T : Top K mg G) : FnG P w K mg base G 3 T.a_law_otherwise T.d_law_otherwise ["_law_pot_here", "_law_row_here"] Q.den_law_otherwise := Fng T.F_law_otherwise sc_law_otherwise fun cdv _ A outer s H E cg => dss_cons (ds_par (i := 2) (j := 3) rfl sc_law_otherwise.nd (da_cons (de_call (ok_law_take T) cg.gd (cg.room.mono (by decide)) (takes_of rfl rfl rfl rfl) T.g_law_take T.F_law_take.kp (bi_law_take T) (da_cons (de_var 0) (da_cons de_int da_nil)) (hlen := (alen_cons ((alen_cons (fun _ _ _ _ => alen_nil)))))) (da_cons (de_call (ok_law_take T) cg.gd (cg.room.mono (by decide)) (takes_of rfl rfl rfl rfl) T.g_law_take T.F_law_take.kp (bi_law_take T) (da_cons (de_var 0) (da_cons (de_callB cd_len T.z_len bf_len (da_cons (de_var 1) da_nil)) da_nil)) (hlen := (alen_cons ((alen_cons (fun _ _ _ _ => alen_nil)))))) da_nil)))
    (dss_cons (ds_asg (de_ix (de_var 1) (de_var 3)) (dg_tup rfl (dgs_cons (dg_name (ws := [4, 5, 6]) 4 sc_law_otherwise.nd) (dgs_cons (dg_name (ws := [4, 5, 6]) 5 sc_law_otherwise.nd) (dgs_cons (dg_name (ws := [4, 5, 6]) 6 sc_law_otherwise.nd) dgs_nil)))))
    (dss_cons (ds_if (dt_cmp (od_eq cg.units) (de_var 2) de_int) (dss_one (ds_asg (de_tup (da_cons (de_var 4) (da_cons (de_var 5) (da_cons (de_if (dt_cmp od_lt (de_var 6) de_int) (de_bin od_add (de_var 6) de_int) (de_bin od_sub (de_var 6) de_int)) da_nil)))) (dg_name (ws := [7]) 7 sc_law_otherwise.nd))) (dss_one (ds_if (dt_cmp (od_eq cg.units) (de_var 2) de_int) (dss_one (ds_asg (de_tup (da_cons (de_var 4) (da_cons (de_if (dt_cmp od_lt (de_var 5) (de_bin od_pow de_int de_int)) (de_bin od_add (de_var 5) de_int) de_int) (da_cons (de_var 6) da_nil)))) (dg_name (ws := [7]) 7 sc_law_otherwise.nd))) (dss_one (ds_if (dt_cmp (od_eq cg.units) (de_var 2) de_int) (dss_one (ds_asg (de_tup (da_cons (de_call (ok_law_label T) cg.gd (cg.room.mono (by decide)) (takes_of rfl rfl rfl rfl) T.g_law_label T.F_law_label.kp (bi_law_label T) (da_cons (de_var 0) (da_cons (de_lc mkaL [("_law_jar", 8)] rfl sc_law_otherwise.nd (di_list (de_var 1)) (blkOk_by (own := [("_law_jar", 8)]) (N := ["_law_pot_here", "_law_row_here", "_law_way", "_law_at", "_law_label_here", "_law_size_here", "_law_heap_here", "_law_one", "_law_jar"]) (sc := defScope s_law_otherwise) (by decide +kernel)) (fun _ _ _ _ _ => dg_name (ws := [8]) 8 sc_law_otherwise.nd) (fun _ _ _ _ _ => dts_nil) (fun _ _ _ _ _ => de_ix (de_var 8) de_int)) da_nil)) (hlen := (alen_cons ((alen_cons (fun _ _ _ _ => alen_nil)))))) (da_cons (de_var 5) (da_cons (de_var 6) da_nil)))) (dg_name (ws := [7]) 7 sc_law_otherwise.nd))) (dss_one (ds_if (dt_w (dw_and (dt_cmp (od_eq cg.units) (de_var 2) de_int) (dw_and1 (dt_cmp od_gt (de_callB cd_len T.z_len bf_len (da_cons (de_var 1) da_nil)) de_int)))) (dss_one (ds_ret (de_bin od_add (de_slice mk1L (de_var 1) do_none (do_some (de_var 3))) (de_slice mk1L (de_var 1) (do_some (de_bin od_add (de_var 3) de_int)) do_none)))) (dss_one (ds_if (dt_cmp (od_eq cg.units) (de_var 2) de_int) (dss_one (ds_ret (de_bin od_add (de_slice mk1L (de_var 1) (do_some (de_var 3)) do_none) (de_slice mk1L (de_var 1) do_none (do_some (de_var 3)))))) (dss_one (ds_if (dt_cmp (od_eq cg.units) (de_var 2) de_int) (dss_one (ds_ret (de_revL (de_var 1)))) (dss_one (ds_if (dt_w (dw_and (dt_cmp (od_eq cg.units) (de_var 2) de_int) (dw_and1 (dt_cmp od_lt (de_bin od_add (de_var 3) de_int) (de_callB cd_len T.z_len bf_len (da_cons (de_var 1) da_nil)))))) (dss_one (ds_ret (de_bin od_add (de_bin od_add (de_slice mk1L (de_var 1) do_none (do_some (de_var 3))) (de_lst (da_cons (de_ix (de_var 1) (de_bin od_add (de_var 3) de_int)) (da_cons (de_ix (de_var 1) (de_var 3)) da_nil)))) (de_slice mk1L (de_var 1) (do_some (de_bin od_add (de_var 3) de_int)) do_none)))) (dss_one (ds_asg (de_tup (da_cons (de_var 4) (da_cons (de_var 5) (da_cons (de_bin od_fdiv (de_var 6) de_int) da_nil)))) (dg_name (ws := [7]) 7 sc_law_otherwise.nd))))))))))))))))
    (dss_one (ds_ret (de_bin od_add (de_bin od_add (de_slice mk1L (de_var 1) do_none (do_some (de_var 3))) (de_lst (da_cons (de_var 7) da_nil))) (de_slice mk1L (de_var 1) (do_some (de_bin od_add (de_var 3) de_int)) do_none))))))
theorem bi_law_pot_C (T : Top K mg G) : Binds K T.d_law_pot_C ["_law_script", "_law_k"] [] := T.F_law_pot_C.binds fun _ _ _ _ _ _ us hl => by obtain ⟨u1, u2, rfl⟩ := len2 hl; rfl
theorem ok_law_pot_C (T : Top K mg G) : FnG P w K mg base G 1 T.a_law_pot_C T.d_law_pot_C ["_law_script", "_law_k"] Q.den_law_pot_C := Fng T.F_law_pot_C sc_law_pot_C fun cdv _ A outer s H E cg => dss_cons (ds_asg (de_if (dt_cmp od_lt (de_var 1) (de_callB cd_len T.z_len bf_len (da_cons (de_var 0) da_nil))) (de_callB cd_abs T.z_abs bf_abs (da_cons (de_ix (de_var 0) (de_var 1)) da_nil)) de_int) (dg_name (ws := [2]) 2 sc_law_pot_C.nd))
    (dss_one (ds_ret (de_lstC (da_cons (de_callB (cd_max2 rfl) T.z_max bf_max (da_cons de_int (da_cons (de_bin od_sub (de_var 2) (de_bin od_pow de_int de_int)) da_nil))) (da_cons (de_bin od_add (de_bin od_add (de_bin od_mod (de_var 2) de_int) (de_bin od_mul de_int (de_var 1))) de_int) da_nil)))))
theorem bi_law_size (T : Top K mg G) : Binds K T.d_law_size ["_law_pot_here"] [] := T.F_law_size.binds fun _ _ _ _ _ _ us hl => by obtain ⟨u1, rfl⟩ := len1 hl; rfl
theorem ok_law_size (T : Top K mg G) : FnG P w K mg base G 2 T.a_law_size T.d_law_size ["_law_pot_here"] Q.den_law_size := Fng T.F_law_size sc_law_size fun cdv _ A outer s H E cg => dss_cons (ds_asg (de_bin od_mul (de_bin od_add de_int (de_call (ok_law_take T) cg.gd (cg.room.mono (by decide)) (takes_of rfl rfl rfl rfl) T.g_law_take T.F_law_take.kp (bi_law_take T) (da_cons (de_var 0) (da_cons de_int da_nil)) (hlen := (alen_cons ((alen_cons (fun _ _ _ _ => alen_nil))))))) (de_bin od_add de_int (de_call (ok_law_take T) cg.gd (cg.room.mono (by decide)) (takes_of rfl rfl rfl rfl) T.g_law_take T.F_law_take.kp (bi_law_take T) (da_cons (de_var 0) (da_cons de_int da_nil)) (hlen := (alen_cons ((alen_cons (fun _ _ _ _ => alen_nil)))))))) (dg_name (ws := [1]) 1 sc_law_size.nd))
    (dss_one (ds_ret (de_ix (de_lst (da_cons de_int (da_cons (de_bin od_add de_int (de_call (ok_law_take T) cg.gd (cg.room.mono (by decide)) (takes_of rfl rfl rfl rfl) T.g_law_take T.F_law_take.kp (bi_law_take T) (da_cons (de_var 0) (da_cons de_int da_nil)) (hlen := (alen_cons ((alen_cons (fun _ _ _ _ => alen_nil))))))) (da_cons (de_var 1) (da_cons (de_bin od_add de_int (de_call (ok_law_take T) cg.gd (cg.room.mono (by decide)) (takes_of rfl rfl rfl rfl) T.g_law_take T.F_law_take.kp (bi_law_take T) (da_cons (de_var 0) (da_cons (de_bin od_sub (de_bin od_pow de_int de_int) de_int) da_nil)) (hlen := (alen_cons ((alen_cons (fun _ _ _ _ => alen_nil))))))) da_nil))))) (de_call (ok_law_take T) cg.gd (cg.room.mono (by decide)) (takes_of rfl rfl rfl rfl) T.g_law_take T.F_law_take.kp (bi_law_take T) (da_cons (de_var 0) (da_cons de_int da_nil)) (hlen := (alen_cons ((alen_cons (fun _ _ _ _ => alen_nil)))))))))
theorem bi_law_row (T : Top K mg G) : Binds K T.d_law_row ["_law_pot_here", "_law_upto"] [] := T.F_law_row.binds fun _ _ _ _ _ _ us hl => by obtain ⟨u1, u2, rfl⟩ := len2 hl; rfl
theorem ok_law_row (T : Top K mg G) : FnG P w K mg base G 4 T.a_law_row T.d_law_row ["_law_pot_here", "_law_upto"] Q.den_law_row := Fng T.F_law_row sc_law_row fun cdv _ A outer s H E cg => dss_cons (ds_par (i := 2) (j := 3) rfl sc_law_row.nd (da_cons (de_lstC da_nil) (da_cons (de_lstC da_nil) da_nil)))
    (dss_cons (ds_for (passes_of rfl) rfl (di_range1 T.z_range (da_cons (de_ix (de_lst (da_cons de_int (da_cons de_int (da_cons de_int (da_cons (de_bin od_add de_int (de_call (ok_law_take T) cg.gd (cg.room.mono (by decide)) (takes_of rfl rfl rfl rfl) T.g_law_take T.F_law_take.kp (bi_law_take T) (da_cons (de_var 0) (da_cons (de_var 1) da_nil)) (hlen := (alen_cons ((alen_cons (fun _ _ _ _ => alen_nil))))))) da_nil))))) (de_call (ok_law_take T) cg.gd (cg.room.mono (by decide)) (takes_of rfl rfl rfl rfl) T.g_law_take T.F_law_take.kp (bi_law_take T) (da_cons (de_var 0) (da_cons de_int da_nil)) (hlen := (alen_cons ((alen_cons (fun _ _ _ _ => alen_nil))))))) da_nil)) (dg_name (ws := [4]) 4 sc_law_row.nd) (dss_cons (ds_expr (de_bm md_append (de_var 2) (da_cons (de_call (ok_law_label T) cg.gd (cg.room.mono (by decide)) (takes_of rfl rfl rfl rfl) T.g_law_label T.F_law_label.kp (bi_law_label T) (da_cons (de_var 0) (da_cons (de_var 2) da_nil)) (hlen := (alen_cons ((alen_cons (fun _ _ _ _ => alen_nil)))))) da_nil) PySem.F.plainAttrs_list PySem.F.slot_list_append PySem.F.type_list_append))
    (dss_cons (ds_asg (de_call (ok_law_size T) cg.gd (cg.room.mono (by decide)) (takes_of rfl rfl rfl rfl) T.g_law_size T.F_law_size.kp (bi_law_size T) (da_cons (de_var 0) da_nil) (hlen := (alen_cons (fun _ _ _ _ => alen_nil)))) (dg_name (ws := [5]) 5 sc_law_row.nd))
    (dss_one (ds_expr (de_bm md_append (de_var 3) (da_cons (de_tup (da_cons (de_ix (de_var 2) (de_un od_neg de_int)) (da_cons (de_var 5) (da_cons (de_call (ok_law_heap T) cg.gd (cg.room.mono (by decide)) (takes_of rfl rfl rfl rfl) T.g_law_heap T.F_law_heap.kp (bi_law_heap T) (da_cons (de_var 0) (da_cons (de_var 5) da_nil)) (hlen := (alen_cons ((alen_cons (fun _ _ _ _ => alen_nil)))))) da_nil)))) da_nil) PySem.F.plainAttrs_list PySem.F.slot_list_append PySem.F.type_list_append))))))
    (dss_one (ds_ret (de_frz (de_var 3)))))
theorem oklaw (T : Top K mg G) : FnG P w K mg base G 9 T.alaw T.dlaw ["_law_script"] Q.denlaw_37 := Fng T.Flaw sclaw fun cdv _ A outer s H E cg => dss_cons (ds_for (passes_of rfl) rfl (di_range1 T.z_range (da_cons (de_callB (cd_max2 rfl) T.z_max bf_max (da_cons de_int (da_cons (de_callB (cd_min2 rfl) T.z_min bf_min (da_cons de_int (da_cons (de_callB cd_len T.z_len bf_len (da_cons (de_var 0) da_nil)) da_nil))) da_nil))) da_nil)) (dg_name (ws := [1]) 1 sclaw.nd) (dss_cons (ds_asg (de_call (ok_law_pot_C T) cg.gd (cg.room.mono (by decide)) (takes_of rfl rfl rfl rfl) T.g_law_pot_C T.F_law_pot_C.kp (bi_law_pot_C T) (da_cons (de_var 0) (da_cons (de_var 1) da_nil)) (hlen := (alen_cons ((alen_cons (fun _ _ _ _ => alen_nil)))))) (dg_name (ws := [2]) 2 sclaw.nd))
    (dss_cons (ds_asg (de_call (ok_law_row T) cg.gd (cg.room.mono (by decide)) (takes_of rfl rfl rfl rfl) T.g_law_row T.F_law_row.kp (bi_law_row T) (da_cons (de_var 2) (da_cons de_int da_nil)) (hlen := (alen_cons ((alen_cons (fun _ _ _ _ => alen_nil)))))) (dg_name (ws := [3]) 3 sclaw.nd))
    (dss_cons (ds_par (i := 4) (j := 5) rfl sclaw.nd (da_cons (de_call (ok_law_take T) cg.gd (cg.room.mono (by decide)) (takes_of rfl rfl rfl rfl) T.g_law_take T.F_law_take.kp (bi_law_take T) (da_cons (de_var 2) (da_cons (de_callB cd_len T.z_len bf_len (da_cons (de_var 3) da_nil)) da_nil)) (hlen := (alen_cons ((alen_cons (fun _ _ _ _ => alen_nil)))))) (da_cons (de_call (ok_law_heap T) cg.gd (cg.room.mono (by decide)) (takes_of rfl rfl rfl rfl) T.g_law_heap T.F_law_heap.kp (bi_law_heap T) (da_cons (de_var 2) (da_cons de_int da_nil)) (hlen := (alen_cons ((alen_cons (fun _ _ _ _ => alen_nil)))))) da_nil)))
    (dss_cons (ds_asg (de_lst (da_cons (de_callG (cg_make T.mk_Round (okRound_init T) cg.gd (cg.room.mono (by decide)) (takes_of rfl rfl rfl rfl) (bdRound_init_2 T)) (cw_n (da_cons (de_var 3) da_nil) (alen_cons (fun _ _ _ _ => alen_nil))) T.gc_Round T.mk_Round.kp) (da_cons (de_callG (cg_make T.mk_Row (okRow_init T) cg.gd (cg.room.mono (by decide)) (takes_of rfl rfl rfl rfl) (bdRow_init_2_tray T)) (cw_nk (da_cons (de_var 3) da_nil) (alen_cons (fun _ _ _ _ => alen_nil)) (dk_cons (de_var 5) dk_nil) (alen_cons (fun _ _ _ _ => alen_nil))) T.gc_Row T.mk_Row.kp) da_nil))) (dg_name (ws := [6]) 6 sclaw.nd))
    (dss_cons (ds_for (passes_of rfl) rfl (di_range1 T.z_range (da_cons de_int da_nil)) (dg_name (ws := [7]) 7 sclaw.nd) (dss_cons (ds_asg (de_ix (de_lst (da_cons (de_var 5) (da_cons (de_bin od_fdiv (de_var 5) de_int) (da_cons (de_if (dt_cmp od_lt (de_var 5) de_int) (de_bin od_add (de_var 5) de_int) (de_bin od_sub (de_var 5) de_int)) da_nil)))) (de_call (ok_law_take T) cg.gd (cg.room.mono (by decide)) (takes_of rfl rfl rfl rfl) T.g_law_take T.F_law_take.kp (bi_law_take T) (da_cons (de_var 2) (da_cons de_int da_nil)) (hlen := (alen_cons ((alen_cons (fun _ _ _ _ => alen_nil))))))) (dg_name (ws := [8]) 8 sclaw.nd))
    (dss_cons (ds_if (dt_not (dt_val (de_call (ok_law_are_shown T) cg.gd (cg.room.mono (by decide)) (takes_of rfl rfl rfl rfl) T.g_law_are_shown T.F_law_are_shown.kp (bi_law_are_shown T) (da_cons (de_var 6) (da_cons (de_var 3) (da_cons (de_var 5) da_nil))) (hlen := (alen_cons ((alen_cons ((alen_cons (fun _ _ _ _ => alen_nil)))))))))) (dss_one (ds_ret de_bl)) dss_nil)
    (dss_one (ds_if (dt_not (dt_val (de_call (ok_law_are_alike T) cg.gd (cg.room.mono (by decide)) (takes_of rfl rfl rfl rfl) T.g_law_are_alike T.F_law_are_alike.kp (bi_law_are_alike T) (da_cons (de_var 6) (da_cons (de_tup (da_cons (de_call (ok_law_otherwise T) cg.gd (cg.room.mono (by decide)) (takes_of rfl rfl rfl rfl) T.g_law_otherwise T.F_law_otherwise.kp (bi_law_otherwise T) (da_cons (de_var 2) (da_cons (de_var 3) da_nil)) (hlen := (alen_cons ((alen_cons (fun _ _ _ _ => alen_nil)))))) (da_cons (de_var 8) da_nil))) (da_cons (de_var 3) (da_cons (de_var 5) da_nil)))) (hlen := (alen_cons ((alen_cons ((alen_cons ((alen_cons (fun _ _ _ _ => alen_nil)))))))))))) (dss_one (ds_ret de_bl)) dss_nil)))))
    (dss_cons (ds_asg (de_lst (da_cons (de_callG (cg_make T.mk_Round (okRound_init T) cg.gd (cg.room.mono (by decide)) (takes_of rfl rfl rfl rfl) (bdRound_init_2 T)) (cw_n (da_cons (de_bin od_add (de_slice mk1L (de_var 3) (do_some (de_var 4)) do_none) (de_slice mk1L (de_var 3) do_none (do_some (de_var 4)))) da_nil) (alen_cons (fun _ _ _ _ => alen_nil))) T.gc_Round T.mk_Round.kp) (da_cons (de_callG (cg_make T.mk_Row (okRow_init T) cg.gd (cg.room.mono (by decide)) (takes_of rfl rfl rfl rfl) (bdRow_init_2_tray T)) (cw_nk (da_cons (de_callT (cd_list mk1L) T.z_list bt_list (da_cons (de_var 3) da_nil)) da_nil) (alen_cons (fun _ _ _ _ => alen_nil)) (dk_cons (de_var 5) dk_nil) (alen_cons (fun _ _ _ _ => alen_nil))) T.gc_Row T.mk_Row.kp) da_nil))) (dg_name (ws := [9]) 9 sclaw.nd))
    (dss_one (ds_if (dt_not (dt_val (de_callB (cd_all rfl) T.z_all bf_all (da_cons (de_lc mkaL [("_law_shape", 10), ("_law_twin", 11)] rfl sclaw.nd (di_zip T.z_zip (da_cons (de_var 6) (da_cons (de_var 9) da_nil))) (blkOk_by (own := [("_law_shape", 10), ("_law_twin", 11)]) (N := ["_law_script", "_law_k", "_law_pot_here", "_law_row_here", "_law_at", "_law_heap_here", "_law_some", "_law_turn", "_law_beside", "_law_twins", "_law_shape", "_law_twin"]) (sc := defScope slaw) (by decide +kernel)) (fun _ _ _ _ _ => dg_tup rfl (dgs_cons (dg_name (ws := [10, 11]) 10 sclaw.nd) (dgs_cons (dg_name (ws := [10, 11]) 11 sclaw.nd) dgs_nil))) (fun _ _ _ _ _ => dts_nil) (fun _ _ _ _ _ => de_call (ok_law_alike T) cg.gd (cg.room.mono (by decide)) takes0 T.g_law_alike T.F_law_alike.kp (bi_law_alike T) (da_cons (de_var 10) (da_cons (de_var 11) (da_cons de_bl da_nil))) (hlen := (alen_cons ((alen_cons ((alen_cons (fun _ _ _ _ => alen_nil))))))))) da_nil)))) (dss_one (ds_ret de_bl)) dss_nil)))))))))
    (dss_one (ds_ret de_bl))
end
theorem all_mk {l : PySem.W.OpenLaw} {w : World} {K : PySem.W.Frag} {h : Heap} {mg : Str → Option Value} {fa : Addr} (X : K.In h) (Gn : h.Ns mainGlobals mg) (hfa : mg "law" = some (.ref fa))
    {C21 : Addr}
    (gc21 : PySem.W.nsIn K mainGlobals "Shape" = some (some (.ref C21)))
    {C22 : Addr}
    (gc22 : PySem.W.nsIn K mainGlobals "Round" = some (some (.ref C22)))
    {C23 : Addr}
    (gc23 : PySem.W.nsIn K mainGlobals "Row" = some (some (.ref C23)))
    {f0 : Addr} {od0 an0 : Option Addr} {sl0 : Array (Option Value)} {oc0 dc0 pm0 cd0 ct0 : Value} {kV0 : Value}
    (a0 : PySem.W.findIn K (.ref C22) "names" = some (some (.ref f0)))
    (l0 : K.lookup f0 = some ⟨oc0, od0, .func (PySem.W.fnOf "names" "Shape.names" (defArgs sShape_names) (defBody sShape_names) (defScope sShape_names) .none kV0 dc0 pm0 an0 cd0 ct0), sl0⟩)
    (c0 : PySem.W.codeIn K cd0 "Shape.names" = true)
    (k0 : PySem.W.keepIn K (.ref f0) = true)
    {f1 : Addr} {od1 an1 : Option Addr} {sl1 : Array (Option Value)} {oc1 dc1 pm1 cd1 ct1 : Value} {kV1 : Value}
    (a1 : PySem.W.findIn K (.ref C22) "has" = some (some (.ref f1)))
    (l1 : K.lookup f1 = some ⟨oc1, od1, .func (PySem.W.fnOf "has" "Shape.has" (defArgs sShape_has) (defBody sShape_has) (defScope sShape_has) .none kV1 dc1 pm1 an1 cd1 ct1), sl1⟩)
    (c1 : PySem.W.codeIn K cd1 "Shape.has" = true)
    (k1 : PySem.W.keepIn K (.ref f1) = true)
    {f2 : Addr} {od2 an2 : Option Addr} {sl2 : Array (Option Value)} {oc2 dc2 pm2 cd2 ct2 : Value} {kV2 : Value}
    (a2 : PySem.W.findIn K (.ref C22) "place" = some (some (.ref f2)))
    (l2 : K.lookup f2 = some ⟨oc2, od2, .func (PySem.W.fnOf "place" "Shape.place" (defArgs sShape_place) (defBody sShape_place) (defScope sShape_place) .none kV2 dc2 pm2 an2 cd2 ct2), sl2⟩)
    (c2 : PySem.W.codeIn K cd2 "Shape.place" = true)
    (k2 : PySem.W.keepIn K (.ref f2) = true)
    {f3 : Addr} {od3 an3 : Option Addr} {sl3 : Array (Option Value)} {oc3 dc3 pm3 cd3 ct3 : Value} {kD3 : Addr}
    (a3 : PySem.W.findIn K (.ref C22) "jars" = some (some (.ref f3)))
    (l3 : K.lookup f3 = some ⟨oc3, od3, .func (PySem.W.fnOf "jars" "Round.jars" (defArgs sRound_jars) (defBody sRound_jars) (defScope sRound_jars) .none (.ref kD3) dc3 pm3 an3 cd3 ct3), sl3⟩)
    (c3 : PySem.W.codeIn K cd3 "Round.jars" = true)
    (k3 : PySem.W.keepIn K (.ref f3) = true)
    (d3_0 : PySem.W.nsIn K kD3 "start" = some (some .none))
    {f4 : Addr} {od4 an4 : Option Addr} {sl4 : Array (Option Value)} {oc4 dc4 pm4 cd4 ct4 : Value} {kV4 : Value}
    (a4 : PySem.W.nsIn K mainGlobals "is_whole" = some (some (.ref f4)))
    (l4 : K.lookup f4 = some ⟨oc4, od4, .func (PySem.W.fnOf "is_whole" "is_whole" (defArgs sis_whole) (defBody sis_whole) (defScope sis_whole) .none kV4 dc4 pm4 an4 cd4 ct4), sl4⟩)
    (c4 : PySem.W.codeIn K cd4 "is_whole" = true)
    (k4 : PySem.W.keepIn K (.ref f4) = true)
    {f5 : Addr} {od5 an5 : Option Addr} {sl5 : Array (Option Value)} {oc5 dc5 pm5 cd5 ct5 : Value} {kV5 : Value}
    (a5 : PySem.W.nsIn K mainGlobals "is_base" = some (some (.ref f5)))
    (l5 : K.lookup f5 = some ⟨oc5, od5, .func (PySem.W.fnOf "is_base" "is_base" (defArgs sis_base) (defBody sis_base) (defScope sis_base) .none kV5 dc5 pm5 an5 cd5 ct5), sl5⟩)
    (c5 : PySem.W.codeIn K cd5 "is_base" = true)
    (k5 : PySem.W.keepIn K (.ref f5) = true)
    {f6 : Addr} {od6 an6 : Option Addr} {sl6 : Array (Option Value)} {oc6 dc6 pm6 cd6 ct6 : Value} {kV6 : Value}
    (a6 : PySem.W.nsIn K mainGlobals "is_grains" = some (some (.ref f6)))
    (l6 : K.lookup f6 = some ⟨oc6, od6, .func (PySem.W.fnOf "is_grains" "is_grains" (defArgs sis_grains) (defBody sis_grains) (defScope sis_grains) .none kV6 dc6 pm6 an6 cd6 ct6), sl6⟩)
    (c6 : PySem.W.codeIn K cd6 "is_grains" = true)
    (k6 : PySem.W.keepIn K (.ref f6) = true)
    {f7 : Addr} {od7 an7 : Option Addr} {sl7 : Array (Option Value)} {oc7 dc7 pm7 cd7 ct7 : Value} {kV7 : Value}
    (a7 : PySem.W.nsIn K mainGlobals "is_name" = some (some (.ref f7)))
    (l7 : K.lookup f7 = some ⟨oc7, od7, .func (PySem.W.fnOf "is_name" "is_name" (defArgs sis_name) (defBody sis_name) (defScope sis_name) .none kV7 dc7 pm7 an7 cd7 ct7), sl7⟩)
    (c7 : PySem.W.codeIn K cd7 "is_name" = true)
    (k7 : PySem.W.keepIn K (.ref f7) = true)
    {f8 : Addr} {od8 an8 : Option Addr} {sl8 : Array (Option Value)} {oc8 dc8 pm8 cd8 ct8 : Value} {kV8 : Value}
    (a8 : PySem.W.nsIn K mainGlobals "is_jar" = some (some (.ref f8)))
    (l8 : K.lookup f8 = some ⟨oc8, od8, .func (PySem.W.fnOf "is_jar" "is_jar" (defArgs sis_jar) (defBody sis_jar) (defScope sis_jar) .none kV8 dc8 pm8 an8 cd8 ct8), sl8⟩)
    (c8 : PySem.W.codeIn K cd8 "is_jar" = true)
    (k8 : PySem.W.keepIn K (.ref f8) = true)
    {f9 : Addr} {od9 an9 : Option Addr} {sl9 : Array (Option Value)} {oc9 dc9 pm9 cd9 ct9 : Value} {kV9 : Value}
    (a9 : PySem.W.nsIn K mainGlobals "want_jars" = some (some (.ref f9)))
    (l9 : K.lookup f9 = some ⟨oc9, od9, .func (PySem.W.fnOf "want_jars" "want_jars" (defArgs swant_jars) (defBody swant_jars) (defScope swant_jars) .none kV9 dc9 pm9 an9 cd9 ct9), sl9⟩)
    (c9 : PySem.W.codeIn K cd9 "want_jars" = true)
    (k9 : PySem.W.keepIn K (.ref f9) = true)
    {f10 : Addr} {od10 an10 : Option Addr} {sl10 : Array (Option Value)} {oc10 dc10 pm10 cd10 ct10 : Value} {kV10 : Value}
    (a10 : PySem.W.findCls K (.ref C21) (.type "type") "__init__" = some (.val (.ref f10)))
    (l10 : K.lookup f10 = some ⟨oc10, od10, .func (PySem.W.fnOf "__init__" "Shape.__init__" (defArgs sShape_init) (defBody sShape_init) (defScope sShape_init) .none kV10 dc10 pm10 an10 cd10 ct10), sl10⟩)
    (c10 : PySem.W.codeIn K cd10 "Shape.__init__" = true)
    (k10 : PySem.W.keepIn K (.ref f10) = true)
    {f11 : Addr} {od11 an11 : Option Addr} {sl11 : Array (Option Value)} {oc11 dc11 pm11 cd11 ct11 : Value} {kV11 : Value}
    (a11 : PySem.W.findIn K (.ref C22) "__init__" = some (some (.ref f11)))
    (l11 : K.lookup f11 = some ⟨oc11, od11, .func (PySem.W.fnOf "__init__" "Round.__init__" (defArgs sRound_init) (defBody sRound_init) (defScope sRound_init) .none kV11 dc11 pm11 an11 cd11 ct11), sl11⟩)
    (c11 : PySem.W.codeIn K cd11 "Round.__init__" = true)
    (k11 : PySem.W.keepIn K (.ref f11) = true)
    {f12 : Addr} {od12 an12 : Option Addr} {sl12 : Array (Option Value)} {oc12 dc12 pm12 cd12 ct12 : Value} {kD12 : Addr}
    (a12 : PySem.W.findIn K (.ref C23) "__init__" = some (some (.ref f12)))
    (l12 : K.lookup f12 = some ⟨oc12, od12, .func (PySem.W.fnOf "__init__" "Row.__init__" (defArgs sRow_init) (defBody sRow_init) (defScope sRow_init) .none (.ref kD12) dc12 pm12 an12 cd12 ct12), sl12⟩)
    (c12 : PySem.W.codeIn K cd12 "Row.__init__" = true)
    (k12 : PySem.W.keepIn K (.ref f12) = true)
    {dt12_0 : Tok}
    (d12_0 : PySem.W.nsIn K kD12 "tray" = some (some (.int 0 dt12_0)))
    {f13 : Addr} {od13 an13 : Option Addr} {sl13 : Array (Option Value)} {oc13 dc13 pm13 cd13 ct13 : Value} {kV13 : Value}
    (a13 : PySem.W.findIn K (.ref C23) "jars" = some (some (.ref f13)))
    (l13 : K.lookup f13 = some ⟨oc13, od13, .func (PySem.W.fnOf "jars" "Shape.jars" (defArgs sShape_jars) (defBody sShape_jars) (defScope sShape_jars) .none kV13 dc13 pm13 an13 cd13 ct13), sl13⟩)
    (c13 : PySem.W.codeIn K cd13 "Shape.jars" = true)
    (k13 : PySem.W.keepIn K (.ref f13) = true)
    {f14 : Addr} {od14 an14 : Option Addr} {sl14 : Array (Option Value)} {oc14 dc14 pm14 cd14 ct14 : Value} {kV14 : Value}
    (a14 : PySem.W.findIn K (.ref C22) "__eq__" = some (some (.ref f14)))
    (l14 : K.lookup f14 = some ⟨oc14, od14, .func (PySem.W.fnOf "__eq__" "Round.__eq__" (defArgs sRound_eq) (defBody sRound_eq) (defScope sRound_eq) .none kV14 dc14 pm14 an14 cd14 ct14), sl14⟩)
    (c14 : PySem.W.codeIn K cd14 "Round.__eq__" = true)
    (k14 : PySem.W.keepIn K (.ref f14) = true)
    {f15 : Addr} {od15 an15 : Option Addr} {sl15 : Array (Option Value)} {oc15 dc15 pm15 cd15 ct15 : Value} {kV15 : Value}
    (a15 : PySem.W.findIn K (.ref C23) "tray" = some (some (.ref f15)))
    (l15 : K.lookup f15 = some ⟨oc15, od15, .func (PySem.W.fnOf "tray" "Row.tray" (defArgs sRow_tray) (defBody sRow_tray) (defScope sRow_tray) .none kV15 dc15 pm15 an15 cd15 ct15), sl15⟩)
    (c15 : PySem.W.codeIn K cd15 "Row.tray" = true)
    (k15 : PySem.W.keepIn K (.ref f15) = true)
    {f16 : Addr} {od16 an16 : Option Addr} {sl16 : Array (Option Value)} {oc16 dc16 pm16 cd16 ct16 : Value} {kV16 : Value}
    (a16 : PySem.W.findIn K (.ref C23) "__eq__" = some (some (.ref f16)))
    (l16 : K.lookup f16 = some ⟨oc16, od16, .func (PySem.W.fnOf "__eq__" "Row.__eq__" (defArgs sRow_eq) (defBody sRow_eq) (defScope sRow_eq) .none kV16 dc16 pm16 an16 cd16 ct16), sl16⟩)
    (c16 : PySem.W.codeIn K cd16 "Row.__eq__" = true)
    (k16 : PySem.W.keepIn K (.ref f16) = true)
    {f17 : Addr} {od17 an17 : Option Addr} {sl17 : Array (Option Value)} {oc17 dc17 pm17 cd17 ct17 : Value} {kV17 : Value}
    (a17 : PySem.W.nsIn K mainGlobals "_law_alike" = some (some (.ref f17)))
    (l17 : K.lookup f17 = some ⟨oc17, od17, .func (PySem.W.fnOf "_law_alike" "_law_alike" (defArgs s_law_alike) (defBody s_law_alike) (defScope s_law_alike) .none kV17 dc17 pm17 an17 cd17 ct17), sl17⟩)
    (c17 : PySem.W.codeIn K cd17 "_law_alike" = true)
    (k17 : PySem.W.keepIn K (.ref f17) = true)
    {f18 : Addr} {od18 an18 : Option Addr} {sl18 : Array (Option Value)} {oc18 dc18 pm18 cd18 ct18 : Value} {kV18 : Value}
    (a18 : PySem.W.findIn K (.ref C22) "__repr__" = some (some (.ref f18)))
    (l18 : K.lookup f18 = some ⟨oc18, od18, .func (PySem.W.fnOf "__repr__" "Round.__repr__" (defArgs sRound_repr) (defBody sRound_repr) (defScope sRound_repr) .none kV18 dc18 pm18 an18 cd18 ct18), sl18⟩)
    (c18 : PySem.W.codeIn K cd18 "Round.__repr__" = true)
    (k18 : PySem.W.keepIn K (.ref f18) = true)
    {f19 : Addr} {od19 an19 : Option Addr} {sl19 : Array (Option Value)} {oc19 dc19 pm19 cd19 ct19 : Value} {kV19 : Value}
    (a19 : PySem.W.nsIn K mainGlobals "jar_text" = some (some (.ref f19)))
    (l19 : K.lookup f19 = some ⟨oc19, od19, .func (PySem.W.fnOf "jar_text" "jar_text" (defArgs sjar_text) (defBody sjar_text) (defScope sjar_text) .none kV19 dc19 pm19 an19 cd19 ct19), sl19⟩)
    (c19 : PySem.W.codeIn K cd19 "jar_text" = true)
    (k19 : PySem.W.keepIn K (.ref f19) = true)
    {f20 : Addr} {od20 an20 : Option Addr} {sl20 : Array (Option Value)} {oc20 dc20 pm20 cd20 ct20 : Value} {kV20 : Value}
    (a20 : PySem.W.findIn K (.ref C22) "jars_text" = some (some (.ref f20)))
    (l20 : K.lookup f20 = some ⟨oc20, od20, .func (PySem.W.fnOf "jars_text" "Shape.jars_text" (defArgs sShape_jars_text) (defBody sShape_jars_text) (defScope sShape_jars_text) .none kV20 dc20 pm20 an20 cd20 ct20), sl20⟩)
    (c20 : PySem.W.codeIn K cd20 "Shape.jars_text" = true)
    (k20 : PySem.W.keepIn K (.ref f20) = true)
    {f21 : Addr} {od21 an21 : Option Addr} {sl21 : Array (Option Value)} {oc21 dc21 pm21 cd21 ct21 : Value} {kV21 : Value}
    (a21 : PySem.W.findIn K (.ref C22) "__str__" = some (some (.ref f21)))
    (l21 : K.lookup f21 = some ⟨oc21, od21, .func (PySem.W.fnOf "__str__" "Round.__str__" (defArgs sRound_str) (defBody sRound_str) (defScope sRound_str) .none kV21 dc21 pm21 an21 cd21 ct21), sl21⟩)
    (c21 : PySem.W.codeIn K cd21 "Round.__str__" = true)
    (k21 : PySem.W.keepIn K (.ref f21) = true)
    {f22 : Addr} {od22 an22 : Option Addr} {sl22 : Array (Option Value)} {oc22 dc22 pm22 cd22 ct22 : Value} {kV22 : Value}
    (a22 : PySem.W.findIn K (.ref C23) "__repr__" = some (some (.ref f22)))
    (l22 : K.lookup f22 = some ⟨oc22, od22, .func (PySem.W.fnOf "__repr__" "Row.__repr__" (defArgs sRow_repr) (defBody sRow_repr) (defScope sRow_repr) .none kV22 dc22 pm22 an22 cd22 ct22), sl22⟩)
    (c22 : PySem.W.codeIn K cd22 "Row.__repr__" = true)
    (k22 : PySem.W.keepIn K (.ref f22) = true)
    {f23 : Addr} {od23 an23 : Option Addr} {sl23 : Array (Option Value)} {oc23 dc23 pm23 cd23 ct23 : Value} {kV23 : Value}
    (a23 : PySem.W.findIn K (.ref C23) "__str__" = some (some (.ref f23)))
    (l23 : K.lookup f23 = some ⟨oc23, od23, .func (PySem.W.fnOf "__str__" "Row.__str__" (defArgs sRow_str) (defBody sRow_str) (defScope sRow_str) .none kV23 dc23 pm23 an23 cd23 ct23), sl23⟩)
    (c23 : PySem.W.codeIn K cd23 "Row.__str__" = true)
    (k23 : PySem.W.keepIn K (.ref f23) = true)
    {f24 : Addr} {od24 an24 : Option Addr} {sl24 : Array (Option Value)} {oc24 dc24 pm24 cd24 ct24 : Value} {kV24 : Value}
    (a24 : PySem.W.nsIn K mainGlobals "_law_turned" = some (some (.ref f24)))
    (l24 : K.lookup f24 = some ⟨oc24, od24, .func (PySem.W.fnOf "_law_turned" "_law_turned" (defArgs s_law_turned) (defBody s_law_turned) (defScope s_law_turned) .none kV24 dc24 pm24 an24 cd24 ct24), sl24⟩)
    (c24 : PySem.W.codeIn K cd24 "_law_turned" = true)
    (k24 : PySem.W.keepIn K (.ref f24) = true)
    {f25 : Addr} {od25 an25 : Option Addr} {sl25 : Array (Option Value)} {oc25 dc25 pm25 cd25 ct25 : Value} {kV25 : Value}
    (a25 : PySem.W.nsIn K mainGlobals "_law_are_alike" = some (some (.ref f25)))
    (l25 : K.lookup f25 = some ⟨oc25, od25, .func (PySem.W.fnOf "_law_are_alike" "_law_are_alike" (defArgs s_law_are_alike) (defBody s_law_are_alike) (defScope s_law_are_alike) .none kV25 dc25 pm25 an25 cd25 ct25), sl25⟩)
    (c25 : PySem.W.codeIn K cd25 "_law_are_alike" = true)
    (k25 : PySem.W.keepIn K (.ref f25) = true)
    {f26 : Addr} {od26 an26 : Option Addr} {sl26 : Array (Option Value)} {oc26 dc26 pm26 cd26 ct26 : Value} {kV26 : Value}
    (a26 : PySem.W.nsIn K mainGlobals "_law_figures" = some (some (.ref f26)))
    (l26 : K.lookup f26 = some ⟨oc26, od26, .func (PySem.W.fnOf "_law_figures" "_law_figures" (defArgs s_law_figures) (defBody s_law_figures) (defScope s_law_figures) .none kV26 dc26 pm26 an26 cd26 ct26), sl26⟩)
    (c26 : PySem.W.codeIn K cd26 "_law_figures" = true)
    (k26 : PySem.W.keepIn K (.ref f26) = true)
    {f27 : Addr} {od27 an27 : Option Addr} {sl27 : Array (Option Value)} {oc27 dc27 pm27 cd27 ct27 : Value} {kV27 : Value}
    (a27 : PySem.W.nsIn K mainGlobals "_law_words" = some (some (.ref f27)))
    (l27 : K.lookup f27 = some ⟨oc27, od27, .func (PySem.W.fnOf "_law_words" "_law_words" (defArgs s_law_words) (defBody s_law_words) (defScope s_law_words) .none kV27 dc27 pm27 an27 cd27 ct27), sl27⟩)
    (c27 : PySem.W.codeIn K cd27 "_law_words" = true)
    (k27 : PySem.W.keepIn K (.ref f27) = true)
    {f28 : Addr} {od28 an28 : Option Addr} {sl28 : Array (Option Value)} {oc28 dc28 pm28 cd28 ct28 : Value} {kV28 : Value}
    (a28 : PySem.W.nsIn K mainGlobals "_law_are_shown" = some (some (.ref f28)))
    (l28 : K.lookup f28 = some ⟨oc28, od28, .func (PySem.W.fnOf "_law_are_shown" "_law_are_shown" (defArgs s_law_are_shown) (defBody s_law_are_shown) (defScope s_law_are_shown) .none kV28 dc28 pm28 an28 cd28 ct28), sl28⟩)
    (c28 : PySem.W.codeIn K cd28 "_law_are_shown" = true)
    (k28 : PySem.W.keepIn K (.ref f28) = true)
    {f29 : Addr} {od29 an29 : Option Addr} {sl29 : Array (Option Value)} {oc29 dc29 pm29 cd29 ct29 : Value} {kV29 : Value}
    (a29 : PySem.W.nsIn K mainGlobals "_law_take" = some (some (.ref f29)))
    (l29 : K.lookup f29 = some ⟨oc29, od29, .func (PySem.W.fnOf "_law_take" "_law_take" (defArgs s_law_take) (defBody s_law_take) (defScope s_law_take) .none kV29 dc29 pm29 an29 cd29 ct29), sl29⟩)
    (c29 : PySem.W.codeIn K cd29 "_law_take" = true)
    (k29 : PySem.W.keepIn K (.ref f29) = true)
    {f30 : Addr} {od30 an30 : Option Addr} {sl30 : Array (Option Value)} {oc30 dc30 pm30 cd30 ct30 : Value} {kV30 : Value}
    (a30 : PySem.W.nsIn K mainGlobals "_law_among" = some (some (.ref f30)))
    (l30 : K.lookup f30 = some ⟨oc30, od30, .func (PySem.W.fnOf "_law_among" "_law_among" (defArgs s_law_among) (defBody s_law_among) (defScope s_law_among) .none kV30 dc30 pm30 an30 cd30 ct30), sl30⟩)
    (c30 : PySem.W.codeIn K cd30 "_law_among" = true)
    (k30 : PySem.W.keepIn K (.ref f30) = true)
    {f31 : Addr} {od31 an31 : Option Addr} {sl31 : Array (Option Value)} {oc31 dc31 pm31 cd31 ct31 : Value} {kV31 : Value}
    (a31 : PySem.W.nsIn K mainGlobals "_law_heap" = some (some (.ref f31)))
    (l31 : K.lookup f31 = some ⟨oc31, od31, .func (PySem.W.fnOf "_law_heap" "_law_heap" (defArgs s_law_heap) (defBody s_law_heap) (defScope s_law_heap) .none kV31 dc31 pm31 an31 cd31 ct31), sl31⟩)
    (c31 : PySem.W.codeIn K cd31 "_law_heap" = true)
    (k31 : PySem.W.keepIn K (.ref f31) = true)
    {f32 : Addr} {od32 an32 : Option Addr} {sl32 : Array (Option Value)} {oc32 dc32 pm32 cd32 ct32 : Value} {kV32 : Value}
    (a32 : PySem.W.nsIn K mainGlobals "_law_label" = some (some (.ref f32)))
    (l32 : K.lookup f32 = some ⟨oc32, od32, .func (PySem.W.fnOf "_law_label" "_law_label" (defArgs s_law_label) (defBody s_law_label) (defScope s_law_label) .none kV32 dc32 pm32 an32 cd32 ct32), sl32⟩)
    (c32 : PySem.W.codeIn K cd32 "_law_label" = true)
    (k32 : PySem.W.keepIn K (.ref f32) = true)
    {f33 : Addr} {od33 an33 : Option Addr} {sl33 : Array (Option Value)} {oc33 dc33 pm33 cd33 ct33 : Value} {kV33 : Value}
    (a33 : PySem.W.nsIn K mainGlobals "_law_otherwise" = some (some (.ref f33)))
    (l33 : K.lookup f33 = some ⟨oc33, od33, .func (PySem.W.fnOf "_law_otherwise" "_law_otherwise" (defArgs s_law_otherwise) (defBody s_law_otherwise) (defScope s_law_otherwise) .none kV33 dc33 pm33 an33 cd33 ct33), sl33⟩)
    (c33 : PySem.W.codeIn K cd33 "_law_otherwise" = true)
    (k33 : PySem.W.keepIn K (.ref f33) = true)
    {f34 : Addr} {od34 an34 : Option Addr} {sl34 : Array (Option Value)} {oc34 dc34 pm34 cd34 ct34 : Value} {kV34 : Value}
    (a34 : PySem.W.nsIn K mainGlobals "_law_pot" = some (some (.ref f34)))
    (l34 : K.lookup f34 = some ⟨oc34, od34, .func (PySem.W.fnOf "_law_pot" "_law_pot" (defArgs s_law_pot_C) (defBody s_law_pot_C) (defScope s_law_pot_C) .none kV34 dc34 pm34 an34 cd34 ct34), sl34⟩)
    (c34 : PySem.W.codeIn K cd34 "_law_pot" = true)
    (k34 : PySem.W.keepIn K (.ref f34) = true)
    {f35 : Addr} {od35 an35 : Option Addr} {sl35 : Array (Option Value)} {oc35 dc35 pm35 cd35 ct35 : Value} {kV35 : Value}
    (a35 : PySem.W.nsIn K mainGlobals "_law_size" = some (some (.ref f35)))
    (l35 : K.lookup f35 = some ⟨oc35, od35, .func (PySem.W.fnOf "_law_size" "_law_size" (defArgs s_law_size) (defBody s_law_size) (defScope s_law_size) .none kV35 dc35 pm35 an35 cd35 ct35), sl35⟩)
    (c35 : PySem.W.codeIn K cd35 "_law_size" = true)
    (k35 : PySem.W.keepIn K (.ref f35) = true)
    {f36 : Addr} {od36 an36 : Option Addr} {sl36 : Array (Option Value)} {oc36 dc36 pm36 cd36 ct36 : Value} {kV36 : Value}
    (a36 : PySem.W.nsIn K mainGlobals "_law_row" = some (some (.ref f36)))
    (l36 : K.lookup f36 = some ⟨oc36, od36, .func (PySem.W.fnOf "_law_row" "_law_row" (defArgs s_law_row) (defBody s_law_row) (defScope s_law_row) .none kV36 dc36 pm36 an36 cd36 ct36), sl36⟩)
    (c36 : PySem.W.codeIn K cd36 "_law_row" = true)
    (k36 : PySem.W.keepIn K (.ref f36) = true)
    {f37 : Addr} {od37 an37 : Option Addr} {sl37 : Array (Option Value)} {oc37 dc37 pm37 cd37 ct37 : Value} {kV37 : Value}
    (a37 : PySem.W.nsIn K mainGlobals "law" = some (some (.ref f37)))
    (l37 : K.lookup f37 = some ⟨oc37, od37, .func (PySem.W.fnOf "law" "law" (defArgs slaw) (defBody slaw) (defScope slaw) .none kV37 dc37 pm37 an37 cd37 ct37), sl37⟩)
    (c37 : PySem.W.codeIn K cd37 "law" = true)
    (k37 : PySem.W.keepIn K (.ref f37) = true)
    (pg22 : PySem.W.plainGet K C22 Str.empty = true)
    (hd22 : PySem.W.hasDictIn K C22 = true)
    (po22 : PySem.W.plainOver K C22 = true)
    (sa22 : PySem.W.findIn K (.ref C22) "__setattr__" = some (some (.builtin "object.__setattr__")))
    (pg23 : PySem.W.plainGet K C23 Str.empty = true)
    (hd23 : PySem.W.hasDictIn K C23 = true)
    (po23 : PySem.W.plainOver K C23 = true)
    (sa23 : PySem.W.findIn K (.ref C23) "__setattr__" = some (some (.builtin "object.__setattr__")))
    (na22_own_jars : PySem.W.findIn K (.ref C22) "own_jars" = some none)
    (na23_own_jars : PySem.W.findIn K (.ref C23) "own_jars" = some none)
    (na23_own_tray : PySem.W.findIn K (.ref C23) "own_tray" = some none)
    (fn14 : PySem.W.isFn K (.ref f14) = true)
    (fn11 : PySem.W.isFn K (.ref f11) = true)
    (fn18 : PySem.W.isFn K (.ref f18) = true)
    (fn21 : PySem.W.isFn K (.ref f21) = true)
    (fn1 : PySem.W.isFn K (.ref f1) = true)
    (fn3 : PySem.W.isFn K (.ref f3) = true)
    (fn20 : PySem.W.isFn K (.ref f20) = true)
    (fn0 : PySem.W.isFn K (.ref f0) = true)
    (fn2 : PySem.W.isFn K (.ref f2) = true)
    (fn16 : PySem.W.isFn K (.ref f16) = true)
    (fn12 : PySem.W.isFn K (.ref f12) = true)
    (fn22 : PySem.W.isFn K (.ref f22) = true)
    (fn23 : PySem.W.isFn K (.ref f23) = true)
    (me23_has : PySem.W.findIn K (.ref C23) "has" = some (some (.ref f1)))
    (fn13 : PySem.W.isFn K (.ref f13) = true)
    (me23_jars_text : PySem.W.findIn K (.ref C23) "jars_text" = some (some (.ref f20)))
    (me23_names : PySem.W.findIn K (.ref C23) "names" = some (some (.ref f0)))
    (fn15 : PySem.W.isFn K (.ref f15) = true)
    (mk22 : PySem.W.makesIn K C22 = true)
    (kc22 : PySem.W.keepIn K (.ref C22) = true)
    (mk23 : PySem.W.makesIn K C23 = true)
    (kc23 : PySem.W.keepIn K (.ref C23) = true)
    (rs21 : PySem.W.readsIn K C21 (.type "type") = true)
    (ga21 : PySem.W.specialIn K (.ref C21) "__getattribute__" = some (some (.builtin "type.__getattribute__")))
    (nea22 : PySem.W.findIn K (.ref C22) "__ne__" = some (some (.builtin "object.__ne__")))
    (neb22 : PySem.W.subIn K (.ref C22) (.type "object") = some true)
    (nea23 : PySem.W.findIn K (.ref C23) "__ne__" = some (some (.builtin "object.__ne__")))
    (neb23 : PySem.W.subIn K (.ref C23) (.type "object") = some true)
    (icn : PySem.W.specialIn K (.builtin "object.__class__") "__get__" = some (some (.builtin "getset_descriptor.__get__")))
    (ict : PySem.W.takesIn K (.builtin "object.__class__") = some true)
    (ica22 : PySem.W.findIn K (.ref C22) "__class__" = some (some (.builtin "object.__class__")))
    (icm22 : PySem.W.mroIn K C22 (.type "object") = some true)
    (ica23 : PySem.W.findIn K (.ref C23) "__class__" = some (some (.builtin "object.__class__")))
    (icm23 : PySem.W.mroIn K C23 (.type "object") = some true)
    (ik1_22 : PySem.W.isClsIn K C22 = true)
    (ik2_22 : PySem.W.typeIn K (.ref C22) = some (.type "type"))
    (iks_22 : PySem.W.subIn K (.ref C22) (.ref C22) = some true)
    (it22_0 : PySem.W.subIn K (.type "NoneType") (.ref C22) = some false)
    (it22_1 : PySem.W.subIn K (.type "bool") (.ref C22) = some false)
    (it22_2 : PySem.W.subIn K (.type "int") (.ref C22) = some false)
    (it22_3 : PySem.W.subIn K (.type "str") (.ref C22) = some false)
    (it22_4 : PySem.W.subIn K (.type "list") (.ref C22) = some false)
    (it22_5 : PySem.W.subIn K (.type "tuple") (.ref C22) = some false)
    (it22_6 : PySem.W.subIn K (.type "dict") (.ref C22) = some false)
    (ic22_22 : PySem.W.subIn K (.ref C22) (.ref C22) = some true)
    (ic22_23 : PySem.W.subIn K (.ref C23) (.ref C22) = some false)
    (ik1_23 : PySem.W.isClsIn K C23 = true)
    (ik2_23 : PySem.W.typeIn K (.ref C23) = some (.type "type"))
    (iks_23 : PySem.W.subIn K (.ref C23) (.ref C23) = some true)
    (it23_0 : PySem.W.subIn K (.type "NoneType") (.ref C23) = some false)
    (it23_1 : PySem.W.subIn K (.type "bool") (.ref C23) = some false)
    (it23_2 : PySem.W.subIn K (.type "int") (.ref C23) = some false)
    (it23_3 : PySem.W.subIn K (.type "str") (.ref C23) = some false)
    (it23_4 : PySem.W.subIn K (.type "list") (.ref C23) = some false)
    (it23_5 : PySem.W.subIn K (.type "tuple") (.ref C23) = some false)
    (it23_6 : PySem.W.subIn K (.type "dict") (.ref C23) = some false)
    (ic23_22 : PySem.W.subIn K (.ref C22) (.ref C23) = some false)
    (ic23_23 : PySem.W.subIn K (.ref C23) (.ref C23) = some true)
    (mi22_0 : PySem.W.subIn K (.ref C22) (.type "NoneType") = some false)
    (mi22_1 : PySem.W.subIn K (.ref C22) (.type "bool") = some false)
    (mi22_2 : PySem.W.subIn K (.ref C22) (.type "int") = some false)
    (mi22_3 : PySem.W.subIn K (.ref C22) (.type "str") = some false)
    (mi22_4 : PySem.W.subIn K (.ref C22) (.type "list") = some false)
    (mi22_5 : PySem.W.subIn K (.ref C22) (.type "tuple") = some false)
    (mi22_6 : PySem.W.subIn K (.ref C22) (.type "dict") = some false)
    (mj22_0 : PySem.W.subIn K (.type "NoneType") (.ref C22) = some false)
    (mj22_1 : PySem.W.subIn K (.type "bool") (.ref C22) = some false)
    (mj22_2 : PySem.W.subIn K (.type "int") (.ref C22) = some false)
    (mj22_3 : PySem.W.subIn K (.type "str") (.ref C22) = some false)
    (mj22_4 : PySem.W.subIn K (.type "list") (.ref C22) = some false)
    (mj22_5 : PySem.W.subIn K (.type "tuple") (.ref C22) = some false)
    (mj22_6 : PySem.W.subIn K (.type "dict") (.ref C22) = some false)
    (mi23_0 : PySem.W.subIn K (.ref C23) (.type "NoneType") = some false)
    (mi23_1 : PySem.W.subIn K (.ref C23) (.type "bool") = some false)
    (mi23_2 : PySem.W.subIn K (.ref C23) (.type "int") = some false)
    (mi23_3 : PySem.W.subIn K (.ref C23) (.type "str") = some false)
    (mi23_4 : PySem.W.subIn K (.ref C23) (.type "list") = some false)
    (mi23_5 : PySem.W.subIn K (.ref C23) (.type "tuple") = some false)
    (mi23_6 : PySem.W.subIn K (.ref C23) (.type "dict") = some false)
    (mj23_0 : PySem.W.subIn K (.type "NoneType") (.ref C23) = some false)
    (mj23_1 : PySem.W.subIn K (.type "bool") (.ref C23) = some false)
    (mj23_2 : PySem.W.subIn K (.type "int") (.ref C23) = some false)
    (mj23_3 : PySem.W.subIn K (.type "str") (.ref C23) = some false)
    (mj23_4 : PySem.W.subIn K (.type "list") (.ref C23) = some false)
    (mj23_5 : PySem.W.subIn K (.type "tuple") (.ref C23) = some false)
    (mj23_6 : PySem.W.subIn K (.type "dict") (.ref C23) = some false)
    (mab : PySem.W.subIn K (.ref C23) (.ref C22) = some false)
    (mba : PySem.W.subIn K (.ref C22) (.ref C23) = some false)
    (z0 : PySem.W.nsIn K mainGlobals "abs" = some none)
    (z1 : PySem.W.nsIn K mainGlobals "all" = some none)
    (z2 : PySem.W.nsIn K mainGlobals "bool" = some none)
    (z3 : PySem.W.nsIn K mainGlobals "divmod" = some none)
    (z4 : PySem.W.nsIn K mainGlobals "enumerate" = some none)
    (z5 : PySem.W.nsIn K mainGlobals "int" = some none)
    (z6 : PySem.W.nsIn K mainGlobals "isinstance" = some none)
    (z7 : PySem.W.nsIn K mainGlobals "len" = some none)
    (z8 : PySem.W.nsIn K mainGlobals "list" = some none)
    (z9 : PySem.W.nsIn K mainGlobals "max" = some none)
    (z10 : PySem.W.nsIn K mainGlobals "min" = some none)
    (z11 : PySem.W.nsIn K mainGlobals "range" = some none)
    (z12 : PySem.W.nsIn K mainGlobals "repr" = some none)
    (z13 : PySem.W.nsIn K mainGlobals "str" = some none)
    (z14 : PySem.W.nsIn K mainGlobals "tuple" = some none)
    (z15 : PySem.W.nsIn K mainGlobals "zip" = some none)
    {t0 : Tok}
    (x0 : PySem.W.nsIn K mainGlobals "LEAST_BASE" = some (some (.int 2 t0)))
    {t1 : Tok}
    (x1 : PySem.W.nsIn K mainGlobals "LETTERS" = some (some (.str "abcdefghijklmnopqrstuvwxyz" t1)))
    {t2 : Tok}
    (x2 : PySem.W.nsIn K mainGlobals "MOST_BASE" = some (some (.int 1000000 t2)))
    {t3 : Tok}
    (x3 : PySem.W.nsIn K mainGlobals "MOST_JARS" = some (some (.int 12 t3)))
    {t4 : Tok}
    (x4 : PySem.W.nsIn K mainGlobals "MOST_LETTERS" = some (some (.int 8 t4)))
    : ∃ (G : Nat → Addr) (fd : FuncData), G 999 = 0 ∧ (∀ (s : Shared) (u : Value), BindsTo s fd ⟨[u], []⟩ [("_law_script", u)]) ∧ ∀ base : Heap, K.In base → base.Ns mainGlobals mg → FnG l.prog w K mg base G 9 fa fd ["_law_script"] Q.denlaw_37 := by
  have e : fa = f37 := by
    have q := Option.some.inj (hfa.symm.trans (PySem.W.mg_of X Gn a37))
    injection q
  have T : {T : Top K mg (fun i => match i with | 21 => C21 | 22 => C22 | 23 => C23 | _ => 0) // T.alaw = f37 ∧ T.dlaw = PySem.W.fnOf "law" "law" (defArgs slaw) (defBody slaw) (defScope slaw) .none kV37 dc37 pm37 an37 cd37 ct37} := ⟨⟨f0, _, (fun_mk (st := sShape_names) l0 c0 k0), f1, _, (fun_mk (st := sShape_has) l1 c1 k1), f2, _, (fun_mk (st := sShape_place) l2 c2 k2), f3, _, (fun_mk (st := sRound_jars) l3 c3 k3), (funD_mk (st := sRound_jars) l3 c3 k3 (fun q hq => by rw [List.mem_singleton.mp hq]; exact ⟨_, d3_0, rfl⟩)), f4, _, (fun_mk (st := sis_whole) l4 c4 k4), (PySem.W.mg_of X Gn a4), f5, _, (fun_mk (st := sis_base) l5 c5 k5), (PySem.W.mg_of X Gn a5), f6, _, (fun_mk (st := sis_grains) l6 c6 k6), (PySem.W.mg_of X Gn a6), f7, _, (fun_mk (st := sis_name) l7 c7 k7), (PySem.W.mg_of X Gn a7), f8, _, (fun_mk (st := sis_jar) l8 c8 k8), (PySem.W.mg_of X Gn a8), f9, _, (fun_mk (st := swant_jars) l9 c9 k9), (PySem.W.mg_of X Gn a9), f10, _, (fun_mk (st := sShape_init) l10 c10 k10), f11, _, (fun_mk (st := sRound_init) l11 c11 k11), f12, _, (fun_mk (st := sRow_init) l12 c12 k12), (funD_mk (st := sRow_init) l12 c12 k12 (fun q hq => by rw [List.mem_singleton.mp hq]; exact ⟨_, d12_0, ⟨_, rfl⟩⟩)), f13, _, (fun_mk (st := sShape_jars) l13 c13 k13), f14, _, (fun_mk (st := sRound_eq) l14 c14 k14), f15, _, (fun_mk (st := sRow_tray) l15 c15 k15), f16, _, (fun_mk (st := sRow_eq) l16 c16 k16), f17, _, (fun_mk (st := s_law_alike) l17 c17 k17), (PySem.W.mg_of X Gn a17), f18, _, (fun_mk (st := sRound_repr) l18 c18 k18), f19, _, (fun_mk (st := sjar_text) l19 c19 k19), (PySem.W.mg_of X Gn a19), f20, _, (fun_mk (st := sShape_jars_text) l20 c20 k20), f21, _, (fun_mk (st := sRound_str) l21 c21 k21), f22, _, (fun_mk (st := sRow_repr) l22 c22 k22), f23, _, (fun_mk (st := sRow_str) l23 c23 k23), f24, _, (fun_mk (st := s_law_turned) l24 c24 k24), (PySem.W.mg_of X Gn a24), f25, _, (fun_mk (st := s_law_are_alike) l25 c25 k25), (PySem.W.mg_of X Gn a25), f26, _, (fun_mk (st := s_law_figures) l26 c26 k26), (PySem.W.mg_of X Gn a26), f27, _, (fun_mk (st := s_law_words) l27 c27 k27), (PySem.W.mg_of X Gn a27), f28, _, (fun_mk (st := s_law_are_shown) l28 c28 k28), (PySem.W.mg_of X Gn a28), f29, _, (fun_mk (st := s_law_take) l29 c29 k29), (PySem.W.mg_of X Gn a29), f30, _, (fun_mk (st := s_law_among) l30 c30 k30), (PySem.W.mg_of X Gn a30), f31, _, (fun_mk (st := s_law_heap) l31 c31 k31), (PySem.W.mg_of X Gn a31), f32, _, (fun_mk (st := s_law_label) l32 c32 k32), (PySem.W.mg_of X Gn a32), f33, _, (fun_mk (st := s_law_otherwise) l33 c33 k33), (PySem.W.mg_of X Gn a33), f34, _, (fun_mk (st := s_law_pot_C) l34 c34 k34), (PySem.W.mg_of X Gn a34), f35, _, (fun_mk (st := s_law_size) l35 c35 k35), (PySem.W.mg_of X Gn a35), f36, _, (fun_mk (st := s_law_row) l36 c36 k36), (PySem.W.mg_of X Gn a36), f37, _, (fun_mk (st := slaw) l37 c37 k37), (PySem.W.mg_of X Gn a37), ⟨pg22, hd22, po22, sa22⟩, ⟨pg23, hd23, po23, sa23⟩, na22_own_jars, na23_own_jars, na23_own_tray, ⟨a14, fn14, k14⟩, ⟨a11, fn11, k11⟩, ⟨a18, fn18, k18⟩, ⟨a21, fn21, k21⟩, ⟨a1, fn1, k1⟩, ⟨a3, fn3, k3⟩, ⟨a20, fn20, k20⟩, ⟨a0, fn0, k0⟩, ⟨a2, fn2, k2⟩, ⟨a16, fn16, k16⟩, ⟨a12, fn12, k12⟩, ⟨a22, fn22, k22⟩, ⟨a23, fn23, k23⟩, ⟨me23_has, fn1, k1⟩, ⟨a13, fn13, k13⟩, ⟨me23_jars_text, fn20, k20⟩, ⟨me23_names, fn0, k0⟩, ⟨a15, fn15, k15⟩, (PySem.W.mg_of X Gn gc22), ⟨mk22, a11, fn11, kc22⟩, (PySem.W.mg_of X Gn gc23), ⟨mk23, a12, fn12, kc23⟩, (PySem.W.mg_of X Gn gc21), ⟨rs21, ga21⟩, a10, ⟨nea22, neb22⟩, ⟨nea23, neb23⟩, (isaC_mk ik1_22 ik2_22 iks_22 it22_0 it22_1 it22_2 it22_3 it22_4 it22_5 it22_6 (fun p hp => by simp only [List.mem_cons, List.not_mem_nil, or_false] at hp; rcases hp with rfl | rfl <;> first | exact ⟨ic22_22, ⟨pg22, hd22, po22, sa22⟩, ica22, icn, ict, icm22⟩ | exact ⟨ic22_23, ⟨pg23, hd23, po23, sa23⟩, ica23, icn, ict, icm23⟩)), (isaC_mk ik1_23 ik2_23 iks_23 it23_0 it23_1 it23_2 it23_3 it23_4 it23_5 it23_6 (fun p hp => by simp only [List.mem_cons, List.not_mem_nil, or_false] at hp; rcases hp with rfl | rfl <;> first | exact ⟨ic23_22, ⟨pg22, hd22, po22, sa22⟩, ica22, icn, ict, icm22⟩ | exact ⟨ic23_23, ⟨pg23, hd23, po23, sa23⟩, ica23, icn, ict, icm23⟩)), (mixAt_mk mi22_0 mi22_1 mi22_2 mi22_3 mi22_4 mi22_5 mi22_6 mj22_0 mj22_1 mj22_2 mj22_3 mj22_4 mj22_5 mj22_6), (mixAt_mk mi23_0 mi23_1 mi23_2 mi23_3 mi23_4 mi23_5 mi23_6 mj23_0 mj23_1 mj23_2 mj23_3 mj23_4 mj23_5 mj23_6), ⟨mab, mba⟩, (PySem.W.mg_none_of X Gn z0), (PySem.W.mg_none_of X Gn z1), (PySem.W.mg_none_of X Gn z2), (PySem.W.mg_none_of X Gn z3), (PySem.W.mg_none_of X Gn z4), (PySem.W.mg_none_of X Gn z5), (PySem.W.mg_none_of X Gn z6), (PySem.W.mg_none_of X Gn z7), (PySem.W.mg_none_of X Gn z8), (PySem.W.mg_none_of X Gn z9), (PySem.W.mg_none_of X Gn z10), (PySem.W.mg_none_of X Gn z11), (PySem.W.mg_none_of X Gn z12), (PySem.W.mg_none_of X Gn z13), (PySem.W.mg_none_of X Gn z14), (PySem.W.mg_none_of X Gn z15), ⟨_, PySem.W.mg_of X Gn x0, ⟨_, rfl⟩⟩, ⟨_, PySem.W.mg_of X Gn x1, ⟨_, rfl⟩⟩, ⟨_, PySem.W.mg_of X Gn x2, ⟨_, rfl⟩⟩, ⟨_, PySem.W.mg_of X Gn x3, ⟨_, rfl⟩⟩, ⟨_, PySem.W.mg_of X Gn x4, ⟨_, rfl⟩⟩⟩, rfl, rfl⟩
  obtain ⟨T, e1, e2⟩ := T
  exact ⟨(fun i => match i with | 21 => C21 | 22 => C22 | 23 => C23 | _ => 0), PySem.W.fnOf "law" "law" (defArgs slaw) (defBody slaw) (defScope slaw) .none kV37 dc37 pm37 an37 cd37 ct37, rfl, fun s v => .of_eq rfl, fun base _ _ => by rw [e, ← e1, ← e2]; exact oklaw T⟩
end K15

namespace Q
open PySem PySem.Spec PyProof.Rows L2 Den
section
variable {st : Store} {ts us : List J3} {C : Store} {p : Nat}
local macro_rules
  | `(tactic| simp! only [$xs,*]) => `(tactic| simp (disch := first | assumption | exact id rfl | omega | (simp only [List.length_map, List.length_append, List.length_cons, List.length_nil, List.length_set, List.length_replicate, List.length_take, List.length_drop, List.length_reverse] <;> omega) | (simp only [if_true, if_false, eq_self, Nat.reduceEqDiff]; done) | (simp only [lo_non, lo_bl, lo_int, lo_str, lo_lst, lo_tup, lo_ins, loS_nil, loS_cons, loF_nil, loF_cons, loC_lst, loC_ins, loS_app, ev_1, ev_2, ev_3, ev_4, ev_6, ev_7, ev_8, ev_9, ev_10, ev_13, ev_14, ev_15, ev_16, ev_17, ev_18, ev_26, ev_27, ev_30, ev_31, ev_32, ev_33, ev_34, ev_35, ev_44, ev_45, ev_46, ev_47, ev_48, ev_49, ev_50, ev_51, ev_57, ev_58, lo_jars, lo_strs, lo_jD, lo_own, lo_rowL, lo_sh, lo_prs, lo_spD, lo_prD]; done) | fail) only [↓wp_ok, ↓wp_next, ↓wp_ret, ↓wp_sSeq, ↓wp_fnD, ↓outP_ret, ↓wp_outD_same, ↓wp_outD_keep, cmp_ii, neg_i, add_ii, sub_ii, mod_ii, len_lst, len_ro, len_tup, ↓wp_eK, ↓wp_eVar0, ↓wp_eVars, ↓wp_eBin, ↓wp_eUn, ↓wp_eArgs, ↓wp_aNil, ↓wp_aCons, ↓wp_tYes, ↓wp_tNot, ↓wp_tAnd, ↓wp_tOr, ↓wp_eIf, ↓wp_oNone, ↓wp_eSl, ↓wp_eFrz, ↓wp_eLc, ↓gwp_N, ↓gwp_nil, ↓gwp_cons, ↓gwp_T, ↓wp_sNext, ↓wp_sRet, ↓wp_sRetN, ↓wp_sExpr, ↓wp_sIf, ↓wp_sAsg, ↓par2_ok, ↓wp_sPar, ↓wp_sFor, tyChk_str, Den.sl_tup, okL_ok, list_tup, max_ii, min_ii, abs_i, ne_ii, eq_ii, eq_ss, ↓wp_eCall, okC_ok, ↓wp_outD_app, ↓wp_outD_st, app_app, mul_ib, fdiv_ib, divmod_ib, pow_ib, ofO_some, ↓wp_ofO, ix_lstE, ix_roE, ix_tupE, atI_0, atI_1, atI_2, atI_3, atI_4, atI_map, tyChk_lst, lo_non, lo_bl, lo_int, lo_str, lo_lst, lo_tup, lo_ins, loS_nil, loS_cons, loF_nil, loF_cons, loC_lst, loC_ins, loS_app, insOf_ins, add_ll', add_tt', add_ss', mkL_ok', mkT_ok', mkC_ok', len_str', ne_ss, imul_ib, iadd_ii, ↓wp_sAug, isN_non, isN_int, isN_str, isN_tup, isN_lst, notN_non, notN_int, notN_str, notN_tup, notN_lst, isi_str_non, isi_str_bl, isi_str_int, isi_str_str, isi_str_lst, isi_str_tup, isi_str_dct, isi_int_non, isi_int_bl, isi_int_int, isi_int_str, isi_int_lst, isi_int_tup, isi_int_dct, isi_bool_non, isi_bool_bl, isi_bool_int, isi_bool_str, isi_bool_lst, isi_bool_tup, isi_bool_dct, isi_list_non, isi_list_bl, isi_list_int, isi_list_str, isi_list_lst, isi_list_tup, isi_list_dct, isi_tuple_non, isi_tuple_bl, isi_tuple_int, isi_tuple_str, isi_tuple_lst, isi_tuple_tup, isi_tuple_dct, isi_dict_non, isi_dict_bl, isi_dict_int, isi_dict_str, isi_dict_lst, isi_dict_tup, isi_dict_dct, ↓insK_some, ↓optK_some, ↓cinK_app, ↓wp_eFldK, ↓wp_eMethK, ↓wp_sFldK, look_eq, look_ne, look_nil, put_nil, put_eq, put_ne, ↓blK_ok, ↓intK_ok, ↓strK_ok, ↓lstK_lst, ↓lstK_ro, ↓tupK_ok, ↓sqK_lst, ↓sqK_ro, ↓sqK_tup, ↓oneK_ok, ↓twoK_ok, ↓rngK_ok, ↓andK_true, ↓wk_tOf, ↓wk_eAnd, ↓wk_eOr, ↓wk_eNot, ↓wk_eChain, ↓wk_eM, ↓wk_oSome, ↓wk_iL, ↓wk_iT, ↓wk_iS, ↓wk_iR1, ↓wk_iR2, ↓wk_iEA, ↓wk_gsub, ↓lcK_ok, ↓lfK_ok, ↓lfK_fz, ↓szK_ok, ↓wk_append, ↓wk_reverse, ↓wk_clear, ↓wk_ixc, ↓frK_ok, ↓frK_fz, ↓wk_frz, ↓wk_frzL, ↓wk_lenc, ↓wk_setc, ↓wk_tyc, get_at0, get_at1, get_at2, get_at3, set_at0, set_at1, set_at2, set_at3, ↓wp_itemF, filterMap_some', filterMap_if, ↓itK_none, ↓itK_some, ↓wp_compN, ↓wp_forN, ↓wp_forC, ev_1, ev_2, ev_3, ev_4, ev_6, ev_7, ev_8, ev_9, ev_10, ev_11, ev_12, ev_13, ev_14, ev_15, ev_16, ev_17, ev_18, ev_19, ev_20, ev_21, ev_22, ev_23, ev_24, ev_25, ev_26, ev_27, ev_28, ev_29, ev_30, ev_31, ev_32, ev_33, ev_34, ev_35, ev_37, ev_38, ev_39, ev_40, ev_41, ev_42, ev_43, ev_44, ev_45, ev_46, ev_47, ev_48, ev_49, ev_50, ev_51, ev_54, ev_55, ev_56, ev_57, ev_58, ev_envOf, ev_wipe0, ev_wipe1, ev_rep0, ev_rep1, pick_cons, pick_nil, ↓szS_ok, ↓wk_jsN, ↓wk_js, fmt_s, fmt_i, str_i, str_s, int1_i, int1_b, isi_own, ↓wk_iZ, ↓wk_iV, zip_map, rev_lst, ↓par3_ok, ↓wp_sPar3, ↓truK_t, ↓truK_f, ↓wp_eOrT, truD_non, truD_bl, truD_int, truD_tup, truD_lst, ↓wk_slc, beqI_f, beqI_t, isub_ii, ifdiv_ib, ↓gwp_star1, ↓gwp_star0, lo_jars, lo_strs, lo_jD, lo_own, lo_rowL, lo_sh, ↓lstK_rowL, ↓sqK_rowL, ↓tupK_own, len_rowL, len_own, ix_rowL, ix_own, sl_rowL, tup_rowL, list_rowL, list_own, at_rd, at_rw, ↓frK_fzr, ↓lfK_fzr, lo_prs, lo_spD, lo_prD, ↓lstK_spD, ↓sqK_spD, len_spD, ix_spD, ↓reduceIte, Nat.reduceAdd, Nat.reduceSub, Nat.reduceLeDiff, Nat.reduceEqDiff, Nat.reduceLT, Nat.reduceBEq, Int.reduceDiv, reduceCtorEq, $xs,*])
  | `(tactic| dsimp! only [$xs,*]) => `(tactic| simp (disch := first | assumption | exact id rfl | omega | (simp only [List.length_map, List.length_append, List.length_cons, List.length_nil, List.length_set, List.length_replicate, List.length_take, List.length_drop, List.length_reverse] <;> omega) | (simp only [if_true, if_false, eq_self, Nat.reduceEqDiff]; done) | (simp only [lo_non, lo_bl, lo_int, lo_str, lo_lst, lo_tup, lo_ins, loS_nil, loS_cons, loF_nil, loF_cons, loC_lst, loC_ins, loS_app, ev_1, ev_2, ev_3, ev_4, ev_6, ev_7, ev_8, ev_9, ev_10, ev_13, ev_14, ev_15, ev_16, ev_17, ev_18, ev_26, ev_27, ev_30, ev_31, ev_32, ev_33, ev_34, ev_35, ev_44, ev_45, ev_46, ev_47, ev_48, ev_49, ev_50, ev_51, ev_57, ev_58, lo_jars, lo_strs, lo_jD, lo_own, lo_rowL, lo_sh, lo_prs, lo_spD, lo_prD]; done) | exact fun _ => id rfl | fail) only [↓wp_ok, ↓wp_next, ↓wp_ret, ↓wp_sSeq, ↓wp_fnD, ↓outP_ret, ↓wp_outD_same, ↓wp_outD_keep, cmp_ii, neg_i, add_ii, sub_ii, mod_ii, len_lst, len_ro, len_tup, ↓wp_eK, ↓wp_eVar0, ↓wp_eVars, ↓wp_eBin, ↓wp_eUn, ↓wp_eArgs, ↓wp_aNil, ↓wp_aCons, ↓wp_tYes, ↓wp_tNot, ↓wp_tAnd, ↓wp_tOr, ↓wp_eIf, ↓wp_oNone, ↓wp_eSl, ↓wp_eFrz, ↓wp_eLc, ↓gwp_N, ↓gwp_nil, ↓gwp_cons, ↓gwp_T, ↓wp_sNext, ↓wp_sRet, ↓wp_sRetN, ↓wp_sExpr, ↓wp_sIf, ↓wp_sAsg, ↓par2_ok, ↓wp_sPar, ↓wp_sFor, tyChk_str, Den.sl_tup, okL_ok, list_tup, max_ii, min_ii, abs_i, ne_ii, eq_ii, eq_ss, ↓wp_eCall, okC_ok, ↓wp_outD_app, ↓wp_outD_st, app_app, mul_ib, fdiv_ib, divmod_ib, pow_ib, ofO_some, ↓wp_ofO, ix_lstE, ix_roE, ix_tupE, atI_0, atI_1, atI_2, atI_3, atI_4, atI_map, tyChk_lst, lo_non, lo_bl, lo_int, lo_str, lo_lst, lo_tup, lo_ins, loS_nil, loS_cons, loF_nil, loF_cons, loC_lst, loC_ins, loS_app, insOf_ins, add_ll', add_tt', add_ss', mkL_ok', mkT_ok', mkC_ok', len_str', ne_ss, imul_ib, iadd_ii, ↓wp_sAug, isN_non, isN_int, isN_str, isN_tup, isN_lst, notN_non, notN_int, notN_str, notN_tup, notN_lst, isi_str_non, isi_str_bl, isi_str_int, isi_str_str, isi_str_lst, isi_str_tup, isi_str_dct, isi_int_non, isi_int_bl, isi_int_int, isi_int_str, isi_int_lst, isi_int_tup, isi_int_dct, isi_bool_non, isi_bool_bl, isi_bool_int, isi_bool_str, isi_bool_lst, isi_bool_tup, isi_bool_dct, isi_list_non, isi_list_bl, isi_list_int, isi_list_str, isi_list_lst, isi_list_tup, isi_list_dct, isi_tuple_non, isi_tuple_bl, isi_tuple_int, isi_tuple_str, isi_tuple_lst, isi_tuple_tup, isi_tuple_dct, isi_dict_non, isi_dict_bl, isi_dict_int, isi_dict_str, isi_dict_lst, isi_dict_tup, isi_dict_dct, ↓insK_some, ↓optK_some, ↓cinK_app, ↓wp_eFldK, ↓wp_eMethK, ↓wp_sFldK, look_eq, look_ne, look_nil, put_nil, put_eq, put_ne, ↓blK_ok, ↓intK_ok, ↓strK_ok, ↓lstK_lst, ↓lstK_ro, ↓tupK_ok, ↓sqK_lst, ↓sqK_ro, ↓sqK_tup, ↓oneK_ok, ↓twoK_ok, ↓rngK_ok, ↓andK_true, ↓wk_tOf, ↓wk_eAnd, ↓wk_eOr, ↓wk_eNot, ↓wk_eChain, ↓wk_eM, ↓wk_oSome, ↓wk_iL, ↓wk_iT, ↓wk_iS, ↓wk_iR1, ↓wk_iR2, ↓wk_iEA, ↓wk_gsub, ↓lcK_ok, ↓lfK_ok, ↓lfK_fz, ↓szK_ok, ↓wk_append, ↓wk_reverse, ↓wk_clear, ↓wk_ixc, ↓frK_ok, ↓frK_fz, ↓wk_frz, ↓wk_frzL, ↓wk_lenc, ↓wk_setc, ↓wk_tyc, get_at0, get_at1, get_at2, get_at3, set_at0, set_at1, set_at2, set_at3, ↓wp_itemF, filterMap_some', filterMap_if, ↓itK_none, ↓itK_some, ↓wp_compN, ↓wp_forN, ↓wp_forC, ev_1, ev_2, ev_3, ev_4, ev_6, ev_7, ev_8, ev_9, ev_10, ev_11, ev_12, ev_13, ev_14, ev_15, ev_16, ev_17, ev_18, ev_19, ev_20, ev_21, ev_22, ev_23, ev_24, ev_25, ev_26, ev_27, ev_28, ev_29, ev_30, ev_31, ev_32, ev_33, ev_34, ev_35, ev_37, ev_38, ev_39, ev_40, ev_41, ev_42, ev_43, ev_44, ev_45, ev_46, ev_47, ev_48, ev_49, ev_50, ev_51, ev_54, ev_55, ev_56, ev_57, ev_58, ev_envOf, ev_wipe0, ev_wipe1, ev_rep0, ev_rep1, pick_cons, pick_nil, ↓szS_ok, ↓wk_jsN, ↓wk_js, fmt_s, fmt_i, str_i, str_s, int1_i, int1_b, isi_own, ↓wk_iZ, ↓wk_iV, zip_map, rev_lst, ↓par3_ok, ↓wp_sPar3, ↓truK_t, ↓truK_f, ↓wp_eOrT, truD_non, truD_bl, truD_int, truD_tup, truD_lst, ↓wk_slc, beqI_f, beqI_t, isub_ii, ifdiv_ib, ↓gwp_star1, ↓gwp_star0, lo_jars, lo_strs, lo_jD, lo_own, lo_rowL, lo_sh, ↓lstK_rowL, ↓sqK_rowL, ↓tupK_own, len_rowL, len_own, ix_rowL, ix_own, sl_rowL, tup_rowL, list_rowL, list_own, at_rd, at_rw, ↓frK_fzr, ↓lfK_fzr, lo_prs, lo_spD, lo_prD, ↓lstK_spD, ↓sqK_spD, len_spD, ix_spD, ↓reduceIte, Nat.reduceAdd, Nat.reduceSub, Nat.reduceLeDiff, Nat.reduceEqDiff, Nat.reduceLT, Nat.reduceBEq, Int.reduceDiv, reduceCtorEq, $xs,*])
  | `(tactic| simp_all! only [$xs,*]) => `(tactic| simp only [↓wp_ok, ↓wp_next, ↓wp_ret, ↓wp_sSeq, ↓wp_fnD, ↓outP_ret, ↓wp_outD_same, ↓wp_outD_keep, cmp_ii, neg_i, add_ii, sub_ii, mod_ii, len_lst, len_ro, len_tup, ↓wp_eK, ↓wp_eVar0, ↓wp_eVars, ↓wp_eBin, ↓wp_eUn, ↓wp_eArgs, ↓wp_aNil, ↓wp_aCons, ↓wp_tYes, ↓wp_tNot, ↓wp_tAnd, ↓wp_tOr, ↓wp_eIf, ↓wp_oNone, ↓wp_eSl, ↓wp_eFrz, ↓wp_eLc, ↓gwp_N, ↓gwp_nil, ↓gwp_cons, ↓gwp_T, ↓wp_sNext, ↓wp_sRet, ↓wp_sRetN, ↓wp_sExpr, ↓wp_sIf, ↓wp_sAsg, ↓par2_ok, ↓wp_sPar, ↓wp_sFor, tyChk_str, Den.sl_tup, okL_ok, list_tup, max_ii, min_ii, abs_i, ne_ii, eq_ii, eq_ss, ↓wp_eCall, okC_ok, ↓wp_outD_app, ↓wp_outD_st, app_app, mul_ib, fdiv_ib, divmod_ib, pow_ib, ofO_some, ↓wp_ofO, ix_lstE, ix_roE, ix_tupE, atI_0, atI_1, atI_2, atI_3, atI_4, atI_map, tyChk_lst, lo_non, lo_bl, lo_int, lo_str, lo_lst, lo_tup, lo_ins, loS_nil, loS_cons, loF_nil, loF_cons, loC_lst, loC_ins, loS_app, insOf_ins, add_ll', add_tt', add_ss', mkL_ok', mkT_ok', mkC_ok', len_str', ne_ss, imul_ib, iadd_ii, ↓wp_sAug, isN_non, isN_int, isN_str, isN_tup, isN_lst, notN_non, notN_int, notN_str, notN_tup, notN_lst, isi_str_non, isi_str_bl, isi_str_int, isi_str_str, isi_str_lst, isi_str_tup, isi_str_dct, isi_int_non, isi_int_bl, isi_int_int, isi_int_str, isi_int_lst, isi_int_tup, isi_int_dct, isi_bool_non, isi_bool_bl, isi_bool_int, isi_bool_str, isi_bool_lst, isi_bool_tup, isi_bool_dct, isi_list_non, isi_list_bl, isi_list_int, isi_list_str, isi_list_lst, isi_list_tup, isi_list_dct, isi_tuple_non, isi_tuple_bl, isi_tuple_int, isi_tuple_str, isi_tuple_lst, isi_tuple_tup, isi_tuple_dct, isi_dict_non, isi_dict_bl, isi_dict_int, isi_dict_str, isi_dict_lst, isi_dict_tup, isi_dict_dct, ↓insK_some, ↓optK_some, ↓cinK_app, ↓wp_eFldK, ↓wp_eMethK, ↓wp_sFldK, look_eq, look_ne, look_nil, put_nil, put_eq, put_ne, ↓blK_ok, ↓intK_ok, ↓strK_ok, ↓lstK_lst, ↓lstK_ro, ↓tupK_ok, ↓sqK_lst, ↓sqK_ro, ↓sqK_tup, ↓oneK_ok, ↓twoK_ok, ↓rngK_ok, ↓andK_true, ↓wk_tOf, ↓wk_eAnd, ↓wk_eOr, ↓wk_eNot, ↓wk_eChain, ↓wk_eM, ↓wk_oSome, ↓wk_iL, ↓wk_iT, ↓wk_iS, ↓wk_iR1, ↓wk_iR2, ↓wk_iEA, ↓wk_gsub, ↓lcK_ok, ↓lfK_ok, ↓lfK_fz, ↓szK_ok, ↓wk_append, ↓wk_reverse, ↓wk_clear, ↓wk_ixc, ↓frK_ok, ↓frK_fz, ↓wk_frz, ↓wk_frzL, ↓wk_lenc, ↓wk_setc, ↓wk_tyc, get_at0, get_at1, get_at2, get_at3, set_at0, set_at1, set_at2, set_at3, ↓wp_itemF, filterMap_some', filterMap_if, ↓itK_none, ↓itK_some, ↓wp_compN, ↓wp_forN, ↓wp_forC, ev_1, ev_2, ev_3, ev_4, ev_6, ev_7, ev_8, ev_9, ev_10, ev_11, ev_12, ev_13, ev_14, ev_15, ev_16, ev_17, ev_18, ev_19, ev_20, ev_21, ev_22, ev_23, ev_24, ev_25, ev_26, ev_27, ev_28, ev_29, ev_30, ev_31, ev_32, ev_33, ev_34, ev_35, ev_37, ev_38, ev_39, ev_40, ev_41, ev_42, ev_43, ev_44, ev_45, ev_46, ev_47, ev_48, ev_49, ev_50, ev_51, ev_54, ev_55, ev_56, ev_57, ev_58, ev_envOf, ev_wipe0, ev_wipe1, ev_rep0, ev_rep1, pick_cons, pick_nil, ↓szS_ok, ↓wk_jsN, ↓wk_js, fmt_s, fmt_i, str_i, str_s, int1_i, int1_b, isi_own, ↓wk_iZ, ↓wk_iV, zip_map, rev_lst, ↓par3_ok, ↓wp_sPar3, ↓truK_t, ↓truK_f, ↓wp_eOrT, truD_non, truD_bl, truD_int, truD_tup, truD_lst, ↓wk_slc, beqI_f, beqI_t, isub_ii, ifdiv_ib, ↓gwp_star1, ↓gwp_star0, lo_jars, lo_strs, lo_jD, lo_own, lo_rowL, lo_sh, ↓lstK_rowL, ↓sqK_rowL, ↓tupK_own, len_rowL, len_own, ix_rowL, ix_own, sl_rowL, tup_rowL, list_rowL, list_own, at_rd, at_rw, ↓frK_fzr, ↓lfK_fzr, lo_prs, lo_spD, lo_prD, ↓lstK_spD, ↓sqK_spD, len_spD, ix_spD, $xs,*])
theorem pot15 {ns : List Int} {k : Nat} {st : Store} (hk : k < 1000) : ∃ a b, Gd a b ∧ den_law_pot_C [.ro (ns.map D.int), .int k] st = .ok (.cell st.length) (st ++ [pc a b]) := by
  obtain ⟨a, s, e, a', b', g, ea, es⟩ : ∃ a s, den_law_pot_C [.ro (ns.map D.int), .int k] st = .ok a s ∧ ∃ a' b', Gd a' b' ∧ a = .cell st.length ∧ s = st ++ [pc a' b'] := by
    refine Res.of_wp ?_
    unfold den_law_pot_C
    have key : ∀ c : Int, 0 ≤ c → Gd (if c - 10 ^ Int.toNat 18 > 0 then c - 10 ^ Int.toNat 18 else 0) (c % 2147483563 + 977 * k + 1) := by
      intro c hc
      have h1 := Int.emod_nonneg c (show (2147483563 : Int) ≠ 0 by decide)
      have h2 := Int.emod_lt_of_pos c (show (0 : Int) < 2147483563 by decide)
      refine ⟨by split <;> omega, by omega, by omega⟩
    simp! only [List.length_map]
    split
    · rename_i hlt
      have hn : k < ns.length := by omega
      rw [atI_pos, List.getElem?_eq_getElem hn]
      simp! only [and_self]
      refine ⟨_, _, key (if ns[k] < 0 then -ns[k] else ns[k]) (by split <;> omega), rfl⟩
    · exact ⟨_, _, key 0 (by omega), rfl⟩
  exact ⟨a', b', g, by rw [e, ea, es]⟩
theorem law15 {ns : List Int} : denlaw_37 [.ro (ns.map D.int)] [] = .ok (.bl true) [] := by
  refine Res.eq_of_wp ?_
  unfold denlaw_37
  have b1 : (if (if (ns.length : Int) < 6 then (ns.length : Int) else 6) > 1 then (if (ns.length : Int) < 6 then (ns.length : Int) else 6) else 1) ≤ 6 := by split <;> split <;> omega
  have b0 : 1 ≤ (if (if (ns.length : Int) < 6 then (ns.length : Int) else 6) > 1 then (if (ns.length : Int) < 6 then (ns.length : Int) else 6) else 1) := by split <;> split <;> omega
  simp! only [List.length_map]
  generalize (if (if (ns.length : Int) < 6 then (ns.length : Int) else 6) > 1 then (if (ns.length : Int) < 6 then (ns.length : Int) else 6) else 1) = n at b0 b1 ⊢
  simp! only [rngD]
  refine wp_forL (fun ys env s => ∃ e1 e2 e3 e4 e5 e6 e7 e8 e9 e10 e11, env = [some (.ro (ns.map D.int)), e1, e2, e3, e4, e5, e6, e7, e8, e9, e10, e11]) ⟨none, none, none, none, none, none, none, none, none, none, none, rfl⟩ ?_ ?_
  · intro ys k zs env s e hI
    obtain ⟨e1, e2, e3, e4, e5, e6, e7, e8, e9, e10, e11, he⟩ := hI
    subst he
    have hk : k < 6 := by
      have : k ∈ List.range n.toNat := by rw [e]; simp
      have := List.mem_range.mp this; omega
    obtain ⟨a, b, gd, ep⟩ := pot15 (ns := ns) (k := k) (st := s) (by omega)
    have hP : Pot (s ++ [pc a b]) s.length (s ++ [pc a b]) := ⟨by simp, a, b, gd, by rw [set_at0 rfl]⟩
    simp! only [Int.zero_add, ep]
    refine row_wp hP (by decide) (by decide) fun ts st1 h hl hP l1 => ?_
    have h12 := h.le
    have h1 := h.pos
    have hB : (10 : Int) ^ 60 ≤ 10 ^ 150 := by decide +kernel
    have ln : ∀ st, lenD [rowL ts] st = .ok (.int ts.length) st := fun st => by simp [lenD, asR, asL, rowL]
    simp! only [ln]
    refine take_wp hP (by omega) (by omega) fun i st2 i0 i1 hP l2 => ?_
    obtain ⟨i, rfl⟩ := Int.eq_ofNat_of_zero_le i0
    simp! only [and_self]
    refine heap_wp hP (by decide) (by decide) fun g st3 g0 g1 hP l3 => ?_
    have q60 : (10 : Int) ^ 60 < 10 ^ 150 := by decide +kernel
    have m1 := fun st => mkRd (st := st) h hB JArg.ofRow
    have m2 := fun st => mkRw (st := st) (tr := g) h hB g0 (by omega) (show JArg st (rowL ts) ts from JArg.ofRow)
    simp! only [m1, m2, mkS, rngD]
    have sh := fun st => shown15 (st := st) h g0 g1
    have L0 : (s ++ [pc a b]).length = (s ++ [pc a b]).length := rfl
    refine wp_forL (fun ys env st' => ∃ e7 e8, env = [some (.ro (ns.map D.int)), some (.int (0 + (k : Int))), some (.cell s.length), some (rowL ts), some (.int (i : Int)), some (.int g), some (.lst [shD (.rd (turn ts)), shD (.rw ts g)]), e7, e8, e9, e10, e11] ∧ Pot (s ++ [pc a b]) s.length st') ⟨_, _, rfl, hP⟩ ?_ ?_
    · rintro ys x zs env st' e ⟨e7, e8, rfl, hP⟩
      have dl : ∀ md ∈ ([.int g, .int (g / 2), .int (if g < 7 then g + 1 else g - 1)] : List D), ∃ m : Int, md = .int m ∧ 0 ≤ m ∧ m ≤ 10 ^ 60 := by
        intro md hm
        simp only [List.mem_cons, List.not_mem_nil, or_false] at hm
        rcases hm with rfl | rfl | rfl
        · exact ⟨_, rfl, g0, by omega⟩
        · exact ⟨_, rfl, by omega, by omega⟩
        · exact ⟨_, rfl, by split <;> omega, by split <;> omega⟩
      by_cases c : g < 7
      · rw [if_pos c] at dl
        simp! only [c]
        refine take_wp hP (by decide) (by decide) fun w s5 w0 w1 hP l5 => ?_
        refine wp_ixmem w0 (by simpa using w1) fun md hmd => ?_
        obtain ⟨m, rfl, m0, m1'⟩ := dl md hmd
        simp! only [sh]
        refine otherwise15_wp hP h fun us s6 hu hP l6 => ?_
        have ak := fun st => alikes15 (st := st) h hu g0 g1 m0 m1'
        simp! only [ak]
        exact ⟨_, _, ⟨rfl, rfl⟩, hP⟩
      · rw [if_neg c] at dl
        simp! only [c]
        refine take_wp hP (by decide) (by decide) fun w s5 w0 w1 hP l5 => ?_
        refine wp_ixmem w0 (by simpa using w1) fun md hmd => ?_
        obtain ⟨m, rfl, m0, m1'⟩ := dl md hmd
        simp! only [sh]
        refine otherwise15_wp hP h fun us s6 hu hP l6 => ?_
        have ak := fun st => alikes15 (st := st) h hu g0 g1 m0 m1'
        simp! only [ak]
        exact ⟨_, _, ⟨rfl, rfl⟩, hP⟩
    · rintro env st' ⟨e7, e8, rfl, hP⟩
      have hi : i < ts.length := by omega
      have ad : ∀ st, addD (.lst (Den.cutD (ts.map jD) (some (i : Int)) none)) (.lst (Den.cutD (ts.map jD) none (some (i : Int)))) st = .ok (rowL (rot i ts)) st := fun st => by
        rw [add_ll' (by rw [cutD_from, cutD_to]; simp; omega), row_cut]; rfl
      have mr : ∀ st, newI 22 (fun ds es st => denRound_init ds st) [rowL (rot i ts)] [] st = .ok (shD (.rd (turn ts))) st := fun st => by
        have q := mkRd (st := st) (h.rot (n := i)) hB JArg.ofRow
        rw [turn_rot h (Nat.le_of_lt hi)] at q
        exact q
      have li : ∀ st, listD okL [rowL ts] st = .ok (rowL ts) st := fun st => rfl
      have gn : g.natAbs < 10 ^ 150 := by
        have e : ((10 ^ 150 : Nat) : Int) = (10 : Int) ^ 150 := by decide +kernel
        omega
      have A1 := fun st => alike15 (st := st) (mix_rd h.turn hB h.turn hB)
      have A2 := fun st => alike15 (st := st) (mix_rw h hB h hB gn gn)
      simp only [decide_true, and_self] at A1 A2
      simp! only [ad, mr, li, m2]
      refine wp_compX (xs := [shD (.rd (turn ts)), shD (.rw ts g)]) (ι := fun d => .tup [d, d]) (F := fun _ => some (.bl true)) (fun d hd => ?_) (by simp) ?_
      · simp only [List.mem_cons, List.not_mem_nil, or_false] at hd
        rcases hd with rfl | rfl
        · simp! only [A1]
        · simp! only [A2]
      rw [filterMap_some']
      have ea : ∀ st, allD (fun bs => bs.all id) [.lst [.bl true, .bl true]] st = .ok (.bl true) st := fun st => by
        have q := all_bools (st := st) (f := fun _ : Nat => true) (xs := [0, 1])
        simpa using q
      simp! only [ea]
  · intro env s hI
    obtain ⟨e1, e2, e3, e4, e5, e6, e7, e8, e9, e10, e11, he⟩ := hI
    subst he
    simp! only [and_self]
    rw [wp_outD_nil rfl]
    exact ⟨rfl, rfl⟩
end
end Q

open PySem PySem.W PyProof.Rows
set_option maxHeartbeats 0 in
theorem PySem.Challenge.cw_pourround_k15_equal_and_shown_holds : PySem.Challenge.rw_pourround_k15_equal_and_shown.Holds := by
  w_on; o_law; (refine holds_open (q := Hd15.q) (loose := Hd15.loose) (Xt := Hd15.Xt) (XP := XL Hd15.q []) (Yf := Hook.obs (kHook Hd15.KA.heap_1 Hd15.as Hd15.ek)) (Ya := Hook.val (kHook Hd15.KA.heap_1 Hd15.as Hd15.ek)) (YP := Hook.says (kHook Hd15.KA.heap_1 Hd15.as Hd15.ek)) (N := 6682) Hd15.left (Hook.of (kHook Hd15.KA.heap_1 Hd15.as Hd15.ek)) (Hook.keeps (kHook Hd15.KA.heap_1 Hd15.as Hd15.ek)) (fun s e => xl_of s (Bool.and_eq_true_iff.mp e).1) XL.keeps (by rfl) (by rfl) (by rfl) (fun s e => recFacts_of (Bool.and_eq_true_iff.mp e).2) (by rfl) (by first | assumption | decide +kernel) (by decide +kernel) ⟨rfl, rfl, rfl, rfl, rfl, by decide +kernel⟩ ?hw ?hc); (case hw => w_witness2)
  k_fill
  refine Den.walkG (l := PySem.Challenge.rw_pourround_k15_equal_and_shown) (n := 63) (k := 9) (x := "_law_script") (g := Q.denlaw_37) rfl (by decide) rfl ⟨rfl, by decide, by decide⟩ (fun w h Y => PySem.W.kIn_of Y) ?F (fun ns _ _ => Q.law15)
  case F =>
    intro w mg fa h KX Gn hmg
    refine' K15.all_mk KX Gn hmg ?gc21 ?gc22 ?gc23 ?a0 ?l0 ?c0 ?k0 ?a1 ?l1 ?c1 ?k1 ?a2 ?l2 ?c2 ?k2 ?a3 ?l3 ?c3 ?k3 ?d3_0 ?a4 ?l4 ?c4 ?k4 ?a5 ?l5 ?c5 ?k5 ?a6 ?l6 ?c6 ?k6 ?a7 ?l7 ?c7 ?k7 ?a8 ?l8 ?c8 ?k8 ?a9 ?l9 ?c9 ?k9 ?a10 ?l10 ?c10 ?k10 ?a11 ?l11 ?c11 ?k11 ?a12 ?l12 ?c12 ?k12 ?d12_0 ?a13 ?l13 ?c13 ?k13 ?a14 ?l14 ?c14 ?k14 ?a15 ?l15 ?c15 ?k15 ?a16 ?l16 ?c16 ?k16 ?a17 ?l17 ?c17 ?k17 ?a18 ?l18 ?c18 ?k18 ?a19 ?l19 ?c19 ?k19 ?a20 ?l20 ?c20 ?k20 ?a21 ?l21 ?c21 ?k21 ?a22 ?l22 ?c22 ?k22 ?a23 ?l23 ?c23 ?k23 ?a24 ?l24 ?c24 ?k24 ?a25 ?l25 ?c25 ?k25 ?a26 ?l26 ?c26 ?k26 ?a27 ?l27 ?c27 ?k27 ?a28 ?l28 ?c28 ?k28 ?a29 ?l29 ?c29 ?k29 ?a30 ?l30 ?c30 ?k30 ?a31 ?l31 ?c31 ?k31 ?a32 ?l32 ?c32 ?k32 ?a33 ?l33 ?c33 ?k33 ?a34 ?l34 ?c34 ?k34 ?a35 ?l35 ?c35 ?k35 ?a36 ?l36 ?c36 ?k36 ?a37 ?l37 ?c37 ?k37 ?pg22 ?hd22 ?po22 ?sa22 ?pg23 ?hd23 ?po23 ?sa23 ?na22_own_jars ?na23_own_jars ?na23_own_tray ?fn14 ?fn11 ?fn18 ?fn21 ?fn1 ?fn3 ?fn20 ?fn0 ?fn2 ?fn16 ?fn12 ?fn22 ?fn23 ?me23_has ?fn13 ?me23_jars_text ?me23_names ?fn15 ?mk22 ?kc22 ?mk23 ?kc23 ?rs21 ?ga21 ?nea22 ?neb22 ?nea23 ?neb23 ?icn ?ict ?ica22 ?icm22 ?ica23 ?icm23 ?ik1_22 ?ik2_22 ?iks_22 ?it22_0 ?it22_1 ?it22_2 ?it22_3 ?it22_4 ?it22_5 ?it22_6 ?ic22_22 ?ic22_23 ?ik1_23 ?ik2_23 ?iks_23 ?it23_0 ?it23_1 ?it23_2 ?it23_3 ?it23_4 ?it23_5 ?it23_6 ?ic23_22 ?ic23_23 ?mi22_0 ?mi22_1 ?mi22_2 ?mi22_3 ?mi22_4 ?mi22_5 ?mi22_6 ?mj22_0 ?mj22_1 ?mj22_2 ?mj22_3 ?mj22_4 ?mj22_5 ?mj22_6 ?mi23_0 ?mi23_1 ?mi23_2 ?mi23_3 ?mi23_4 ?mi23_5 ?mi23_6 ?mj23_0 ?mj23_1 ?mj23_2 ?mj23_3 ?mj23_4 ?mj23_5 ?mj23_6 ?mab ?mba ?z0 ?z1 ?z2 ?z3 ?z4 ?z5 ?z6 ?z7 ?z8 ?z9 ?z10 ?z11 ?z12 ?z13 ?z14 ?z15 ?x0 ?x1 ?x2 ?x3 ?x4
    (case gc21 => k_is)
    (case gc22 => k_is)
    (case gc23 => k_is)
    (case a0 => k_is)
    (case l0 => k_is)
    (case c0 => k_is)
    (case k0 => k_is)
    (case a1 => k_is)
    (case l1 => k_is)
    (case c1 => k_is)
    (case k1 => k_is)
    (case a2 => k_is)
    (case l2 => k_is)
    (case c2 => k_is)
    (case k2 => k_is)
    (case a3 => k_is)
    (case l3 => k_is)
    (case c3 => k_is)
    (case k3 => k_is)
    (case d3_0 => k_is)
    (case a4 => k_is)
    (case l4 => k_is)
    (case c4 => k_is)
    (case k4 => k_is)
    (case a5 => k_is)
    (case l5 => k_is)
    (case c5 => k_is)
    (case k5 => k_is)
    (case a6 => k_is)
    (case l6 => k_is)
    (case c6 => k_is)
    (case k6 => k_is)
    (case a7 => k_is)
    (case l7 => k_is)
    (case c7 => k_is)
    (case k7 => k_is)
    (case a8 => k_is)
    (case l8 => k_is)
    (case c8 => k_is)
    (case k8 => k_is)
    (case a9 => k_is)
    (case l9 => k_is)
    (case c9 => k_is)
    (case k9 => k_is)
    (case a10 => k_is)
    (case l10 => k_is)
    (case c10 => k_is)
    (case k10 => k_is)
    (case a11 => k_is)
    (case l11 => k_is)
    (case c11 => k_is)
    (case k11 => k_is)
    (case a12 => k_is)
    (case l12 => k_is)
    (case c12 => k_is)
    (case k12 => k_is)
    (case d12_0 => k_is)
    (case a13 => k_is)
    (case l13 => k_is)
    (case c13 => k_is)
    (case k13 => k_is)
    (case a14 => k_is)
    (case l14 => k_is)
    (case c14 => k_is)
    (case k14 => k_is)
    (case a15 => k_is)
    (case l15 => k_is)
    (case c15 => k_is)
    (case k15 => k_is)
    (case a16 => k_is)
    (case l16 => k_is)
    (case c16 => k_is)
    (case k16 => k_is)
    (case a17 => k_is)
    (case l17 => k_is)
    (case c17 => k_is)
    (case k17 => k_is)
    (case a18 => k_is)
    (case l18 => k_is)
    (case c18 => k_is)
    (case k18 => k_is)
    (case a19 => k_is)
    (case l19 => k_is)
    (case c19 => k_is)
    (case k19 => k_is)
    (case a20 => k_is)
    (case l20 => k_is)
    (case c20 => k_is)
    (case k20 => k_is)
    (case a21 => k_is)
    (case l21 => k_is)
    (case c21 => k_is)
    (case k21 => k_is)
    (case a22 => k_is)
    (case l22 => k_is)
    (case c22 => k_is)
    (case k22 => k_is)
    (case a23 => k_is)
    (case l23 => k_is)
    (case c23 => k_is)
    (case k23 => k_is)
    (case a24 => k_is)
    (case l24 => k_is)
    (case c24 => k_is)
    (case k24 => k_is)
    (case a25 => k_is)
    (case l25 => k_is)
    (case c25 => k_is)
    (case k25 => k_is)
    (case a26 => k_is)
    (case l26 => k_is)
    (case c26 => k_is)
    (case k26 => k_is)
    (case a27 => k_is)
    (case l27 => k_is)
    (case c27 => k_is)
    (case k27 => k_is)
    (case a28 => k_is)
    (case l28 => k_is)
    (case c28 => k_is)
    (case k28 => k_is)
    (case a29 => k_is)
    (case l29 => k_is)
    (case c29 => k_is)
    (case k29 => k_is)
    (case a30 => k_is)
    (case l30 => k_is)
    (case c30 => k_is)
    (case k30 => k_is)
    (case a31 => k_is)
    (case l31 => k_is)
    (case c31 => k_is)
    (case k31 => k_is)
    (case a32 => k_is)
    (case l32 => k_is)
    (case c32 => k_is)
    (case k32 => k_is)
    (case a33 => k_is)
    (case l33 => k_is)
    (case c33 => k_is)
    (case k33 => k_is)
    (case a34 => k_is)
    (case l34 => k_is)
    (case c34 => k_is)
    (case k34 => k_is)
    (case a35 => k_is)
    (case l35 => k_is)
    (case c35 => k_is)
    (case k35 => k_is)
    (case a36 => k_is)
    (case l36 => k_is)
    (case c36 => k_is)
    (case k36 => k_is)
    (case a37 => k_is)
    (case l37 => k_is)
    (case c37 => k_is)
    (case k37 => k_is)
    (case pg22 => k_is)
    (case hd22 => k_is)
    (case po22 => k_is)
    (case sa22 => k_is)
    (case pg23 => k_is)
    (case hd23 => k_is)
    (case po23 => k_is)
    (case sa23 => k_is)
    (case na22_own_jars => k_is)
    (case na23_own_jars => k_is)
    (case na23_own_tray => k_is)
    (case fn14 => k_is)
    (case fn11 => k_is)
    (case fn18 => k_is)
    (case fn21 => k_is)
    (case fn1 => k_is)
    (case fn3 => k_is)
    (case fn20 => k_is)
    (case fn0 => k_is)
    (case fn2 => k_is)
    (case fn16 => k_is)
    (case fn12 => k_is)
    (case fn22 => k_is)
    (case fn23 => k_is)
    (case me23_has => k_is)
    (case fn13 => k_is)
    (case me23_jars_text => k_is)
    (case me23_names => k_is)
    (case fn15 => k_is)
    (case mk22 => k_is)
    (case kc22 => k_is)
    (case mk23 => k_is)
    (case kc23 => k_is)
    (case rs21 => k_is)
    (case ga21 => k_is)
    (case nea22 => k_is)
    (case neb22 => k_is)
    (case nea23 => k_is)
    (case neb23 => k_is)
    (case icn => k_is)
    (case ict => k_is)
    (case ica22 => k_is)
    (case icm22 => k_is)
    (case ica23 => k_is)
    (case icm23 => k_is)
    (case ik1_22 => k_is)
    (case ik2_22 => k_is)
    (case iks_22 => k_is)
    (case it22_0 => k_is)
    (case it22_1 => k_is)
    (case it22_2 => k_is)
    (case it22_3 => k_is)
    (case it22_4 => k_is)
    (case it22_5 => k_is)
    (case it22_6 => k_is)
    (case ic22_22 => k_is)
    (case ic22_23 => k_is)
    (case ik1_23 => k_is)
    (case ik2_23 => k_is)
    (case iks_23 => k_is)
    (case it23_0 => k_is)
    (case it23_1 => k_is)
    (case it23_2 => k_is)
    (case it23_3 => k_is)
    (case it23_4 => k_is)
    (case it23_5 => k_is)
    (case it23_6 => k_is)
    (case ic23_22 => k_is)
    (case ic23_23 => k_is)
    (case mi22_0 => k_is)
    (case mi22_1 => k_is)
    (case mi22_2 => k_is)
    (case mi22_3 => k_is)
    (case mi22_4 => k_is)
    (case mi22_5 => k_is)
    (case mi22_6 => k_is)
    (case mj22_0 => k_is)
    (case mj22_1 => k_is)
    (case mj22_2 => k_is)
    (case mj22_3 => k_is)
    (case mj22_4 => k_is)
    (case mj22_5 => k_is)
    (case mj22_6 => k_is)
    (case mi23_0 => k_is)
    (case mi23_1 => k_is)
    (case mi23_2 => k_is)
    (case mi23_3 => k_is)
    (case mi23_4 => k_is)
    (case mi23_5 => k_is)
    (case mi23_6 => k_is)
    (case mj23_0 => k_is)
    (case mj23_1 => k_is)
    (case mj23_2 => k_is)
    (case mj23_3 => k_is)
    (case mj23_4 => k_is)
    (case mj23_5 => k_is)
    (case mj23_6 => k_is)
    (case mab => k_is)
    (case mba => k_is)
    (case z0 => k_is)
    (case z1 => k_is)
    (case z2 => k_is)
    (case z3 => k_is)
    (case z4 => k_is)
    (case z5 => k_is)
    (case z6 => k_is)
    (case z7 => k_is)
    (case z8 => k_is)
    (case z9 => k_is)
    (case z10 => k_is)
    (case z11 => k_is)
    (case z12 => k_is)
    (case z13 => k_is)
    (case z14 => k_is)
    (case z15 => k_is)
    (case x0 => k_is)
    (case x1 => k_is)
    (case x2 => k_is)
    (case x3 => k_is)
    (case x4 => k_is)

