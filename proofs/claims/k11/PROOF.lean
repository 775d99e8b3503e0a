import PyProof.Rows.All
import Wide.All
import OpenK.AllK
import Wide.FinOn
import HandS.ForMost
import HandS.ForExc
import HandS.Wide
import HandS.WideBits
import HandS.IsInst
import HandS.TupAny
import HandS.Walk
import HandS.Zip
import HandS.Deep
import PyProof.StrBlock2
import PyProof.ReprRoads
import HandS.Style
import HandS.EndBits
import KE.IntBitsLaws
import HandS.Codes
import PySem.Challenge.RW_pourround_k11_names_bases_grains
set_option Elab.async false
set_option linter.all false
set_option maxRecDepth 100000
set_option maxHeartbeats 4000000
namespace Den
open PySem PySem.Spec PyProof.Rows L2

/-! ### data -/
inductive D where
  | non
  | bl (b : Bool)
  | int (i : Int)
  | str (x : Str)
  | lst (ds : List D)
  | tup (ds : List D)
  | dct (kvs : List (Key × D))
  | ins (c : Nat) (fs : List (Str × D))
  | ro (ds : List D)
  | cell (n : Nat)
  | cls (c : Nat)
  | ty (n : String)

inductive Cell where
  | lst (ds : List D)
  | ins (c : Nat) (fs : List (Str × D))
  | dct (kvs : List (Key × D))
  | fz (d : D)

abbrev Env := List (Option D)
abbrev Store := List Cell
structure Xc where
  c : Nat
  fs : List (Str × D)
inductive Res (α : Type) where
  | ok (a : α) (st : Store)
  | exc (x : Xc) (st : Store)
  | bad
def Res.bind {α β : Type} (r : Res α) (k : α → Store → Res β) : Res β :=
  match r with
  | .ok a st => k a st
  | .exc x st => .exc x st
  | .bad => .bad
inductive SRes where
  | next (env : Env) (st : Store)
  | ret (d : D) (st : Store)
  | brk (env : Env) (st : Store)
  | cont (env : Env) (st : Store)
  | exc (x : Xc) (env : Env) (st : Store)
  | bad

/-! ### data and values -/
mutual
def R (K : PySem.W.Frag) (G : Nat → Addr) (F : Hp) (ph : List Addr) : D → V → Prop
  | .non, v => v = .non
  | .bl b, v => v = .bl b
  | .int i, v => v = .int i
  | .str x, v => v = .str x
  | .lst ds, v => ∃ a vs, v = .ref a ∧ F a = some (.lst vs) ∧ Rs K G F ph ds vs
  | .tup ds, v => ∃ a vs, v = .ref a ∧ F a = some (.tup vs) ∧ Rs K G F ph ds vs
  | .ro ds, v => ∃ a vs, v = .ref a ∧ SqL K F a vs ∧ Rs K G F ph ds vs
  | .dct kvs, v => ∃ a ws, v = .ref a ∧ F a = some (.dK ws) ∧ Rk K G F ph kvs ws
  | .ins c fs, v => ∃ a dx ws, v = .ref a ∧ F a = some (.ins (G c) dx ws) ∧ Rf K G F ph fs ws
  | .cell n, v => ∃ a, v = .ref a ∧ ph[n]? = some a
  | .cls c, v => v = .ref (G c)
  | .ty n, v => v = .ty n
def Rs (K : PySem.W.Frag) (G : Nat → Addr) (F : Hp) (ph : List Addr) : List D → List V → Prop
  | [], vs => vs = []
  | d :: ds, vs => ∃ v ws, vs = v :: ws ∧ R K G F ph d v ∧ Rs K G F ph ds ws
def Rk (K : PySem.W.Frag) (G : Nat → Addr) (F : Hp) (ph : List Addr) : List (Key × D) → List (Key × V) → Prop
  | [], vs => vs = []
  | (k, d) :: ds, vs => ∃ v ws, vs = (k, v) :: ws ∧ R K G F ph d v ∧ Rk K G F ph ds ws
def Rf (K : PySem.W.Frag) (G : Nat → Addr) (F : Hp) (ph : List Addr) : List (Str × D) → List (Str × V) → Prop
  | [], vs => vs = []
  | (k, d) :: ds, vs => ∃ v ws, vs = (k, v) :: ws ∧ R K G F ph d v ∧ Rf K G F ph ds ws
end

/-- the frozen part grows, the cells' places grow at the end -/
structure Ext (F : Hp) (ph : List Addr) (F' : Hp) (ph' : List Addr) : Prop where
  fz : ∀ a o, F a = some o → F' a = some o
  ph : ∀ (n : Nat) a, ph[n]? = some a → ph'[n]? = some a
theorem Ext.refl (F : Hp) (ph : List Addr) : Ext F ph F ph := ⟨fun _ _ h => h, fun _ _ h => h⟩
theorem Ext.trans {F F1 F2 : Hp} {p p1 p2 : List Addr} (a : Ext F p F1 p1) (b : Ext F1 p1 F2 p2) : Ext F p F2 p2 :=
  ⟨fun x o h => b.fz x o (a.fz x o h), fun n x h => b.ph n x (a.ph n x h)⟩
/-- .. and of the abstract heap all stays that is no cell; a new cell was nothing ahead -/
structure Ex (F : Hp) (ph : List Addr) (H : Hp) (F' : Hp) (ph' : List Addr) (H' : Hp) : Prop where
  x : Ext F ph F' ph'
  keep : ∀ a o, H a = some o → a ∉ ph → H' a = some o
  new : ∀ a, a ∈ ph' → a ∈ ph ∨ H a = none
  fnew : ∀ a o, F' a = some o → (∃ u, F a = some u) ∨ H a = none ∨ a ∈ ph
theorem Ex.refl (F : Hp) (ph : List Addr) (H : Hp) : Ex F ph H F ph H := ⟨Ext.refl _ _, fun _ _ h _ => h, fun _ h => .inl h, fun _ o h => .inl ⟨o, h⟩⟩
theorem Ex.trans {F F1 F2 : Hp} {p p1 p2 : List Addr} {H H1 H2 : Hp} (a : Ex F p H F1 p1 H1) (b : Ex F1 p1 H1 F2 p2 H2) : Ex F p H F2 p2 H2 := by
  have nn : ∀ c o, H c = some o → c ∉ p → c ∉ p1 := fun c o h n z => by
    rcases a.new c z with q | q
    · exact n q
    · rw [h] at q; cases q
  have back : ∀ c, H1 c = none → c ∈ p ∨ H c = none := fun c q => by
    cases e : H c with
    | none => exact .inr rfl
    | some o =>
      by_cases n : c ∈ p
      · exact .inl n
      · rw [a.keep c o e n] at q; cases q
  refine ⟨a.x.trans b.x, fun c o h n => b.keep c o (a.keep c o h n) (nn c o h n), fun c hc => ?_, fun c o hc => ?_⟩
  · rcases b.new c hc with q | q
    · exact a.new c q
    · exact back c q
  · rcases b.fnew c o hc with ⟨u, q⟩ | q | q
    · exact a.fnew c u q
    · exact .inr (back c q).symm
    · exact .inr (a.new c q).symm
theorem seqT_mono {K : PySem.W.Frag} {H H' : Hp} {a : Addr} {xs : List V} (e : ∀ b o, H b = some o → H' b = some o) (h : SqT K H a xs) : SqT K H' a xs := by
  rcases h with (h | ⟨o, h⟩) | h
  · exact .inl (.inl (e _ _ h))
  · exact .inl (.inr ⟨o, e _ _ h⟩)
  · exact .inr h

section
variable {K : PySem.W.Frag} {G : Nat → Addr} {F F' : Hp} {ph ph' : List Addr}
mutual
theorem R.mono (e : Ext F ph F' ph') : ∀ (d : D) (v : V), R K G F ph d v → R K G F' ph' d v
  | .non, _, h => by simpa only [R] using h
  | .bl _, _, h => by simpa only [R] using h
  | .int _, _, h => by simpa only [R] using h
  | .str _, _, h => by simpa only [R] using h
  | .lst ds, v, h => by
    simp only [R] at h ⊢
    obtain ⟨a, vs, h1, h2, h3⟩ := h
    exact ⟨a, vs, h1, e.fz _ _ h2, Rs.mono e ds vs h3⟩
  | .tup ds, v, h => by
    simp only [R] at h ⊢
    obtain ⟨a, vs, h1, h2, h3⟩ := h
    exact ⟨a, vs, h1, e.fz _ _ h2, Rs.mono e ds vs h3⟩
  | .ro ds, v, h => by
    simp only [R] at h ⊢
    obtain ⟨a, vs, h1, h2, h3⟩ := h
    exact ⟨a, vs, h1, Same.seq e.fz h2, Rs.mono e ds vs h3⟩
  | .dct kvs, v, h => by
    simp only [R] at h ⊢
    obtain ⟨a, vs, h1, h2, h3⟩ := h
    exact ⟨a, vs, h1, e.fz _ _ h2, Rk.mono e kvs vs h3⟩
  | .ins c fs, v, h => by
    simp only [R] at h ⊢
    obtain ⟨a, dx, vs, h1, h2, h3⟩ := h
    exact ⟨a, dx, vs, h1, e.fz _ _ h2, Rf.mono e fs vs h3⟩
  | .cell n, v, h => by
    simp only [R] at h ⊢
    obtain ⟨a, h1, h2⟩ := h
    exact ⟨a, h1, e.ph _ _ h2⟩
  | .cls _, _, h => by simpa only [R] using h
  | .ty _, _, h => by simpa only [R] using h
theorem Rs.mono (e : Ext F ph F' ph') : ∀ (ds : List D) (vs : List V), Rs K G F ph ds vs → Rs K G F' ph' ds vs
  | [], vs, h => by simpa only [Rs] using h
  | d :: ds, vs, h => by
    simp only [Rs] at h ⊢
    obtain ⟨v, ws, h1, h2, h3⟩ := h
    exact ⟨v, ws, h1, R.mono e d v h2, Rs.mono e ds ws h3⟩
theorem Rk.mono (e : Ext F ph F' ph') : ∀ (ds : List (Key × D)) (vs : List (Key × V)), Rk K G F ph ds vs → Rk K G F' ph' ds vs
  | [], vs, h => by simpa only [Rk] using h
  | (k, d) :: ds, vs, h => by
    simp only [Rk] at h ⊢
    obtain ⟨v, ws, h1, h2, h3⟩ := h
    exact ⟨v, ws, h1, R.mono e d v h2, Rk.mono e ds ws h3⟩
theorem Rf.mono (e : Ext F ph F' ph') : ∀ (ds : List (Str × D)) (vs : List (Str × V)), Rf K G F ph ds vs → Rf K G F' ph' ds vs
  | [], vs, h => by simpa only [Rf] using h
  | (k, d) :: ds, vs, h => by
    simp only [Rf] at h ⊢
    obtain ⟨v, ws, h1, h2, h3⟩ := h
    exact ⟨v, ws, h1, R.mono e d v h2, Rf.mono e ds ws h3⟩
end
theorem Rs.len : ∀ {ds : List D} {vs : List V}, Rs K G F ph ds vs → vs.length = ds.length
  | [], vs, h => by simp only [Rs] at h; rw [h]; rfl
  | d :: ds, vs, h => by
    simp only [Rs] at h
    obtain ⟨v, ws, rfl, _, h3⟩ := h
    simp [Rs.len h3]
theorem Rs.get : ∀ {ds : List D} {vs : List V} {i : Nat} {d : D}, Rs K G F ph ds vs → ds[i]? = some d → ∃ v, vs[i]? = some v ∧ R K G F ph d v
  | [], vs, i, d, h, e => by simp at e
  | d0 :: ds, vs, 0, d, h, e => by
    simp only [Rs] at h
    obtain ⟨v, ws, rfl, h2, _⟩ := h
    simp at e; subst e
    exact ⟨v, by simp, h2⟩
  | d0 :: ds, vs, i + 1, d, h, e => by
    simp only [Rs] at h
    obtain ⟨v, ws, rfl, _, h3⟩ := h
    obtain ⟨u, e1, e2⟩ := Rs.get (i := i) h3 (by simpa using e)
    exact ⟨u, by simpa using e1, e2⟩
theorem Rs.app : ∀ {ds es : List D} {vs ws : List V}, Rs K G F ph ds vs → Rs K G F ph es ws → Rs K G F ph (ds ++ es) (vs ++ ws)
  | [], es, vs, ws, h, h' => by simp only [Rs] at h; subst h; simpa using h'
  | d :: ds, es, vs, ws, h, h' => by
    simp only [Rs] at h
    obtain ⟨v, us, rfl, h2, h3⟩ := h
    simp only [List.cons_append, Rs]
    exact ⟨v, us ++ ws, rfl, h2, Rs.app h3 h'⟩
theorem Rs.one {d : D} {v : V} (h : R K G F ph d v) : Rs K G F ph [d] [v] := by
  simp only [Rs]; exact ⟨v, [], rfl, h, rfl⟩
theorem Rs.drop : ∀ (n : Nat) {ds : List D} {vs : List V}, Rs K G F ph ds vs → Rs K G F ph (ds.drop n) (vs.drop n)
  | 0, _, _, h => by simpa using h
  | n + 1, [], vs, h => by simp only [Rs] at h; subst h; simp [Rs]
  | n + 1, d :: ds, vs, h => by
    simp only [Rs] at h
    obtain ⟨v, us, rfl, h2, h3⟩ := h
    simpa using Rs.drop n h3
theorem Rs.take : ∀ (n : Nat) {ds : List D} {vs : List V}, Rs K G F ph ds vs → Rs K G F ph (ds.take n) (vs.take n)
  | 0, _, _, h => by simp [Rs]
  | n + 1, [], vs, h => by simp only [Rs] at h; subst h; simp [Rs]
  | n + 1, d :: ds, vs, h => by
    simp only [Rs] at h
    obtain ⟨v, us, rfl, h2, h3⟩ := h
    simp only [List.take_succ_cons, Rs]
    exact ⟨v, _, rfl, h2, Rs.take n h3⟩
theorem Rs.set {d : D} {v : V} (h : R K G F ph d v) : ∀ (n : Nat) {ds : List D} {vs : List V}, Rs K G F ph ds vs → Rs K G F ph (ds.set n d) (vs.set n v)
  | _, [], vs, h0 => by simp only [Rs] at h0; subst h0; simp [Rs]
  | 0, e :: ds, vs, h0 => by
    simp only [Rs] at h0
    obtain ⟨w, us, rfl, h2, h3⟩ := h0
    simp only [List.set_cons_zero, Rs]
    exact ⟨v, us, rfl, h, h3⟩
  | n + 1, e :: ds, vs, h0 => by
    simp only [Rs] at h0
    obtain ⟨w, us, rfl, h2, h3⟩ := h0
    simp only [List.set_cons_succ, Rs]
    exact ⟨w, _, rfl, h2, Rs.set h n h3⟩
theorem Rs.rev {ds : List D} {vs : List V} (h : Rs K G F ph ds vs) : Rs K G F ph ds.reverse vs.reverse := by
  induction ds generalizing vs with
  | nil => simp only [Rs] at h; subst h; simp [Rs]
  | cons d ds ih =>
    simp only [Rs] at h
    obtain ⟨v, us, rfl, h2, h3⟩ := h
    simp only [List.reverse_cons]
    exact (ih h3).app (Rs.one h2)
end

/-! ### states -/
def CellOk (K : PySem.W.Frag) (G : Nat → Addr) (F : Hp) (ph : List Addr) (H : Hp) (a : Addr) : Cell → Prop
  | .lst ds => F a = none ∧ ∃ vs, H a = some (.lst vs) ∧ Rs K G F ph ds vs
  | .ins c fs => F a = none ∧ ∃ dx ws, H a = some (.ins (G c) dx ws) ∧ Rf K G F ph fs ws
  | .dct kvs => F a = none ∧ ∃ ws, H a = some (.dK ws) ∧ Rk K G F ph kvs ws
  | .fz d => F a ≠ none ∧ R K G F ph d (.ref a)
structure RelS (K : PySem.W.Frag) (G : Nat → Addr) (F : Hp) (ph : List Addr) (st : Store) (H : Hp) : Prop where
  sub : ∀ a o, F a = some o → H a = some o
  len : ph.length = st.length
  nd : ph.Nodup
  cells : ∀ (n : Nat) c a, st[n]? = some c → ph[n]? = some a → CellOk K G F ph H a c
structure RelE (K : PySem.W.Frag) (G : Nat → Addr) (F : Hp) (ph : List Addr) (σ : L2.St) (env : Env) : Prop where
  len : σ.length = env.length
  get : ∀ (i : Nat) d, env[i]? = some (some d) → ∃ v, σ[i]? = some (some v) ∧ R K G F ph d v
structure Rel (K : PySem.W.Frag) (G : Nat → Addr) (F : Hp) (ph : List Addr) (σ : L2.St) (env : Env) (st : Store) (H : Hp) : Prop where
  s : RelS K G F ph st H
  e : RelE K G F ph σ env
section
variable {K : PySem.W.Frag} {G : Nat → Addr} {F F' : Hp} {ph ph' : List Addr} {σ : L2.St} {env : Env} {st st' : Store} {H H' : Hp}
theorem RelE.mono (e : Ext F ph F' ph') (h : RelE K G F ph σ env) : RelE K G F' ph' σ env :=
  ⟨h.len, fun i d q => let ⟨v, h1, h2⟩ := h.get i d q; ⟨v, h1, R.mono e d v h2⟩⟩
theorem RelE.set (h : RelE K G F ph σ env) (i : Nat) {d : D} {v : V} (r : R K G F ph d v) : RelE K G F ph (σ.set i (some v)) (env.set i (some d)) := by
  refine ⟨by simp [h.len], fun j e q => ?_⟩
  by_cases hj : i = j
  · subst hj
    have hi : i < env.length := by
      rcases Nat.lt_or_ge i env.length with z | z
      · exact z
      · rw [List.getElem?_eq_none (by simpa using z)] at q; cases q
    rw [List.getElem?_set_self hi] at q
    cases q
    exact ⟨v, by rw [List.getElem?_set_self (by rw [h.len]; exact hi)], r⟩
  · rw [List.getElem?_set_ne hj] at q
    rw [List.getElem?_set_ne hj]
    exact h.get j e q
theorem RelE.forget (h : RelE K G F ph σ env) (i : Nat) : RelE K G F ph (σ.set i none) (env.set i none) := by
  refine ⟨by simp [h.len], fun j e q => ?_⟩
  by_cases hj : i = j
  · subst hj
    rcases Nat.lt_or_ge i env.length with z | z
    · rw [List.getElem?_set_self z] at q; cases q
    · rw [List.getElem?_eq_none (by simpa using z)] at q; cases q
  · rw [List.getElem?_set_ne hj] at q
    rw [List.getElem?_set_ne hj]
    exact h.get j e q
/-- every cell's place is tracked -/
theorem RelS.there (h : RelS K G F ph st H) {n : Nat} {a : Addr} (q : ph[n]? = some a) : ∃ o, H a = some o := by
  have hn : n < st.length := by rw [← h.len]; exact (List.getElem?_eq_some_iff.mp q).1
  have c := h.cells n st[n] a (by simp [hn]) q
  cases e : st[n] with
  | lst ds => rw [e] at c; obtain ⟨_, vs, x, _⟩ := c; exact ⟨_, x⟩
  | ins k fs => rw [e] at c; obtain ⟨_, dx, ws, x, _⟩ := c; exact ⟨_, x⟩
  | dct kvs => rw [e] at c; obtain ⟨_, ws, x, _⟩ := c; exact ⟨_, x⟩
  | fz d =>
    rw [e] at c
    obtain ⟨z, _⟩ := c
    cases q : F a with
    | none => exact absurd q z
    | some o => exact ⟨o, h.sub _ _ q⟩
theorem RelS.fresh (h : RelS K G F ph st H) {p : Addr} (hp : H p = none) : F p = none ∧ p ∉ ph := by
  refine ⟨?_, fun hm => ?_⟩
  · cases q : F p with
    | none => rfl
    | some o => rw [h.sub _ _ q] at hp; cases hp
  · obtain ⟨n, hn, e⟩ := List.getElem_of_mem hm
    obtain ⟨o, q⟩ := h.there (n := n) (by rw [List.getElem?_eq_getElem hn, e])
    rw [hp] at q; cases q
/-- a frozen object laid anew -/
theorem RelS.lay (h : RelS K G F ph st H) {p : Addr} {o : HO} (hp : H p = none) : Ex F ph H (upd F p o) ph (upd H p o) ∧ RelS K G (upd F p o) ph st (upd H p o) := by
  obtain ⟨hF, hm⟩ := h.fresh hp
  have ex : Ext F ph (upd F p o) ph := ⟨fun a u q => by rw [upd_ne (ne_of_none q hF)]; exact q, fun _ _ q => q⟩
  refine ⟨⟨ex, fun a u q _ => by rw [upd_ne (ne_of_none q hp)]; exact q, fun _ z => .inl z, fun a u q => ?_⟩, ⟨fun a u q => ?_, h.len, h.nd, fun n c a q1 q2 => ?_⟩⟩
  · by_cases e : a = p
    · subst e; exact .inr (.inl hp)
    · rw [upd_ne e] at q; exact .inl ⟨u, q⟩
  · by_cases e : a = p
    · subst e; rw [upd_same] at q ⊢; exact q
    · rw [upd_ne e] at q ⊢; exact h.sub a u q
  · have ne : a ≠ p := fun e => hm (e ▸ List.mem_of_getElem? q2)
    have c0 := h.cells n c a q1 q2
    cases c with
    | lst ds =>
      obtain ⟨z, vs, x, r⟩ := c0
      exact ⟨by rw [upd_ne ne]; exact z, vs, by rw [upd_ne ne]; exact x, Rs.mono ex ds vs r⟩
    | ins k fs =>
      obtain ⟨z, dx, ws, x, r⟩ := c0
      exact ⟨by rw [upd_ne ne]; exact z, dx, ws, by rw [upd_ne ne]; exact x, Rf.mono ex fs ws r⟩
    | dct kvs =>
      obtain ⟨z, ws, x, r⟩ := c0
      exact ⟨by rw [upd_ne ne]; exact z, ws, by rw [upd_ne ne]; exact x, Rk.mono ex kvs ws r⟩
    | fz d =>
      obtain ⟨z, r⟩ := c0
      exact ⟨by rw [upd_ne ne]; exact z, R.mono ex d _ r⟩
/-- a cell laid anew -/
theorem RelS.layCell (h : RelS K G F ph st H) {p : Addr} {o : HO} {c : Cell} (hp : H p = none) (hc : CellOk K G F (ph ++ [p]) (upd H p o) p c) :
    Ex F ph H F (ph ++ [p]) (upd H p o) ∧ RelS K G F (ph ++ [p]) (st ++ [c]) (upd H p o) := by
  obtain ⟨hF, hm⟩ := h.fresh hp
  have ex : Ext F ph F (ph ++ [p]) := ⟨fun a u q => q, fun n a q => by
    rw [List.getElem?_append_left (List.getElem?_eq_some_iff.mp q).1]; exact q⟩
  refine ⟨⟨ex, fun a u q _ => by rw [upd_ne (ne_of_none q hp)]; exact q, fun a z => ?_, fun a u q => .inl ⟨u, q⟩⟩, ⟨fun a u q => ?_, by simp [h.len], ?_, fun n d a q1 q2 => ?_⟩⟩
  · rcases List.mem_append.mp z with z | z
    · exact .inl z
    · simp at z; subst z; exact .inr hp
  · rw [upd_ne (ne_of_none q hF)]; exact h.sub a u q
  · rw [List.nodup_append]
    refine ⟨h.nd, by simp, fun a ha b hb => ?_⟩
    simp at hb; subst hb
    exact fun e => hm (e ▸ ha)
  · rcases Nat.lt_or_ge n st.length with z | z
    · rw [List.getElem?_append_left z] at q1
      rw [List.getElem?_append_left (by rw [h.len]; exact z)] at q2
      have ne : a ≠ p := fun e => hm (e ▸ List.mem_of_getElem? q2)
      have c0 := h.cells n d a q1 q2
      cases d with
      | lst ds =>
        obtain ⟨z, vs, x, r⟩ := c0
        exact ⟨z, vs, by rw [upd_ne ne]; exact x, Rs.mono ex ds vs r⟩
      | ins k fs =>
        obtain ⟨z, dx, ws, x, r⟩ := c0
        exact ⟨z, dx, ws, by rw [upd_ne ne]; exact x, Rf.mono ex fs ws r⟩
      | dct kvs =>
        obtain ⟨z, ws, x, r⟩ := c0
        exact ⟨z, ws, by rw [upd_ne ne]; exact x, Rk.mono ex kvs ws r⟩
      | fz d =>
        obtain ⟨z, r⟩ := c0
        exact ⟨z, R.mono ex d _ r⟩
    · have hn : n = st.length := by
        have := (List.getElem?_eq_some_iff.mp q1).1
        simp at this; omega
      subst hn
      rw [List.getElem?_append_right (Nat.le_refl _)] at q1
      rw [List.getElem?_append_right (by rw [h.len]; exact Nat.le_refl _)] at q2
      simp at q1
      simp [h.len] at q2
      subst q1; subst q2
      exact hc
/-- a cell written -/
theorem RelS.put (h : RelS K G F ph st H) {n : Nat} {p : Addr} {o : HO} {c : Cell} (hn : ph[n]? = some p) (hF : F p = none) (hc : CellOk K G F ph (upd H p o) p c) :
    Ex F ph H F ph (upd H p o) ∧ RelS K G F ph (st.set n c) (upd H p o) := by
  refine ⟨⟨Ext.refl _ _, fun a u q na => by
    have ne : a ≠ p := fun z => na (by rw [z]; exact List.mem_of_getElem? hn)
    rw [upd_ne ne]; exact q, fun _ z => .inl z, fun a u q => .inl ⟨u, q⟩⟩, ?_⟩
  refine ⟨fun a u q => ?_, by simp [h.len], h.nd, fun m d a q1 q2 => ?_⟩
  · rw [upd_ne (ne_of_none q hF)]; exact h.sub a u q
  · by_cases e : n = m
    · subst e
      rw [hn] at q2; cases q2
      have hl : n < st.length := by rw [← h.len]; exact (List.getElem?_eq_some_iff.mp hn).1
      rw [List.getElem?_set_self hl] at q1; cases q1
      exact hc
    · rw [List.getElem?_set_ne e] at q1
      have ne : a ≠ p := fun z => e (by
        obtain ⟨l1, e1⟩ := List.getElem?_eq_some_iff.mp hn
        obtain ⟨l2, e2⟩ := List.getElem?_eq_some_iff.mp q2
        exact (List.getElem_inj h.nd).mp (e1.trans (z.symm.trans e2.symm)))
      have c0 := h.cells m d a q1 q2
      cases d with
      | lst ds =>
        obtain ⟨z, vs, x, r⟩ := c0
        exact ⟨z, vs, by rw [upd_ne ne]; exact x, r⟩
      | ins k fs =>
        obtain ⟨z, dx, ws, x, r⟩ := c0
        exact ⟨z, dx, ws, by rw [upd_ne ne]; exact x, r⟩
      | dct kvs =>
        obtain ⟨z, ws, x, r⟩ := c0
        exact ⟨z, ws, by rw [upd_ne ne]; exact x, r⟩
      | fz d => exact c0
/-- a list's cell frozen -/
theorem RelS.freezeL (h : RelS K G F ph st H) {n : Nat} {p : Addr} {ds : List D} (hn : ph[n]? = some p) (hs : st[n]? = some (.lst ds)) :
    ∃ vs, Ex F ph H (upd F p (.lst vs)) ph H ∧ RelS K G (upd F p (.lst vs)) ph (st.set n (.fz (.lst ds))) H ∧ R K G (upd F p (.lst vs)) ph (.lst ds) (.ref p) := by
  obtain ⟨hF, vs, hH, r⟩ := h.cells n _ p hs hn
  have ex : Ext F ph (upd F p (.lst vs)) ph := ⟨fun a u q => by rw [upd_ne (ne_of_none q hF)]; exact q, fun _ _ q => q⟩
  have rp : R K G (upd F p (.lst vs)) ph (.lst ds) (.ref p) := by
    simp only [R]; exact ⟨p, vs, rfl, upd_same, Rs.mono ex ds vs r⟩
  refine ⟨vs, ⟨ex, fun a u q _ => q, fun _ z => .inl z, fun a u q => ?_⟩, ⟨fun a u q => ?_, by simp [h.len], h.nd, fun m d a q1 q2 => ?_⟩, rp⟩
  · by_cases e : a = p
    · subst e; exact .inr (.inr (List.mem_of_getElem? hn))
    · rw [upd_ne e] at q; exact .inl ⟨u, q⟩
  · by_cases e : a = p
    · subst e; rw [upd_same] at q; cases q; exact hH
    · rw [upd_ne e] at q; exact h.sub a u q
  · by_cases e : n = m
    · subst e
      rw [hn] at q2; cases q2
      have hl : n < st.length := by rw [← h.len]; exact (List.getElem?_eq_some_iff.mp hn).1
      rw [List.getElem?_set_self hl] at q1; cases q1
      exact ⟨by rw [upd_same]; simp, rp⟩
    · rw [List.getElem?_set_ne e] at q1
      have ne : a ≠ p := fun z => e (by
        obtain ⟨l1, e1⟩ := List.getElem?_eq_some_iff.mp hn
        obtain ⟨l2, e2⟩ := List.getElem?_eq_some_iff.mp q2
        exact (List.getElem_inj h.nd).mp (e1.trans (z.symm.trans e2.symm)))
      have c0 := h.cells m d a q1 q2
      cases d with
      | lst ds =>
        obtain ⟨z, vs, x, r⟩ := c0
        exact ⟨by rw [upd_ne ne]; exact z, vs, x, Rs.mono ex ds vs r⟩
      | ins k fs =>
        obtain ⟨z, dx, ws, x, r⟩ := c0
        exact ⟨by rw [upd_ne ne]; exact z, dx, ws, x, Rf.mono ex fs ws r⟩
      | dct kvs =>
        obtain ⟨z, ws, x, r⟩ := c0
        exact ⟨by rw [upd_ne ne]; exact z, ws, x, Rk.mono ex kvs ws r⟩
      | fz d =>
        obtain ⟨z, r⟩ := c0
        exact ⟨by rw [upd_ne ne]; exact z, R.mono ex d _ r⟩
/-- an object that is neither frozen nor a cell is written -/
theorem RelS.outside (h : RelS K G F ph st H) {p : Addr} {o : HO} (hF : F p = none) (hm : p ∉ ph) : RelS K G F ph st (upd H p o) := by
  refine ⟨fun a u q => by rw [upd_ne (ne_of_none q hF)]; exact h.sub a u q, h.len, h.nd, fun n c a q1 q2 => ?_⟩
  have ne : a ≠ p := fun e => hm (e ▸ List.mem_of_getElem? q2)
  have c0 := h.cells n c a q1 q2
  cases c with
  | lst ds => obtain ⟨z, vs, x, r⟩ := c0; exact ⟨z, vs, by rw [upd_ne ne]; exact x, r⟩
  | ins k fs => obtain ⟨z, dx, ws, x, r⟩ := c0; exact ⟨z, dx, ws, by rw [upd_ne ne]; exact x, r⟩
  | dct kvs => obtain ⟨z, ws, x, r⟩ := c0; exact ⟨z, ws, by rw [upd_ne ne]; exact x, r⟩
  | fz d => exact c0
/-- .. is frozen as it stands -/
theorem RelS.adopt (h : RelS K G F ph st H) {p : Addr} {o : HO} (hF : F p = none) (hm : p ∉ ph) (hH : H p = some o) : Ext F ph (upd F p o) ph ∧ RelS K G (upd F p o) ph st H := by
  have ex : Ext F ph (upd F p o) ph := ⟨fun a u q => by rw [upd_ne (ne_of_none q hF)]; exact q, fun _ _ q => q⟩
  refine ⟨ex, fun a u q => ?_, h.len, h.nd, fun n c a q1 q2 => ?_⟩
  · by_cases e : a = p
    · subst e; rw [upd_same] at q; cases q; exact hH
    · rw [upd_ne e] at q; exact h.sub a u q
  · have ne : a ≠ p := fun e => hm (e ▸ List.mem_of_getElem? q2)
    have c0 := h.cells n c a q1 q2
    cases c with
    | lst ds => obtain ⟨z, vs, x, r⟩ := c0; exact ⟨by rw [upd_ne ne]; exact z, vs, x, Rs.mono ex ds vs r⟩
    | ins k fs => obtain ⟨z, dx, ws, x, r⟩ := c0; exact ⟨by rw [upd_ne ne]; exact z, dx, ws, x, Rf.mono ex fs ws r⟩
    | dct kvs => obtain ⟨z, ws, x, r⟩ := c0; exact ⟨by rw [upd_ne ne]; exact z, ws, x, Rk.mono ex kvs ws r⟩
    | fz d => obtain ⟨z, r⟩ := c0; exact ⟨by rw [upd_ne ne]; exact z, R.mono ex d _ r⟩
/-- .. is a cell from now on -/
theorem RelS.adoptC (h : RelS K G F ph st H) {p : Addr} {c : Cell} (hm : p ∉ ph) (hc : CellOk K G F (ph ++ [p]) H p c) : Ext F ph F (ph ++ [p]) ∧ RelS K G F (ph ++ [p]) (st ++ [c]) H := by
  have ex : Ext F ph F (ph ++ [p]) := ⟨fun a u q => q, fun n a q => by
    rw [List.getElem?_append_left (List.getElem?_eq_some_iff.mp q).1]; exact q⟩
  refine ⟨ex, h.sub, by simp [h.len], ?_, fun n d a q1 q2 => ?_⟩
  · rw [List.nodup_append]
    refine ⟨h.nd, by simp, fun a ha b hb => ?_⟩
    simp at hb; subst hb
    exact fun e => hm (e ▸ ha)
  · rcases Nat.lt_or_ge n st.length with z | z
    · rw [List.getElem?_append_left z] at q1
      rw [List.getElem?_append_left (by rw [h.len]; exact z)] at q2
      have c0 := h.cells n d a q1 q2
      cases d with
      | lst ds => obtain ⟨z, vs, x, r⟩ := c0; exact ⟨z, vs, x, Rs.mono ex ds vs r⟩
      | ins k fs => obtain ⟨z, dx, ws, x, r⟩ := c0; exact ⟨z, dx, ws, x, Rf.mono ex fs ws r⟩
      | dct kvs => obtain ⟨z, ws, x, r⟩ := c0; exact ⟨z, ws, x, Rk.mono ex kvs ws r⟩
      | fz d => obtain ⟨z, r⟩ := c0; exact ⟨z, R.mono ex d _ r⟩
    · have hn : n = st.length := by
        have := (List.getElem?_eq_some_iff.mp q1).1
        simp at this; omega
      subst hn
      rw [List.getElem?_append_right (Nat.le_refl _)] at q1
      rw [List.getElem?_append_right (by rw [h.len]; exact Nat.le_refl _)] at q2
      simp at q1
      simp [h.len] at q2
      subst q1; subst q2
      exact hc
end
end Den

namespace Den
open PySem PySem.Spec PyProof.Rows L2

/-! ### what is wanted of a result -/
def XOk (K : PySem.W.Frag) (G : Nat → Addr) (F : Hp) (ph : List Addr) (x : Xc) (dd : Option Addr) : Prop :=
  (x.fs = [] ∧ dd = none) ∨ ∃ d ws, dd = some d ∧ F d = some (.xd ws) ∧ Rf K G F ph x.fs ws
section
variable (K : PySem.W.Frag) (G : Nat → Addr) {α β : Type} (RR : Hp → List Addr → α → β → Prop) (W : WX)
def want (σ : L2.St) (env : Env) (Q : β → Hp → Prop) (F : Hp) (ph : List Addr) (H : Hp) : Res α → Prop
  | .ok d st => ∀ F' ph' v H', Ex F ph H F' ph' H' → Rel K G F' ph' σ env st H' → RR F' ph' d v → Q v H'
  | .exc x st => ∀ F' ph' dd H', Ex F ph H F' ph' H' → Rel K G F' ph' σ env st H' → XOk K G F' ph' x dd → W (.ref (G x.c)) dd σ H'
  | .bad => False
def rd (f : Env → Store → Res α) : L2.St → Hp → (β → Hp → Prop) → Prop := fun σ H Q =>
  ∃ F ph env st, Rel K G F ph σ env st H ∧ want K G RR W σ env Q F ph H (f env st)
end
section
variable {K : PySem.W.Frag} {G : Nat → Addr} {α β α' β' : Type} {RR : Hp → List Addr → α → β → Prop} {RR' : Hp → List Addr → α' → β' → Prop} {W : WX}
  {σ : L2.St} {env : Env} {Q : β → Hp → Prop} {Q' : β' → Hp → Prop} {F F' : Hp} {ph ph' : List Addr} {st : Store} {H H' : Hp}
theorem want.mono {r : Res α} (e : Ex F ph H F' ph' H') (h : want K G RR W σ env Q F ph H r) : want K G RR W σ env Q F' ph' H' r := by
  cases r with
  | ok d st => exact fun F2 p2 v H2 e2 => h F2 p2 v H2 (e.trans e2)
  | exc x st => exact fun F2 p2 v H2 e2 => h F2 p2 v H2 (e.trans e2)
  | bad => exact h
theorem want.bind {r : Res α} {k : α → Store → Res α'} (h : want K G RR' W σ env Q' F ph H (r.bind k))
    (nx : ∀ d st1 F1 p1 v H1, Ex F ph H F1 p1 H1 → Rel K G F1 p1 σ env st1 H1 → RR F1 p1 d v → want K G RR' W σ env Q' F1 p1 H1 (k d st1) → Q v H1) :
    want K G RR W σ env Q F ph H r := by
  cases r with
  | ok d st => exact fun F1 p1 v H1 e r1 r2 => nx d st F1 p1 v H1 e r1 r2 (want.mono e h)
  | exc x st => exact h
  | bad => exact h
theorem want.fin {d : α} {v : β} (h : want K G RR W σ env Q F ph H (.ok d st)) (r : Rel K G F ph σ env st H) (rv : RR F ph d v) : Q v H :=
  h F ph v H (Ex.refl _ _ _) r rv
end
theorem peImp {X : Cx} {e : Expr} {t t' : TE} (h : PE X e t) (i : ∀ σ H Q, t' σ H Q → t σ H Q) : PE X e t' := ⟨fun p s σ H Q I q => h.run p s σ H Q I (i σ H Q q)⟩
theorem ptImp {X : Cx} {e : Expr} {t t' : TT} (h : PT X e t) (i : ∀ σ H Q, t' σ H Q → t σ H Q) : PT X e t' := ⟨fun p s σ H Q I q => h.run p s σ H Q I (i σ H Q q)⟩
theorem pwImp {X : Cx} {e : Expr} {t t' : TT} (h : PW X e t) (i : ∀ σ H Q, t' σ H Q → t σ H Q) : PW X e t' := ⟨fun w p s σ H Q I q => h.run w p s σ H Q I (i σ H Q q)⟩
theorem paImp {X : Cx} {es : List Expr} {t t' : TA} (h : PA X es t) (i : ∀ σ H Q, t' σ H Q → t σ H Q) : PA X es t' := ⟨fun p pi s σ H Q I q => h.run p pi s σ H Q I (i σ H Q q)⟩
theorem psImp {X : Cx} {st : Stmt} {t t' : TS} (h : PS X st t) (i : ∀ D σ H, t' D σ H → t D σ H) : PS X st t' := ⟨fun p s σ H D I q => h.run p s σ H D I (i D σ H q)⟩
theorem pssImp {X : Cx} {st : List Stmt} {t t' : TS} (h : PSs X st t) (i : ∀ D σ H, t' D σ H → t D σ H) : PSs X st t' := ⟨fun p s σ H D I q => h.run p s σ H D I (i D σ H q)⟩

abbrev EqB : Hp → List Addr → Bool → Bool → Prop := fun _ _ a b => a = b
abbrev DenE := Env → Store → Res D
abbrev DenT := Env → Store → Res Bool
abbrev DenA := Env → Store → Res (List D)
def DE (X : Cx) (G : Nat → Addr) (W : WX) (e : Expr) (f : DenE) : Prop := PE X e (rd X.K G (R X.K G) W f)
def DT (X : Cx) (G : Nat → Addr) (W : WX) (e : Expr) (f : DenT) : Prop := PT X e (rd X.K G EqB W f)
def DW (X : Cx) (G : Nat → Addr) (W : WX) (e : Expr) (f : DenT) : Prop := PW X e (rd X.K G EqB W f)
def DA (X : Cx) (G : Nat → Addr) (W : WX) (es : List Expr) (f : DenA) : Prop := PA X es (rd X.K G (Rs X.K G) W f)

/-! ### names, constants -/
section
variable {X : Cx} {G : Nat → Addr} {W : WX}
def eVar (i : Nat) : DenE := fun env st => match env[i]? with
  | some (some d) => .ok d st
  | _ => .bad
def eK (d : D) : DenE := fun _ st => .ok d st
theorem de_var (i : Nat) {x : Str} {pos : Pos} (hN : X.N[i]? = some x := by rfl) (hv : Vis X.env.scope x := by first | exact Or.inl rfl | exact Or.inr (Or.inl rfl) | exact Or.inr (Or.inr rfl))
    (hd : (x == ("__debug__" : Str)) = false := by decide) (hcd : (x == ("__classdict__" : Str)) = false := by decide) : DE X G W (.Name x pos) (eVar i) := by
  refine peImp (pe_var hN hv hd hcd) fun σ H Q ⟨F, ph, env, st, r, w⟩ => ?_
  unfold eVar at w
  split at w
  · rename_i d e
    obtain ⟨v, e1, e2⟩ := r.e.get i d e
    exact ⟨v, e1, w.fin r e2⟩
  · exact w.elim
theorem de_int {i j pos} : DE X G W (.Constant (.int i) j pos) (eK (.int i)) := peImp pe_int fun σ H Q ⟨F, ph, env, st, r, w⟩ => w.fin r (by simp only [R])
theorem de_str {x j pos} : DE X G W (.Constant (.str x) j pos) (eK (.str x)) := peImp pe_str fun σ H Q ⟨F, ph, env, st, r, w⟩ => w.fin r (by simp only [R])
theorem de_bl {x j pos} : DE X G W (.Constant (.bool x) j pos) (eK (.bl x)) := peImp pe_bl fun σ H Q ⟨F, ph, env, st, r, w⟩ => w.fin r (by simp only [R])
theorem de_non {j pos} : DE X G W (.Constant .none j pos) (eK .non) := peImp pe_non fun σ H Q ⟨F, ph, env, st, r, w⟩ => w.fin r (by simp only [R])
/-- a module's constant that is an int or a text -/
def flatD : D → V → Bool
  | .int i, .int j => i == j
  | .str x, .str y => x == y
  | .bl x, .bl y => x == y
  | .non, .non => true
  | _, _ => false
theorem de_glob {x : Str} {d : D} {v : V} {u : Value} {pos : Pos} (hm : X.mg x = some u) (r : RelV v u) (hf : flatD d v = true) (hg : Gl X x := by rfl) (hd : (x == ("__debug__" : Str)) = false := by decide) : DE X G W (.Name x pos) (eK d) :=
  peImp (pe_glob hg hm r hd) fun σ H Q ⟨F, ph, env, st, r, w⟩ => w.fin r (by
    cases d <;> cases v <;> simp_all [flatD, R])
theorem de_gcls {x : Str} {c : Nat} {pos : Pos} (hm : X.mg x = some (.ref (G c))) (hg : Gl X x := by rfl) (hd : (x == ("__debug__" : Str)) = false := by decide) : DE X G W (.Name x pos) (eK (.cls c)) :=
  peImp (pe_glob (v := .ref (G c)) hg hm rfl hd) fun σ H Q ⟨F, ph, env, st, r, w⟩ => w.fin r (by simp only [R])
theorem de_bty {x : Str} {T : String} {pos : Pos} (hm : X.mg x = none) (hv : bootBuiltins x = some (.type T)) (hg : Gl X x := by rfl) (hn : x ≠ "__name__" := by decide) (hd : (x == ("__debug__" : Str)) = false := by decide) : DE X G W (.Name x pos) (eK (.ty T)) :=
  peImp (pe_bltn (v := .ty T) hg hm hv rfl hn hd) fun σ H Q ⟨F, ph, env, st, r, w⟩ => w.fin r (by simp only [R])

/-! ### operators by values -/
def rO (K : PySem.W.Frag) (G : Nat → Addr) (W : WX) (g : D → D → Store → Res D) : R2 := fun x y H Q =>
  ∃ σ env F ph st d e, Rel K G F ph σ env st H ∧ R K G F ph d x ∧ R K G F ph e y ∧ want K G (R K G) W σ env Q F ph H (g d e st)
def OpD (X : Cx) (G : Nat → Addr) (W : WX) (fn : Value → Value → Sem Value) (g : D → D → Store → Res D) : Prop := OpR X fn (rO X.K G W g)
def eBin (g : D → D → Store → Res D) (fa fb : DenE) : DenE := fun env st => (fa env st).bind fun d st1 => (fb env st1).bind fun e st2 => g d e st2
theorem bin_imp {g : D → D → Store → Res D} {fa fb : DenE} {σ : L2.St} {H : Hp} {Q : VK} (h : rd X.K G (R X.K G) W (eBin g fa fb) σ H Q) :
    rd X.K G (R X.K G) W fa σ H fun x H1 => rd X.K G (R X.K G) W fb σ H1 fun y H2 => rO X.K G W g x y H2 Q := by
  obtain ⟨F, ph, env, st, r, w⟩ := h
  refine ⟨F, ph, env, st, r, w.bind fun d st1 F1 p1 v H1 e1 r1 rv w1 => ⟨F1, p1, env, st1, r1, w1.bind fun d2 st2 F2 p2 v2 H2 e2 r2 rv2 w2 => ?_⟩⟩
  exact ⟨σ, env, F2, p2, st2, d, d2, r2, R.mono e2.x d v rv, rv2, w2⟩
theorem de_bin {op : Operator} {g : D → D → Store → Res D} {a b : Expr} {fa fb : DenE} {pos : Pos} (ho : OpD X G W (binaryOp op) g) (ha : DE X G W a fa) (hb : DE X G W b fb) : DE X G W (.BinOp a op b pos) (eBin g fa fb) :=
  peImp (pe_op ho ha hb) fun _ _ _ h => bin_imp h
theorem de_cmp {op : CmpOp} {g : D → D → Store → Res D} {a b : Expr} {fa fb : DenE} {pos : Pos} (ho : OpD X G W (compareOp op) g) (ha : DE X G W a fa) (hb : DE X G W b fb) (hm : behindInMarks op b = false := by first | exact nomark _ | rfl) : DE X G W (.Compare a [op] [b] pos) (eBin g fa fb) :=
  peImp (pe_cmpR ho ha hb hm) fun _ _ _ h => bin_imp h
/-- a value that is a truth, as a test -/
def tOf (f : DenE) : DenT := fun env st => (f env st).bind fun d st1 => match d with
  | .bl b => .ok b st1
  | _ => .bad
theorem tOf_imp {f : DenE} {σ : L2.St} {H : Hp} {Q : Bool → Hp → Prop} (h : rd X.K G EqB W (tOf f) σ H Q) : rd X.K G (R X.K G) W f σ H fun x H' => ∃ k, x = .bl k ∧ Q k H' := by
  obtain ⟨F, ph, env, st, r, w⟩ := h
  refine ⟨F, ph, env, st, r, w.bind fun d st1 F1 p1 v H1 e1 r1 rv w1 => ?_⟩
  cases d with
  | bl b =>
    simp only [R] at rv
    exact ⟨b, rv, w1.fin r1 rfl⟩
  | _ => exact w1.elim
theorem dt_cmp {op : CmpOp} {g : D → D → Store → Res D} {a b : Expr} {fa fb : DenE} {pos : Pos} (ho : OpD X G W (compareOp op) g) (ha : DE X G W a fa) (hb : DE X G W b fb) (hm : behindInMarks op b = false := by first | exact nomark _ | rfl) : DT X G W (.Compare a [op] [b] pos) (tOf (eBin g fa fb)) := by
  refine ptImp (pt_cmpR ho ha hb hm) fun σ H Q h => ?_
  exact bin_imp (Q := fun x H' => ∃ k, x = .bl k ∧ Q k H') (tOf_imp h)
def eChain (g g' : D → D → Store → Res D) (fa fb fc : DenE) : DenE := fun env st => (fa env st).bind fun d st1 => (fb env st1).bind fun e st2 => (g d e st2).bind fun z st3 => match z with
  | .bl true => (fc env st3).bind fun c st4 => g' e c st4
  | .bl false => .ok (.bl false) st3
  | _ => .bad
theorem chain_imp {g g' : D → D → Store → Res D} {fa fb fc : DenE} {σ : L2.St} {H : Hp} {Q : VK} (h : rd X.K G (R X.K G) W (eChain g g' fa fb fc) σ H Q) :
    tChain (rO X.K G W g) (rO X.K G W g') (rd X.K G (R X.K G) W fa) (rd X.K G (R X.K G) W fb) (rd X.K G (R X.K G) W fc) σ H Q := by
  obtain ⟨F, ph, env, st, r, w⟩ := h
  refine ⟨F, ph, env, st, r, w.bind fun d st1 F1 p1 v H1 e1 r1 rv w1 => ⟨F1, p1, env, st1, r1, w1.bind fun d2 st2 F2 p2 v2 H2 e2 r2 rv2 w2 => ?_⟩⟩
  refine ⟨σ, env, F2, p2, st2, d, d2, r2, R.mono e2.x d v rv, rv2, w2.bind fun z st3 F3 p3 v3 H3 e3 r3 rv3 w3 => ?_⟩
  cases z with
  | bl b =>
    simp only [R] at rv3
    refine ⟨b, rv3, ?_⟩
    cases b with
    | true =>
      rw [if_pos rfl]
      refine ⟨F3, p3, env, st3, r3, want.bind (k := fun c st4 => g' d2 c st4) w3 fun d4 st4 F4 p4 v4 H4 e4 r4 rv4 w4 => ?_⟩
      exact ⟨σ, env, F4, p4, st4, d2, d4, r4, R.mono (e3.trans e4).x d2 v2 rv2, rv4, w4⟩
    | false =>
      rw [if_neg (by simp)]
      exact want.fin (d := D.bl false) w3 r3 (by simp only [R])
  | _ => exact w3.elim
theorem de_chain {op op' : CmpOp} {g g' : D → D → Store → Res D} {a b c : Expr} {fa fb fc : DenE} {pos : Pos} (ho : OpD X G W (compareOp op) g) (ho' : OpD X G W (compareOp op') g') (ha : DE X G W a fa) (hb : DE X G W b fb) (hc : DE X G W c fc)
    (hm : lastMarks [op, op'] [b, c] = false := by with_unfolding_all rfl) : DE X G W (.Compare a [op, op'] [b, c] pos) (eChain g g' fa fb fc) :=
  peImp (pe_chain ho ho' ha hb hc hm) fun _ _ _ h => chain_imp h
theorem dt_chain {op op' : CmpOp} {g g' : D → D → Store → Res D} {a b c : Expr} {fa fb fc : DenE} {pos : Pos} (ho : OpD X G W (compareOp op) g) (ho' : OpD X G W (compareOp op') g') (ha : DE X G W a fa) (hb : DE X G W b fb) (hc : DE X G W c fc)
    (hm : lastMarks [op, op'] [b, c] = false := by with_unfolding_all rfl) : DT X G W (.Compare a [op, op'] [b, c] pos) (tOf (eChain g g' fa fb fc)) :=
  ptImp (pt_chain ho ho' ha hb hc hm) fun σ H Q h => chain_imp (Q := fun x H' => ∃ k, x = .bl k ∧ Q k H') (tOf_imp h)

/-! ### one place -/
def rU1 (K : PySem.W.Frag) (G : Nat → Addr) (W : WX) (g : D → Store → Res D) : V → Hp → VK → Prop := fun x H Q =>
  ∃ σ env F ph st d, Rel K G F ph σ env st H ∧ R K G F ph d x ∧ want K G (R K G) W σ env Q F ph H (g d st)
def eUn (g : D → Store → Res D) (fa : DenE) : DenE := fun env st => (fa env st).bind g
theorem un_imp {g : D → Store → Res D} {fa : DenE} {σ : L2.St} {H : Hp} {Q : VK} (h : rd X.K G (R X.K G) W (eUn g fa) σ H Q) :
    rd X.K G (R X.K G) W fa σ H fun x H1 => rU1 X.K G W g x H1 Q := by
  obtain ⟨F, ph, env, st, r, w⟩ := h
  exact ⟨F, ph, env, st, r, w.bind fun d st1 F1 p1 v H1 e1 r1 rv w1 => ⟨σ, env, F1, p1, st1, d, r1, rv, w1⟩⟩
theorem de_un {op : UnaryOp} {g : D → Store → Res D} {a : Expr} {fa : DenE} {pos : Pos} (ho : UnR X (unaryOp op) (rU1 X.K G W g)) (ha : DE X G W a fa) : DE X G W (.UnaryOp op a pos) (eUn g fa) :=
  peImp (pe_un ho ha) fun _ _ _ h => un_imp h
def negD (d : D) (st : Store) : Res D := match d with
  | .int i => .ok (.int (-i)) st
  | _ => .bad
theorem od_neg : UnR X (unaryOp .USub) (rU1 X.K G W negD) := by
  intro pins s σ H x v Q I rx ⟨σ', env, F, ph, st, d, r, rd, w⟩
  cases d with
  | int i =>
    simp only [R] at rd; subst rd
    exact un_neg pins s σ H _ v Q I rx ⟨i, rfl, w.fin r (by simp only [R])⟩
  | _ => exact w.elim

/-! ### and, or, not, if -/
def eAnd (fa fb : DenE) : DenE := fun env st => (fa env st).bind fun d st1 => match d with
  | .bl true => fb env st1
  | .bl false => .ok (.bl false) st1
  | _ => .bad
def eOr (fa fb : DenE) : DenE := fun env st => (fa env st).bind fun d st1 => match d with
  | .bl true => .ok (.bl true) st1
  | .bl false => fb env st1
  | _ => .bad
def eNot (fa : DenE) : DenE := fun env st => (fa env st).bind fun d st1 => match d with
  | .bl b => .ok (.bl (!b)) st1
  | _ => .bad
variable {a b c : Expr} {fa fb : DenE} {ta tb : DenT} {rest : List Expr} {pos : Pos}
theorem de_one {op} (h : DE X G W a fa) : DE X G W (.BoolOp op [a] pos) fa := pe_one h
theorem de_and (ha : DE X G W a fa) (hb : DE X G W (.BoolOp .And (b :: rest) pos) fb) : DE X G W (.BoolOp .And (a :: b :: rest) pos) (eAnd fa fb) := by
  refine peImp (pe_and ha hb) fun σ H Q ⟨F, ph, env, st, r, w⟩ => ⟨F, ph, env, st, r, w.bind fun d st1 F1 p1 v H1 e1 r1 rv w1 => ?_⟩
  cases d with
  | bl k =>
    simp only [R] at rv
    refine ⟨k, rv, ?_⟩
    cases k with
    | true => rw [if_pos rfl]; exact ⟨F1, p1, env, st1, r1, w1⟩
    | false => rw [if_neg (by simp)]; exact want.fin (d := D.bl false) w1 r1 (by simp only [R])
  | _ => exact w1.elim
theorem de_or (ha : DE X G W a fa) (hb : DE X G W (.BoolOp .Or (b :: rest) pos) fb) : DE X G W (.BoolOp .Or (a :: b :: rest) pos) (eOr fa fb) := by
  refine peImp (pe_or ha hb) fun σ H Q ⟨F, ph, env, st, r, w⟩ => ⟨F, ph, env, st, r, w.bind fun d st1 F1 p1 v H1 e1 r1 rv w1 => ?_⟩
  cases d with
  | bl k =>
    simp only [R] at rv
    refine ⟨k, rv, ?_⟩
    cases k with
    | true => rw [if_pos rfl]; exact want.fin (d := D.bl true) w1 r1 (by simp only [R])
    | false => rw [if_neg (by simp)]; exact ⟨F1, p1, env, st1, r1, w1⟩
  | _ => exact w1.elim
theorem de_not (ha : DE X G W a fa) : DE X G W (.UnaryOp .Not a pos) (eNot fa) := by
  refine peImp (pe_not ha) fun σ H Q ⟨F, ph, env, st, r, w⟩ => ⟨F, ph, env, st, r, w.bind fun d st1 F1 p1 v H1 e1 r1 rv w1 => ?_⟩
  cases d with
  | bl k =>
    simp only [R] at rv
    exact ⟨k, rv, want.fin (d := D.bl (!k)) w1 r1 (by simp only [R])⟩
  | _ => exact w1.elim
def tAndD (ta tb : DenT) : DenT := fun env st => (ta env st).bind fun b st1 => if b then tb env st1 else .ok false st1
def tOrD (ta tb : DenT) : DenT := fun env st => (ta env st).bind fun b st1 => if b then .ok true st1 else tb env st1
def tNotD (ta : DenT) : DenT := fun env st => (ta env st).bind fun b st1 => .ok (!b) st1
theorem dt_val (h : DE X G W a fa) (he : ∀ whole, isTrue a X.env whole = (do let v ← whole; standAt a.pos; holding [v] (truthy v)) := by intro _; rfl) : DT X G W a (tOf fa) :=
  ptImp (pt_val h he) fun σ H Q h => tOf_imp h
theorem dw_and1 (h : DT X G W a ta) : DW X G W (.BoolOp .And [a] pos) ta := pw_and1 h
theorem dw_or1 (h : DT X G W a ta) : DW X G W (.BoolOp .Or [a] pos) ta := pw_or1 h
theorem dw_and (ha : DT X G W a ta) (hb : DW X G W (.BoolOp .And (b :: rest) pos) tb) : DW X G W (.BoolOp .And (a :: b :: rest) pos) (tAndD ta tb) := by
  refine pwImp (pw_and ha hb) fun σ H Q ⟨F, ph, env, st, r, w⟩ => ⟨F, ph, env, st, r, w.bind fun k st1 F1 p1 v H1 e1 r1 rv w1 => ?_⟩
  cases rv
  cases k with
  | true => rw [if_pos rfl]; exact ⟨F1, p1, env, st1, r1, w1⟩
  | false => rw [if_neg (by simp)]; exact want.fin (d := false) w1 r1 rfl
theorem dw_or (ha : DT X G W a ta) (hb : DW X G W (.BoolOp .Or (b :: rest) pos) tb) : DW X G W (.BoolOp .Or (a :: b :: rest) pos) (tOrD ta tb) := by
  refine pwImp (pw_or ha hb) fun σ H Q ⟨F, ph, env, st, r, w⟩ => ⟨F, ph, env, st, r, w.bind fun k st1 F1 p1 v H1 e1 r1 rv w1 => ?_⟩
  cases rv
  cases k with
  | true => rw [if_pos rfl]; exact want.fin (d := true) w1 r1 rfl
  | false => rw [if_neg (by simp)]; exact ⟨F1, p1, env, st1, r1, w1⟩
theorem dt_w (h : DW X G W a ta) : DT X G W a ta := PW.pt h
theorem dt_not (ha : DT X G W a ta) : DT X G W (.UnaryOp .Not a pos) (tNotD ta) := by
  refine ptImp (pt_not ha) fun σ H Q ⟨F, ph, env, st, r, w⟩ => ⟨F, ph, env, st, r, w.bind fun k st1 F1 p1 v H1 e1 r1 rv w1 => ?_⟩
  cases rv
  exact want.fin (d := !k) w1 r1 rfl
def eIf (t : DenT) (fa fb : DenE) : DenE := fun env st => (t env st).bind fun b st1 => if b then fa env st1 else fb env st1
theorem de_if (hc : DT X G W c ta) (ha : DE X G W a fa) (hb : DE X G W b fb) : DE X G W (.IfExp c a b pos) (eIf ta fa fb) := by
  refine peImp (pe_ifExp hc ha hb) fun σ H Q ⟨F, ph, env, st, r, w⟩ => ⟨F, ph, env, st, r, w.bind fun k st1 F1 p1 v H1 e1 r1 rv w1 => ?_⟩
  cases rv
  cases k with
  | true => rw [if_pos rfl]; exact ⟨F1, p1, env, st1, r1, w1⟩
  | false => rw [if_neg (by simp)]; exact ⟨F1, p1, env, st1, r1, w1⟩

/-! ### argument lists, displays -/
def aNil : DenA := fun _ st => .ok [] st
def aCons (f : DenE) (g : DenA) : DenA := fun env st => (f env st).bind fun d st1 => (g env st1).bind fun ds st2 => .ok (d :: ds) st2
theorem da_nil : DA X G W [] aNil := paImp pa_nil fun σ H Q ⟨F, ph, env, st, r, w⟩ => w.fin r (by simp only [Rs])
theorem da_cons {e : Expr} {es : List Expr} {f : DenE} {g : DenA} (h : DE X G W e f) (hr : DA X G W es g) (hs : starEach (e :: es) X.env = (false, eval e X.env) :: starEach es X.env := by rfl) : DA X G W (e :: es) (aCons f g) := by
  refine paImp (pa_cons h hr hs) fun σ H Q ⟨F, ph, env, st, r, w⟩ => ⟨F, ph, env, st, r, w.bind fun d st1 F1 p1 v H1 e1 r1 rv w1 => ⟨F1, p1, env, st1, r1, w1.bind fun ds st2 F2 p2 vs H2 e2 r2 rvs w2 => ?_⟩⟩
  exact w2.fin r2 (by simp only [Rs]; exact ⟨v, vs, rfl, R.mono e2.x d v rv, rvs⟩)
/-- laying a new list, a new tuple -/
theorem want.newL {K : PySem.W.Frag} {σ : L2.St} {env : Env} {Q : VK} {F : Hp} {ph : List Addr} {st : Store} {H : Hp} {ds : List D} {vs : List V} {p : Addr} (w : want K G (R K G) W σ env Q F ph H (.ok (.lst ds) st)) (r : Rel K G F ph σ env st H) (rs : Rs K G F ph ds vs) (hp : H p = none) : Q (.ref p) (upd H p (.lst vs)) := by
  obtain ⟨ex, r'⟩ := r.s.lay (o := .lst vs) hp
  exact w _ _ _ _ ex ⟨r', r.e.mono ex.x⟩ (by simp only [R]; exact ⟨p, vs, rfl, upd_same, Rs.mono ex.x ds vs rs⟩)
theorem want.newT {K : PySem.W.Frag} {σ : L2.St} {env : Env} {Q : VK} {F : Hp} {ph : List Addr} {st : Store} {H : Hp} {ds : List D} {vs : List V} {p : Addr} (w : want K G (R K G) W σ env Q F ph H (.ok (.tup ds) st)) (r : Rel K G F ph σ env st H) (rs : Rs K G F ph ds vs) (hp : H p = none) : Q (.ref p) (upd H p (.tup vs)) := by
  obtain ⟨ex, r'⟩ := r.s.lay (o := .tup vs) hp
  exact w _ _ _ _ ex ⟨r', r.e.mono ex.x⟩ (by simp only [R]; exact ⟨p, vs, rfl, upd_same, Rs.mono ex.x ds vs rs⟩)
/-- .. a list that is a cell -/
theorem want.newC {K : PySem.W.Frag} {σ : L2.St} {env : Env} {Q : VK} {F : Hp} {ph : List Addr} {st : Store} {H : Hp} {ds : List D} {vs : List V} {p : Addr} (w : want K G (R K G) W σ env Q F ph H (.ok (.cell st.length) (st ++ [.lst ds]))) (r : Rel K G F ph σ env st H) (rs : Rs K G F ph ds vs) (hp : H p = none) : Q (.ref p) (upd H p (.lst vs)) := by
  have hF := (r.s.fresh hp).1
  have ex0 : Ext F ph F (ph ++ [p]) := ⟨fun _ _ q => q, fun n a q => by rw [List.getElem?_append_left (List.getElem?_eq_some_iff.mp q).1]; exact q⟩
  obtain ⟨ex, r'⟩ := r.s.layCell (o := .lst vs) (c := .lst ds) hp ⟨hF, vs, upd_same, Rs.mono ex0 ds vs rs⟩
  exact w _ _ _ _ ex ⟨r', r.e.mono ex.x⟩ (by simp only [R]; exact ⟨p, rfl, by rw [List.getElem?_append_right (by rw [r.s.len]; exact Nat.le_refl _)]; simp [r.s.len]⟩)
def mkL (ds : List D) (st : Store) : Res D := if ds.length ≤ sizeLine then .ok (.lst ds) st else .bad
def mkT (ds : List D) (st : Store) : Res D := if ds.length ≤ sizeLine then .ok (.tup ds) st else .bad
def mkC (ds : List D) (st : Store) : Res D := if ds.length ≤ sizeLine then .ok (.cell st.length) (st ++ [.lst ds]) else .bad
def eArgs (g : List D → Store → Res D) (f : DenA) : DenE := fun env st => (f env st).bind g
variable {es : List Expr} {g : DenA}
theorem de_lst (h : DA X G W es g) : DE X G W (.List es pos) (eArgs mkL g) := by
  refine peImp (pe_lst h) fun σ H Q ⟨F, ph, env, st, r, w⟩ => ⟨F, ph, env, st, r, w.bind fun ds st1 F1 p1 vs H1 e1 r1 rv w1 => ?_⟩
  unfold mkL at w1
  split at w1
  · rename_i hz
    exact ⟨by rw [rv.len]; exact hz, fun p hp => w1.newL r1 rv hp⟩
  · exact w1.elim
theorem de_lstC (h : DA X G W es g) : DE X G W (.List es pos) (eArgs mkC g) := by
  refine peImp (pe_lst h) fun σ H Q ⟨F, ph, env, st, r, w⟩ => ⟨F, ph, env, st, r, w.bind fun ds st1 F1 p1 vs H1 e1 r1 rv w1 => ?_⟩
  unfold mkC at w1
  split at w1
  · rename_i hz
    exact ⟨by rw [rv.len]; exact hz, fun p hp => w1.newC r1 rv hp⟩
  · exact w1.elim
theorem de_tup {x1} (h : DA X G W es g) : DE X G W (.Tuple es x1 pos) (eArgs mkT g) := by
  refine peImp (pe_tup h) fun σ H Q ⟨F, ph, env, st, r, w⟩ => ⟨F, ph, env, st, r, w.bind fun ds st1 F1 p1 vs H1 e1 r1 rv w1 => ?_⟩
  unfold mkT at w1
  split at w1
  · rename_i hz
    exact ⟨by rw [rv.len]; exact hz, fun p hp => w1.newT r1 rv hp⟩
  · exact w1.elim
end
end Den

namespace Den
open PySem PySem.Spec PyProof.Rows L2

/-! ### reading lists -/
def asC (c : Cell) : Option (List D) := match c with
  | .lst ds => some ds
  | .fz (.lst ds) => some ds
  | _ => none
/-- a list that may be joined, repeated (no locked one) -/
def asL (st : Store) : D → Option (List D)
  | .lst ds => some ds
  | .cell n => (st[n]?).bind asC
  | _ => none
/-- any list -/
def asR (st : Store) : D → Option (List D)
  | .ro ds => some ds
  | d => asL st d
def asT : D → Option (List D)
  | .tup ds => some ds
  | _ => none
section
variable {K : PySem.W.Frag} {G : Nat → Addr} {F : Hp} {ph : List Addr} {st : Store} {H : Hp} {d : D} {v : V} {ds : List D}
theorem RelS.cellAt (r : RelS K G F ph st H) {n : Nat} {c : Cell} (h : st[n]? = some c) : ∃ a, ph[n]? = some a ∧ CellOk K G F ph H a c := by
  have hn : n < ph.length := by rw [r.len]; exact (List.getElem?_eq_some_iff.mp h).1
  exact ⟨ph[n], by simp [hn], r.cells n c _ h (by simp [hn])⟩
theorem asL_ok (r : RelS K G F ph st H) (rv : R K G F ph d v) (h : asL st d = some ds) : ∃ a vs, v = .ref a ∧ H a = some (.lst vs) ∧ Rs K G F ph ds vs := by
  cases d with
  | lst es =>
    simp only [asL, Option.some.injEq] at h; subst h
    simp only [R] at rv
    obtain ⟨a, vs, h1, h2, h3⟩ := rv
    exact ⟨a, vs, h1, r.sub _ _ h2, h3⟩
  | cell n =>
    simp only [R] at rv
    obtain ⟨a, h1, h2⟩ := rv
    simp only [asL] at h
    obtain ⟨c, e, h⟩ := Option.bind_eq_some_iff.mp h
    have ck := r.cells n _ a e h2
    unfold asC at h
    split at h
    · cases h
      obtain ⟨_, vs, h3, h4⟩ := ck
      exact ⟨a, vs, h1, h3, h4⟩
    · cases h
      obtain ⟨_, h3⟩ := ck
      simp only [R] at h3
      obtain ⟨b, vs, q, h4, h5⟩ := h3
      cases q
      exact ⟨a, vs, h1, r.sub _ _ h4, h5⟩
    · cases h
  | _ => simp only [asL] at h; cases h
theorem asR_ok (r : RelS K G F ph st H) (rv : R K G F ph d v) (h : asR st d = some ds) : ∃ a vs, v = .ref a ∧ SqL K H a vs ∧ Rs K G F ph ds vs := by
  cases d with
  | ro es =>
    simp only [asR, Option.some.injEq] at h; subst h
    simp only [R] at rv
    obtain ⟨a, vs, h1, h2, h3⟩ := rv
    exact ⟨a, vs, h1, Same.seq r.sub h2, h3⟩
  | lst es =>
    obtain ⟨a, vs, h1, h2, h3⟩ := asL_ok r rv h
    exact ⟨a, vs, h1, SqL.of h2, h3⟩
  | cell n =>
    obtain ⟨a, vs, h1, h2, h3⟩ := asL_ok r rv h
    exact ⟨a, vs, h1, SqL.of h2, h3⟩
  | _ => simp only [asR, asL] at h; cases h
theorem asT_ok (r : RelS K G F ph st H) (rv : R K G F ph d v) (h : asT d = some ds) : ∃ a vs, v = .ref a ∧ H a = some (.tup vs) ∧ Rs K G F ph ds vs := by
  cases d with
  | tup es =>
    simp only [asT, Option.some.injEq] at h; subst h
    simp only [R] at rv
    obtain ⟨a, vs, h1, h2, h3⟩ := rv
    exact ⟨a, vs, h1, r.sub _ _ h2, h3⟩
  | _ => simp only [asT] at h; cases h
theorem SqT.len {X : Cx} {pins : List (Addr × Obj)} {σ : L2.St} {H : Hp} {s : Shared} {a : Addr} {xs : List V} (I : Inv X pins σ H s) (h : SqT X.K H a xs) : xs.length ≤ sizeLine :=
  let ⟨_, _, _, z⟩ := I.tuple h; z
end

section
variable {X : Cx} {G : Nat → Addr} {W : WX}
/-! ### + -/
def addD (d e : D) (st : Store) : Res D :=
  match d, e with
  | .int i, .int j => .ok (.int (i + j)) st
  | .str x, .str y => if x.length + y.length ≤ sizeLine then .ok (.str (x ++ y)) st else .bad
  | .tup a, .tup b => if a.length + b.length ≤ sizeLine then .ok (.tup (a ++ b)) st else .bad
  | d, e => match asL st d, asL st e with
    | some a, some b => if a.length + b.length ≤ sizeLine then .ok (.lst (a ++ b)) st else .bad
    | _, _ => .bad
theorem od_add : OpD X G W (binaryOp .Add) addD := by
  intro pins s σ H x y v u Q I rx ry ⟨σ', env, F, ph, st, d, e, r, rd, re, w⟩
  unfold addD at w
  split at w
  · simp only [R] at rd re; subst rd; subst re
    exact op_add pins s σ H _ _ v u Q I rx ry ⟨_, _, rfl, rfl, w.fin r (by simp only [R])⟩
  · simp only [R] at rd re; subst rd; subst re
    split at w
    · rename_i hz
      exact op_add_str pins s σ H _ _ v u Q I rx ry ⟨_, _, rfl, rfl, hz, w.fin r (by simp only [R])⟩
    · exact w.elim
  · rename_i a b
    split at w
    · rename_i hz
      obtain ⟨p, vs, h1, h2, h3⟩ := asT_ok r.s rd (ds := a) rfl
      obtain ⟨q, ws, h4, h5, h6⟩ := asT_ok r.s re (ds := b) rfl
      refine op_catA pins s σ H _ _ v u Q I rx ry ⟨p, q, vs, ws, h1, h4, SqT.of h2, SqT.of h5, by rw [h3.len, h6.len]; exact hz, fun z => ?_, fun z1 z2 => ?_, fun z1 z2 t ht => ?_⟩
      · subst z
        have ea : a = [] := List.length_eq_zero_iff.mp h3.len.symm
        subst ea
        rw [← h4]; exact w.fin r (by simpa using re)
      · subst z2
        have eb : b = [] := List.length_eq_zero_iff.mp h6.len.symm
        subst eb
        rw [← h1]; exact w.fin r (by simpa using rd)
      · exact w.newT r (h3.app h6) ht
    · exact w.elim
  · split at w
    · rename_i a b ha hb
      split at w
      · rename_i hz
        obtain ⟨p, vs, h1, h2, h3⟩ := asL_ok r.s rd ha
        obtain ⟨q, ws, h4, h5, h6⟩ := asL_ok r.s re hb
        exact op_cat pins s σ H _ _ v u Q I rx ry ⟨p, q, vs, ws, h1, h4, h2, h5, by rw [h3.len, h6.len]; exact hz, fun t ht => w.newL r (h3.app h6) ht⟩
      · exact w.elim
    · exact w.elim
/-! ### -, *, //, %, ** -/
def subD (d e : D) (st : Store) : Res D := match d, e with
  | .int i, .int j => .ok (.int (i - j)) st
  | _, _ => .bad
theorem od_sub : OpD X G W (binaryOp .Sub) subD := by
  intro pins s σ H x y v u Q I rx ry ⟨σ', env, F, ph, st, d, e, r, rd, re, w⟩
  unfold subD at w
  split at w
  · simp only [R] at rd re; subst rd; subst re
    exact op_sub pins s σ H _ _ v u Q I rx ry ⟨_, _, rfl, rfl, w.fin r (by simp only [R])⟩
  · exact w.elim
def mulOk (i j : Int) : Bool := decide ((Builtin.Int.intBits i : Int) + (Builtin.Int.intBits j : Int) ≤ 134217728)
theorem mulOk_iff {i j : Int} (h : mulOk i j = true) : CMulX i j := by
  unfold mulOk at h
  unfold CMulX
  simpa using h
theorem mulS_ok {z : Str} {k : Int} (h : z.length ≤ 1000 ∧ 0 ≤ k ∧ k ≤ 1000) : MulOk z k := by
  obtain ⟨h1, h2, h3⟩ := h
  refine ⟨by simp; omega, fun h0 _ => ?_, fun _ _ => ?_⟩
  · have hm : (z.length : Int) * k ≤ 2 ^ 63 - 1 := by
      have := Int.mul_le_mul (show (z.length : Int) ≤ 1000 by omega) h3 h2 (by omega)
      omega
    have := (Int.le_ediv_iff_mul_le (show 0 < k by omega)).mpr hm
    omega
  · have : z.length * k.toNat ≤ 1000 * 1000 := Nat.mul_le_mul h1 (by omega)
    show decide (_ > sizeLine) = false
    rw [sizeLine_eq]
    exact decide_eq_false (by omega)
theorem op_mulS {X : Cx} : OpR X (binaryOp .Mult) (fun x y H Q => ∃ z k, x = .str z ∧ y = .int k ∧ MulOk z k ∧ Q (.str (Txt.mul z k)) H) := by
  intro pins s σ H x y v u Q I rx ry ⟨z, k, ex, ey, hm, q⟩
  subst ex; subst ey
  obtain ⟨t, rfl⟩ := rx
  obtain ⟨t', rfl⟩ := ry
  exact SB.mul hm fun t' k => ⟨.str _, _, I.tok k, ⟨_, rfl⟩, q⟩
def mulD (d e : D) (st : Store) : Res D := match d, e with
  | .int i, .int j => if mulOk i j then .ok (.int (i * j)) st else .bad
  | .str z, .int k => if z.length ≤ 1000 ∧ 0 ≤ k ∧ k ≤ 1000 then .ok (.str (Txt.mul z k)) st else .bad
  | d, .int k => match asL st d with
    | some a => if -(2 ^ 63) ≤ k ∧ k < 2 ^ 63 ∧ a.length * k.toNat ≤ sizeLine then .ok (.lst (List.replicate k.toNat a).flatten) st else .bad
    | none => .bad
  | _, _ => .bad
theorem Rs.rep {K : PySem.W.Frag} {F : Hp} {ph : List Addr} {ds : List D} {vs : List V} (h : Rs K G F ph ds vs) : ∀ n : Nat, Rs K G F ph (List.replicate n ds).flatten (List.replicate n vs).flatten
  | 0 => by simp [Rs]
  | n + 1 => by
    simp only [List.replicate_succ, List.flatten_cons]
    exact h.app (Rs.rep h n)
theorem od_mul : OpD X G W (binaryOp .Mult) mulD := by
  intro pins s σ H x y v u Q I rx ry ⟨σ', env, F, ph, st, d, e, r, rd, re, w⟩
  unfold mulD at w
  split at w
  · simp only [R] at rd re; subst rd; subst re
    split at w
    · rename_i hm
      exact op_mulX pins s σ H _ _ v u Q I rx ry ⟨_, _, rfl, rfl, mulOk_iff hm, w.fin r (by simp only [R])⟩
    · exact w.elim
  · simp only [R] at rd re; subst rd; subst re
    split at w
    · rename_i hm
      exact op_mulS pins s σ H _ _ v u Q I rx ry ⟨_, _, rfl, rfl, mulS_ok hm, w.fin r (by simp only [R])⟩
    · exact w.elim
  · rename_i d k hne hne2
    simp only [R] at re; subst re
    split at w
    · rename_i a ha
      split at w
      · rename_i hz
        obtain ⟨p, vs, h1, h2, h3⟩ := asL_ok r.s rd ha
        exact op_rep pins s σ H _ _ v u Q I rx ry ⟨p, k, vs, h1, rfl, h2, hz.1, hz.2.1, by rw [h3.len]; exact hz.2.2, fun t ht => w.newL r (h3.rep _) ht⟩
      · exact w.elim
    · exact w.elim
  · exact w.elim
def divOk (j : Int) : Bool := decide (0 < j) && decide (j.natAbs.log2 < 9000)
def fdivD (d e : D) (st : Store) : Res D := match d, e with
  | .int i, .int j => if divOk j then .ok (.int (i / j)) st else .bad
  | _, _ => .bad
theorem divOk_iff {j : Int} (h : divOk j = true) : 0 < j ∧ j.natAbs.log2 < 9000 := by
  unfold divOk at h
  rw [Bool.and_eq_true] at h
  exact ⟨of_decide_eq_true h.1, of_decide_eq_true h.2⟩
theorem od_fdiv : OpD X G W (binaryOp .FloorDiv) fdivD := by
  intro pins s σ H x y v u Q I rx ry ⟨σ', env, F, ph, st, d, e, r, rd, re, w⟩
  unfold fdivD at w
  split at w
  · simp only [R] at rd re; subst rd; subst re
    split at w
    · rename_i hm
      exact op_fdivW pins s σ H _ _ v u Q I rx ry ⟨_, _, rfl, rfl, divOk_iff hm, w.fin r (by simp only [R])⟩
    · exact w.elim
  · exact w.elim
def modD (d e : D) (st : Store) : Res D := match d, e with
  | .int i, .int j => if 0 < j then .ok (.int (i % j)) st else .bad
  | _, _ => .bad
theorem od_mod : OpD X G W (binaryOp .Mod) modD := by
  intro pins s σ H x y v u Q I rx ry ⟨σ', env, F, ph, st, d, e, r, rd, re, w⟩
  unfold modD at w
  split at w
  · simp only [R] at rd re; subst rd; subst re
    split at w
    · rename_i hm
      exact op_mod pins s σ H _ _ v u Q I rx ry ⟨_, _, rfl, rfl, hm, w.fin r (by simp only [R])⟩
    · exact w.elim
  · exact w.elim
def powD (d e : D) (st : Store) : Res D := match d, e with
  | .int i, .int j => if 0 ≤ j ∧ j ≤ 1000000 ∧ i.natAbs < 2 ^ 64 then .ok (.int (i ^ j.toNat)) st else .bad
  | _, _ => .bad
theorem od_pow : OpD X G W (binaryOp .Pow) powD := by
  intro pins s σ H x y v u Q I rx ry ⟨σ', env, F, ph, st, d, e, r, rd, re, w⟩
  unfold powD at w
  split at w
  · simp only [R] at rd re; subst rd; subst re
    split at w
    · rename_i hm
      exact op_pow pins s σ H _ _ v u Q I rx ry ⟨_, _, rfl, rfl, hm, w.fin r (by simp only [R])⟩
    · exact w.elim
  · exact w.elim
/-! ### order -/
def cmpI (p : Int → Int → Bool) (d e : D) (st : Store) : Res D := match d, e with
  | .int i, .int j => .ok (.bl (p i j)) st
  | _, _ => .bad
theorem od_cmpI {op : CmpOp} {p : Int → Int → Bool} (h : OpR X (compareOp op) (rI0 fun i j => .bl (p i j))) : OpD X G W (compareOp op) (cmpI p) := by
  intro pins s σ H x y v u Q I rx ry ⟨σ', env, F, ph, st, d, e, r, rd, re, w⟩
  unfold cmpI at w
  split at w
  · simp only [R] at rd re; subst rd; subst re
    exact h pins s σ H _ _ v u Q I rx ry ⟨_, _, rfl, rfl, w.fin r (by simp only [R])⟩
  · exact w.elim
abbrev ltD := cmpI fun i j => decide (i < j)
abbrev leD := cmpI fun i j => decide (i ≤ j)
abbrev gtD := cmpI fun i j => decide (j < i)
abbrev geD := cmpI fun i j => decide (j ≤ i)
theorem od_lt : OpD X G W (compareOp .Lt) ltD := od_cmpI op_lt
theorem od_le : OpD X G W (compareOp .LtE) leD := od_cmpI op_le
theorem od_gt : OpD X G W (compareOp .Gt) gtD := od_cmpI op_gt
theorem od_ge : OpD X G W (compareOp .GtE) geD := od_cmpI op_ge
/-- is None, is not None -/
def isNon : D → Bool
  | .non => true
  | _ => false
def isND (d e : D) (st : Store) : Res D := match e with
  | .non => .ok (.bl (isNon d)) st
  | _ => .bad
def notND (d e : D) (st : Store) : Res D := match e with
  | .non => .ok (.bl (!isNon d)) st
  | _ => .bad
theorem R.isNon {K : PySem.W.Frag} {F : Hp} {ph : List Addr} {d : D} {v : V} (h : R K G F ph d v) : decide (v = .non) = isNon d := by
  cases d <;> simp only [R] at h
  case non => subst h; rfl
  case bl => subst h; rfl
  case int => subst h; rfl
  case str => subst h; rfl
  case cls => subst h; rfl
  case ty => subst h; rfl
  case lst => obtain ⟨a, _, rfl, _⟩ := h; rfl
  case tup => obtain ⟨a, _, rfl, _⟩ := h; rfl
  case ro => obtain ⟨a, _, rfl, _⟩ := h; rfl
  case dct => obtain ⟨a, _, rfl, _⟩ := h; rfl
  case ins => obtain ⟨a, _, _, rfl, _⟩ := h; rfl
  case cell => obtain ⟨a, rfl, _⟩ := h; rfl
theorem od_isN : OpD X G W (compareOp .Is) isND := by
  intro pins s σ H x y v u Q I rx ry ⟨σ', env, F, ph, st, d, e, r, rd, re, w⟩
  unfold isND at w
  split at w
  · simp only [R] at re; subst re
    exact op_isN pins s σ H _ _ v u Q I rx ry ⟨rfl, w.fin r (by simp only [R]; rw [R.isNon rd])⟩
  · exact w.elim
theorem od_notN : OpD X G W (compareOp .IsNot) notND := by
  intro pins s σ H x y v u Q I rx ry ⟨σ', env, F, ph, st, d, e, r, rd, re, w⟩
  unfold notND at w
  split at w
  · simp only [R] at re; subst re
    refine op_notN pins s σ H _ _ v u Q I rx ry ⟨rfl, w.fin r ?_⟩
    simp only [R]; rw [R.isNon rd]
  · exact w.elim
end
end Den

namespace Den
open PySem PySem.Spec PyProof.Rows L2

/-! ### plain data: to the library's data -/
def keyPy : Key → PyData
  | .inl i => .int i
  | .inr x => .str x
mutual
def toPyC (cel : Nat → Option PyData) : D → Option PyData
  | .non => some .none
  | .bl b => some (.bool b)
  | .int i => some (.int i)
  | .str x => some (.str x)
  | .lst ds => (toPyCs cel ds).map .list
  | .ro ds => (toPyCs cel ds).map .list
  | .tup ds => (toPyCs cel ds).map .tuple
  | .dct kvs => (toPyCk cel kvs).map .dict
  | .cell n => cel n
  | .ins _ _ => none
  | .cls _ => none
  | .ty _ => none
def toPyCs (cel : Nat → Option PyData) : List D → Option (List PyData)
  | [] => some []
  | d :: ds => match toPyC cel d, toPyCs cel ds with
    | some p, some ps => some (p :: ps)
    | _, _ => none
def toPyCk (cel : Nat → Option PyData) : List (Key × D) → Option (List (PyData × PyData))
  | [] => some []
  | (k, d) :: ds => match toPyC cel d, toPyCk cel ds with
    | some p, some ps => some ((keyPy k, p) :: ps)
    | _, _ => none
end
def cel0 (st : Store) (n : Nat) : Option PyData := ((st[n]?).bind asC).bind fun ds => (toPyCs (fun _ => none) ds).map .list
abbrev toPy (st : Store) (d : D) : Option PyData := toPyC (cel0 st) d

/-! ### a value that is such data, by the heap -/
def Dat (prog : Program) (w : World) (h : Heap) (u : Value) (p : PyData) : Prop :=
  (∃ as, Reads h u p as) ∧ (p.showable = true → p.shown.length ≤ sizeLine → ∃ bs, ReadAtMost h p.depth bs ∧ ReprK prog w bs h p.depth u p.shown)
def DatAll (prog : Program) (w : World) (h : Heap) (us : List Value) (ps : List PyData) : Prop :=
  (∃ as, ReadsAll h us ps as) ∧ (PyData.showableAll ps = true → (∀ t ∈ PyData.shownAll ps, t.length ≤ sizeLine) → ∃ bs, ReadAtMost h (PyData.depthAll ps) bs ∧ ReprAllK prog w bs h (PyData.depthAll ps) us (PyData.shownAll ps))
section
variable {prog : Program} {w : World} {h : Heap}
theorem DatAll.nil : DatAll prog w h [] [] := ⟨⟨_, .nil⟩, fun _ _ => ⟨[], (fun _ z => nomatch z), by simp only [PyData.shownAll]; exact .nil⟩⟩
theorem DatAll.cons {u : Value} {us : List Value} {p : PyData} {ps : List PyData} (a : Dat prog w h u p) (b : DatAll prog w h us ps) : DatAll prog w h (u :: us) (p :: ps) := by
  obtain ⟨⟨as, r1⟩, s1⟩ := a
  obtain ⟨⟨bs, r2⟩, s2⟩ := b
  refine ⟨⟨_, .cons r1 r2⟩, fun hs hz => ?_⟩
  have hs' : p.showable = true ∧ PyData.showableAll ps = true := by simpa [PyData.showableAll] using hs
  obtain ⟨c1, m1, k1⟩ := s1 hs'.1 (hz _ (by simp only [PyData.shownAll]; exact List.mem_cons_self ..))
  obtain ⟨c2, m2, k2⟩ := s2 hs'.2 (fun t ht => hz t (by simp only [PyData.shownAll]; exact List.mem_cons_of_mem _ ht))
  refine ⟨c1 ++ c2, (m1.mono ?_).append (m2.mono ?_), ?_⟩
  · simp only [PyData.depthAll]; exact Nat.le_max_left _ _
  · simp only [PyData.depthAll]; exact Nat.le_max_right _ _
  · simp only [PyData.depthAll, PyData.shownAll]
    exact .cons ((k1.more fun b hb => List.mem_append_left _ hb).level_le (Nat.le_max_left _ _)) (k2.more_le (fun b hb => List.mem_append_right _ hb) (Nat.le_max_right _ _))
theorem Dat.list {a : Addr} {o : Obj} {vs : List Value} {n : Nat} {ps : List PyData} (h1 : h.get? a = some o) (h2 : o.cls = .type "list") (h3 : o.data = .seq vs.toArray n) (A : DatAll prog w h vs ps) :
    Dat prog w h (.ref a) (.list ps) := by
  obtain ⟨⟨as, r⟩, sh⟩ := A
  have rl : Reads h (.ref a) (.list ps) (a :: as) := .list h1 h2 h3 (by simpa using r)
  refine ⟨⟨_, rl⟩, fun hs hz => ?_⟩
  have hz' : (listText (PyData.shownAll ps)).length ≤ sizeLine := by simpa only [PyData.shown] using hz
  obtain ⟨bs, m, k⟩ := sh (by simpa [PyData.showable] using hs) fun t ht => Nat.le_trans (listText_mem_le ht) hz'
  have hna : a ∉ bs := not_mem_of_deeper rl (by simp only [PyData.depth]; omega) m
  refine ⟨a :: bs, ReadAtMost.cons rl (by simp only [PyData.depth]; omega) m, ?_⟩
  simp only [PyData.depth, PyData.shown]
  cases vs with
  | nil =>
    cases r
    simp only [PyData.shownAll, listText_nil]
    exact ReprK.listEmpty h1 h2 h3
  | cons x l => exact ReprK.list h1 h2 h3 hna (by simpa using k.length_eq) fun i y e => k.item i y (by simpa using e)
theorem Dat.tuple {a : Addr} {o : Obj} {vs : List Value} {n : Nat} {ps : List PyData} (h1 : h.get? a = some o) (h2 : o.cls = .type "tuple") (h3 : o.data = .seq vs.toArray n) (A : DatAll prog w h vs ps) :
    Dat prog w h (.ref a) (.tuple ps) := by
  obtain ⟨⟨as, r⟩, sh⟩ := A
  have rl : Reads h (.ref a) (.tuple ps) as := .tuple h1 h2 h3 (by simpa using r)
  refine ⟨⟨_, rl⟩, fun hs hz => ?_⟩
  have hz' : (tupleText (PyData.shownAll ps)).length ≤ sizeLine := by simpa only [PyData.shown] using hz
  obtain ⟨bs, m, k⟩ := sh (by simpa [PyData.showable] using hs) fun t ht => Nat.le_trans (tupleText_mem_le ht) hz'
  have hna : a ∉ bs := not_mem_of_deeper rl (by simp only [PyData.depth]; omega) m
  refine ⟨a :: bs, ReadAtMost.cons rl (by simp only [PyData.depth]; omega) m, ?_⟩
  simp only [PyData.depth, PyData.shown]
  exact ReprK.tuple h1 h2 h3 hna (by simpa using k)
theorem Dat.dict {a : Addr} {o : Obj} {es : Array DictEntry} {n : Nat} {ps : List (PyData × PyData)} (h1 : h.get? a = some o) (h2 : o.cls = .type "dict") (h3 : o.data = .dict es n) (hy : (a == sysModules) = false)
    (A : DatAll prog w h (es.toList.map (·.key)) (ps.map (·.1))) (B : DatAll prog w h (es.toList.map (·.val)) (ps.map (·.2))) : Dat prog w h (.ref a) (.dict ps) := by
  obtain ⟨⟨as, r1⟩, s1⟩ := A
  obtain ⟨⟨bs, r2⟩, s2⟩ := B
  have rl : Reads h (.ref a) (.dict ps) (a :: as ++ bs) := .dict h1 h2 h3 r1 r2
  refine ⟨⟨_, rl⟩, fun hs hz => ?_⟩
  have hz' : (dictText (PyData.shownKv ps)).length ≤ sizeLine := by simpa only [PyData.shown] using hz
  obtain ⟨q1, q2⟩ := PyData.showableKv_split ps (by simpa [PyData.showable] using hs)
  obtain ⟨b1, m1, k1⟩ := s1 q1 fun t ht => let ⟨p, hp, hl⟩ := PyData.shownKv_key_le ps t ht; Nat.le_trans hl (Nat.le_trans (dictText_mem_le hp) hz')
  obtain ⟨b2, m2, k2⟩ := s2 q2 fun t ht => let ⟨p, hp, hl⟩ := PyData.shownKv_val_le ps t ht; Nat.le_trans hl (Nat.le_trans (dictText_mem_le hp) hz')
  have m : ReadAtMost h (PyData.depthKv ps) (b1 ++ b2) := (m1.mono (PyData.depthAll_keys_le ps)).append (m2.mono (PyData.depthAll_vals_le ps))
  have hna : a ∉ b1 ++ b2 := not_mem_of_deeper rl (by simp only [PyData.depth]; omega) m
  refine ⟨a :: (b1 ++ b2), ReadAtMost.cons rl (by simp only [PyData.depth]; omega) m, ?_⟩
  simp only [PyData.depth, PyData.shown, PyData.shownKv_eq]
  exact ReprK.dict h1 h2 h3 hy hna (ReprEntriesK.of_two es.toList _ _
    (k1.more_le (fun b hb => List.mem_append_left _ hb) (PyData.depthAll_keys_le ps)) (k2.more_le (fun b hb => List.mem_append_right _ hb) (PyData.depthAll_vals_le ps)))
theorem Dat.flat {u : Value} {p : PyData} (r : Reads h u p []) (k : p.showable = true → p.shown.length ≤ sizeLine → ReprIs prog w u p.shown) : Dat prog w h u p :=
  ⟨⟨_, r⟩, fun hs hz => ⟨[], (fun _ z => nomatch z), .of_is (k hs hz) _ _ _⟩⟩
theorem Dat.non : Dat prog w h .none .none := .flat .none fun _ _ => by simp only [PyData.shown]; exact ReprIs.none
theorem Dat.bool (b : Bool) : Dat prog w h (.bool b) (.bool b) := .flat (.bool b) fun _ _ => by simp only [PyData.shown]; exact ReprIs.bool b
theorem Dat.int (i : Int) (t : Tok) : Dat prog w h (.int i t) (.int i) := .flat (.int i t) fun hs _ => by simp only [PyData.shown]; exact ReprIs.int t (by simpa [PyData.showable] using hs)
theorem Dat.str (x : Str) (t : Tok) : Dat prog w h (.str x t) (.str x) := .flat (.str x t) fun _ hz => by simp only [PyData.shown]; exact ReprIs.str x t (by simpa only [PyData.shown] using hz)

/-- by the top's repr -/
theorem shows_list {a : Addr} {o : Obj} {vs : List Value} {n : Nat} {ps : List PyData} (h1 : h.get? a = some o) (h2 : o.cls = .type "list") (h3 : o.data = .seq vs.toArray n) (A : DatAll prog w h vs ps)
    (hs : (PyData.list ps).showable = true) (hz : (PyData.list ps).shown.length ≤ sizeLine) : ∃ T idr, ShowsBy prog w h a (.list ps) T idr := by
  obtain ⟨⟨as, r⟩, sh⟩ := A
  have rl : Reads h (.ref a) (.list ps) (a :: as) := .list h1 h2 h3 (by simpa using r)
  have hz' : (listText (PyData.shownAll ps)).length ≤ sizeLine := by simpa only [PyData.shown] using hz
  obtain ⟨bs, m, k⟩ := sh (by simpa [PyData.showable] using hs) fun t ht => Nat.le_trans (listText_mem_le ht) hz'
  have hna : a ∉ bs := not_mem_of_deeper rl (by simp only [PyData.depth]; omega) m
  refine ⟨"list", "list.__repr__", F.slot_list_repr.toG, F.slot_list_str, F.slot_list_format, fun s hk0 => ⟨o, hk0 _ _ h1, h2⟩, fun A E s Q hg hu hk0 hQ => ?_⟩
  simp only [PyData.depth] at hu
  simp only [PyData.shown] at hQ
  cases vs with
  | nil =>
    cases r
    simp only [PyData.shownAll, listText_nil] at hQ
    exact call_list_repr_empty ⟨o, hk0 _ _ h1, h2⟩ (hk0 _ _ h1) h3 (hQ s.heap _ _ fun _ _ e => e)
  | cons x l => exact call_list_reprK h1 h2 h3 hna (by simpa using k.length_eq) (fun i y e => k.item i y (by simpa using e)) hg (fun b _ => Clear.nil b) hu hk0 hQ hz'
theorem shows_tuple {a : Addr} {o : Obj} {vs : List Value} {n : Nat} {ps : List PyData} (h1 : h.get? a = some o) (h2 : o.cls = .type "tuple") (h3 : o.data = .seq vs.toArray n) (A : DatAll prog w h vs ps)
    (hs : (PyData.tuple ps).showable = true) (hz : (PyData.tuple ps).shown.length ≤ sizeLine) : ∃ T idr, ShowsBy prog w h a (.tuple ps) T idr := by
  obtain ⟨⟨as, r⟩, sh⟩ := A
  have rl : Reads h (.ref a) (.tuple ps) as := .tuple h1 h2 h3 (by simpa using r)
  have hz' : (tupleText (PyData.shownAll ps)).length ≤ sizeLine := by simpa only [PyData.shown] using hz
  obtain ⟨bs, m, k⟩ := sh (by simpa [PyData.showable] using hs) fun t ht => Nat.le_trans (tupleText_mem_le ht) hz'
  have hna : a ∉ bs := not_mem_of_deeper rl (by simp only [PyData.depth]; omega) m
  refine ⟨"tuple", "tuple.__repr__", F.slot_tuple_repr, F.slot_tuple_str, F.slot_tuple_format, fun s hk0 => ⟨o, hk0 _ _ h1, h2⟩, fun A E s Q hg hu hk0 hQ => ?_⟩
  simp only [PyData.depth] at hu
  simp only [PyData.shown] at hQ
  exact call_tuple_reprK h1 h2 h3 hna (by simpa using k) hg (fun b _ => Clear.nil b) hu hk0 hQ hz'
theorem shows_dict {a : Addr} {o : Obj} {es : Array DictEntry} {n : Nat} {ps : List (PyData × PyData)} (h1 : h.get? a = some o) (h2 : o.cls = .type "dict") (h3 : o.data = .dict es n) (hy : (a == sysModules) = false)
    (A : DatAll prog w h (es.toList.map (·.key)) (ps.map (·.1))) (B : DatAll prog w h (es.toList.map (·.val)) (ps.map (·.2)))
    (hs : (PyData.dict ps).showable = true) (hz : (PyData.dict ps).shown.length ≤ sizeLine) : ∃ T idr, ShowsBy prog w h a (.dict ps) T idr := by
  obtain ⟨⟨as, r1⟩, s1⟩ := A
  obtain ⟨⟨bs, r2⟩, s2⟩ := B
  have rl : Reads h (.ref a) (.dict ps) (a :: as ++ bs) := .dict h1 h2 h3 r1 r2
  have hz' : (dictText (PyData.shownKv ps)).length ≤ sizeLine := by simpa only [PyData.shown] using hz
  obtain ⟨q1, q2⟩ := PyData.showableKv_split ps (by simpa [PyData.showable] using hs)
  obtain ⟨b1, m1, k1⟩ := s1 q1 fun t ht => let ⟨p, hp, hl⟩ := PyData.shownKv_key_le ps t ht; Nat.le_trans hl (Nat.le_trans (dictText_mem_le hp) hz')
  obtain ⟨b2, m2, k2⟩ := s2 q2 fun t ht => let ⟨p, hp, hl⟩ := PyData.shownKv_val_le ps t ht; Nat.le_trans hl (Nat.le_trans (dictText_mem_le hp) hz')
  have m : ReadAtMost h (PyData.depthKv ps) (b1 ++ b2) := (m1.mono (PyData.depthAll_keys_le ps)).append (m2.mono (PyData.depthAll_vals_le ps))
  have hna : a ∉ b1 ++ b2 := not_mem_of_deeper rl (by simp only [PyData.depth]; omega) m
  refine ⟨"dict", "dict.__repr__", F.slot_dict_repr, F.slot_dict_str, F.slot_dict_format, fun s hk0 => ⟨o, hk0 _ _ h1, h2⟩, fun A E s Q hg hu hk0 hQ => ?_⟩
  simp only [PyData.depth] at hu
  simp only [PyData.shown, PyData.shownKv_eq] at hQ
  exact call_dict_reprK h1 h2 h3 hy hna (ReprEntriesK.of_two es.toList _ _
    (k1.more_le (fun b hb => List.mem_append_left _ hb) (PyData.depthAll_keys_le ps)) (k2.more_le (fun b hb => List.mem_append_right _ hb) (PyData.depthAll_vals_le ps))) hg (fun b _ => Clear.nil b) hu hk0 hQ (by rw [← PyData.shownKv_eq]; exact hz')
end

/-! ### D as such data -/
section
variable {X : Cx} {G : Nat → Addr} {pins : List (Addr × Obj)} {σ : L2.St} {H : Hp} {s : Shared} {F : Hp} {ph : List Addr} {cel : Nat → Option PyData}
theorem pairs_dat {kvs : List (Key × Value)} {es : List DictEntry} (hp : Pairs (mixKind X.prog X.w) es kvs) : ∀ {ps : List (PyData × PyData)}, ps.map (·.1) = kvs.map (fun kv => keyPy kv.1) → DatAll X.prog X.w s.heap (es.map (·.key)) (ps.map (·.1)) := by
  induction hp with
  | nil => intro ps e; simp at e; subst e; exact DatAll.nil
  | @cons e kv es kvs h1 h2 h3 ih =>
    intro ps eq
    cases ps with
    | nil => simp at eq
    | cons p ps =>
      simp only [List.map_cons, List.cons.injEq] at eq
      simp only [List.map_cons]
      refine .cons ?_ (ih eq.2)
      rw [eq.1]
      rw [mixKind_is] at h1
      rcases keyIs_shape h1 with ⟨i, t, e1, e2⟩ | ⟨x, t, e1, e2⟩
      · rw [e1, e2]; exact Dat.int i t
      · rw [e1, e2]; exact Dat.str x t
theorem lst_obj {a : Addr} {vs : List V} (I : L2.Inv X pins σ H s) (h : H a = some (.lst vs)) : ∃ its o n, Vals vs its ∧ s.heap.get? a = some o ∧ o.cls = .type "list" ∧ o.data = .seq its.toArray n := by
  obtain ⟨its, r, ⟨o, n, e1, e2, _, e3⟩, _⟩ := I.list (SqL.of h)
  exact ⟨its, o, n, r, e1, e2, e3⟩
mutual
theorem dat_of (I : L2.Inv X pins σ H s) (sub : ∀ a o, F a = some o → H a = some o) (hc : ∀ n a p, ph[n]? = some a → cel n = some p → Dat X.prog X.w s.heap (.ref a) p) :
    ∀ (d : D) (v : V) (u : Value) (p : PyData), R X.K G F ph d v → RelV v u → toPyC cel d = some p → Dat X.prog X.w s.heap u p
  | .non, v, u, p, h, r, e => by
    simp only [R] at h; subst h; cases r; simp only [toPyC, Option.some.injEq] at e; subst e; exact Dat.non
  | .bl b, v, u, p, h, r, e => by
    simp only [R] at h; subst h; cases r; simp only [toPyC, Option.some.injEq] at e; subst e; exact Dat.bool b
  | .int i, v, u, p, h, r, e => by
    simp only [R] at h; subst h; obtain ⟨t, rfl⟩ := r; simp only [toPyC, Option.some.injEq] at e; subst e; exact Dat.int i t
  | .str x, v, u, p, h, r, e => by
    simp only [R] at h; subst h; obtain ⟨t, rfl⟩ := r; simp only [toPyC, Option.some.injEq] at e; subst e; exact Dat.str x t
  | .lst ds, v, u, p, h, r, e => by
    simp only [R] at h
    obtain ⟨a, vs, rfl, h2, h3⟩ := h
    cases r
    simp only [toPyC, Option.map_eq_some_iff] at e
    obtain ⟨ps, e1, rfl⟩ := e
    obtain ⟨its, o, n, rv, g1, g2, g3⟩ := lst_obj I (sub _ _ h2)
    exact Dat.list g1 g2 g3 (dats_of I sub hc ds vs its ps h3 rv e1)
  | .ro ds, v, u, p, h, r, e => by
    simp only [R] at h
    obtain ⟨a, vs, rfl, h2, h3⟩ := h
    cases r
    simp only [toPyC, Option.map_eq_some_iff] at e
    obtain ⟨ps, e1, rfl⟩ := e
    obtain ⟨its, rv, ⟨o, n, g1, g2, _, g3⟩, _⟩ := I.list (Same.seq sub h2)
    exact Dat.list g1 g2 g3 (dats_of I sub hc ds vs its ps h3 rv e1)
  | .tup ds, v, u, p, h, r, e => by
    simp only [R] at h
    obtain ⟨a, vs, rfl, h2, h3⟩ := h
    cases r
    simp only [toPyC, Option.map_eq_some_iff] at e
    obtain ⟨ps, e1, rfl⟩ := e
    obtain ⟨its, rv, ⟨o, g1, g2, n, g3⟩, _⟩ := I.tuple (SqT.of (sub _ _ h2))
    exact Dat.tuple g1 g2 g3 (dats_of I sub hc ds vs its ps h3 rv e1)
  | .dct kvs, v, u, p, h, r, e => by
    simp only [R] at h
    obtain ⟨a, ws, rfl, h2, h3⟩ := h
    cases r
    simp only [toPyC, Option.map_eq_some_iff] at e
    obtain ⟨ps, e1, rfl⟩ := e
    obtain ⟨hz, hy, vs, kv, o, es, ep, g1, g2, g3, _, g4, _⟩ := (show ObjOk X.prog X.w H s.heap a (.dK ws) from I.hok a _ (sub _ _ h2))
    obtain ⟨q1, q2⟩ := datk_of I sub hc kvs ws vs es.toList ps h3 kv g4 e1
    exact Dat.dict g1 g2.1 g3 hy (pairs_dat g4 q1) q2
  | .cell n, v, u, p, h, r, e => by
    simp only [R] at h
    obtain ⟨a, rfl, h2⟩ := h
    cases r
    simp only [toPyC] at e
    exact hc n a p h2 e
  | .ins _ _, v, u, p, h, r, e => by simp only [toPyC] at e; cases e
  | .cls _, v, u, p, h, r, e => by simp only [toPyC] at e; cases e
  | .ty _, v, u, p, h, r, e => by simp only [toPyC] at e; cases e
theorem dats_of (I : L2.Inv X pins σ H s) (sub : ∀ a o, F a = some o → H a = some o) (hc : ∀ n a p, ph[n]? = some a → cel n = some p → Dat X.prog X.w s.heap (.ref a) p) :
    ∀ (ds : List D) (vs : List V) (us : List Value) (ps : List PyData), Rs X.K G F ph ds vs → Vals vs us → toPyCs cel ds = some ps → DatAll X.prog X.w s.heap us ps
  | [], vs, us, ps, h, r, e => by
    simp only [Rs] at h; subst h; cases r; simp only [toPyCs, Option.some.injEq] at e; subst e; exact DatAll.nil
  | d :: ds, vs, us, ps, h, r, e => by
    simp only [Rs] at h
    obtain ⟨v, ws, rfl, h2, h3⟩ := h
    cases r with
    | cons r1 r2 =>
      simp only [toPyCs] at e
      split at e
      · rename_i p qs e1 e2
        cases e
        exact .cons (dat_of I sub hc d v _ p h2 r1 e1) (dats_of I sub hc ds ws _ qs h3 r2 e2)
      · cases e
theorem datk_of (I : L2.Inv X pins σ H s) (sub : ∀ a o, F a = some o → H a = some o) (hc : ∀ n a p, ph[n]? = some a → cel n = some p → Dat X.prog X.w s.heap (.ref a) p) :
    ∀ (ds : List (Key × D)) (ws : List (Key × V)) (us : List (Key × Value)) (es : List DictEntry) (ps : List (PyData × PyData)), Rk X.K G F ph ds ws → KV ws us → Pairs (mixKind X.prog X.w) es us → toPyCk cel ds = some ps →
      ps.map (·.1) = us.map (fun kv => keyPy kv.1) ∧ DatAll X.prog X.w s.heap (es.map (·.val)) (ps.map (·.2))
  | [], ws, us, es, ps, h, r, g, e => by
    simp only [Rk] at h; subst h; cases r; cases g; simp only [toPyCk, Option.some.injEq] at e; subst e; exact ⟨rfl, DatAll.nil⟩
  | (k, d) :: ds, ws, us, es, ps, h, r, g, e => by
    simp only [Rk] at h
    obtain ⟨v, vs, rfl, h2, h3⟩ := h
    cases r with
    | @cons _ b _ us' r1 r2 =>
      obtain ⟨kb, ub⟩ := b
      obtain ⟨ek, rv⟩ := r1
      simp only at ek rv
      subst ek
      cases g with
      | @cons en _ es' _ g1 g2 g3 =>
        simp only [toPyCk] at e
        split at e
        · rename_i p qs e1 e2
          cases e
          obtain ⟨i1, i2⟩ := datk_of I sub hc ds vs us' es' qs h3 r2 g3 e2
          refine ⟨by simp [i1], ?_⟩
          simp only [List.map_cons]
          rw [g2]
          exact .cons (dat_of I sub hc d v ub p h2 rv e1) i2
        · cases e
end
theorem cel0_ok (I : L2.Inv X pins σ H s) {st : Store} (r : RelS X.K G F ph st H) : ∀ n a p, ph[n]? = some a → cel0 st n = some p → Dat X.prog X.w s.heap (.ref a) p := by
  intro n a p h1 h2
  unfold cel0 at h2
  obtain ⟨ds, e1, e2⟩ := Option.bind_eq_some_iff.mp h2
  obtain ⟨ps, e3, rfl⟩ := Option.map_eq_some_iff.mp e2
  obtain ⟨b, vs, q, hb, rs⟩ := asL_ok r (d := .cell n) (v := .ref a) (ds := ds) (by simp only [R]; exact ⟨a, rfl, h1⟩) (by simp only [asL]; exact e1)
  cases q
  obtain ⟨its, o, m, rv, g1, g2, g3⟩ := lst_obj I hb
  exact Dat.list g1 g2 g3 (dats_of I r.sub (cel := fun _ => none) (fun _ _ _ _ z => by cases z) ds vs its ps rs rv e3)
theorem dat {d : D} {v : V} {u : Value} {p : PyData} {st : Store} (I : L2.Inv X pins σ H s) (r : RelS X.K G F ph st H) (h : R X.K G F ph d v) (rv : RelV v u) (e : toPy st d = some p) : Dat X.prog X.w s.heap u p :=
  dat_of I r.sub (cel0_ok I r) d v u p h rv e
/-- a value at an address, by the top's repr -/
theorem shows {d : D} {a : Addr} {p : PyData} {st : Store} (I : L2.Inv X pins σ H s) (r : RelS X.K G F ph st H) (h : R X.K G F ph d (.ref a)) (e : toPy st d = some p) (hs : p.showable = true) (hz : p.shown.length ≤ sizeLine) :
    ∃ T idr, ShowsBy X.prog X.w s.heap a p T idr := by
  have hc := cel0_ok I r
  cases d with
  | lst ds =>
    simp only [R] at h
    obtain ⟨b, vs, q, h2, h3⟩ := h
    cases q
    simp only [toPy, toPyC, Option.map_eq_some_iff] at e
    obtain ⟨ps, e1, rfl⟩ := e
    obtain ⟨its, o, n, rv, g1, g2, g3⟩ := lst_obj I (r.sub _ _ h2)
    exact shows_list g1 g2 g3 (dats_of I r.sub hc ds vs its ps h3 rv e1) hs hz
  | ro ds =>
    simp only [R] at h
    obtain ⟨b, vs, q, h2, h3⟩ := h
    cases q
    simp only [toPy, toPyC, Option.map_eq_some_iff] at e
    obtain ⟨ps, e1, rfl⟩ := e
    obtain ⟨its, rv, ⟨o, n, g1, g2, _, g3⟩, _⟩ := I.list (Same.seq r.sub h2)
    exact shows_list g1 g2 g3 (dats_of I r.sub hc ds vs its ps h3 rv e1) hs hz
  | tup ds =>
    simp only [R] at h
    obtain ⟨b, vs, q, h2, h3⟩ := h
    cases q
    simp only [toPy, toPyC, Option.map_eq_some_iff] at e
    obtain ⟨ps, e1, rfl⟩ := e
    obtain ⟨its, rv, ⟨o, g1, g2, n, g3⟩, _⟩ := I.tuple (SqT.of (r.sub _ _ h2))
    exact shows_tuple g1 g2 g3 (dats_of I r.sub hc ds vs its ps h3 rv e1) hs hz
  | dct kvs =>
    simp only [R] at h
    obtain ⟨b, ws, q, h2, h3⟩ := h
    cases q
    simp only [toPy, toPyC, Option.map_eq_some_iff] at e
    obtain ⟨ps, e1, rfl⟩ := e
    obtain ⟨_, hy, vs, kv, o, es, ep, g1, g2, g3, _, g4, _⟩ := (show ObjOk X.prog X.w H s.heap a (.dK ws) from I.hok a _ (r.sub _ _ h2))
    obtain ⟨q1, q2⟩ := datk_of I r.sub hc kvs ws vs es.toList ps h3 kv g4 e1
    exact shows_dict g1 g2.1 g3 hy (pairs_dat g4 q1) q2 hs hz
  | cell n =>
    simp only [toPy, toPyC] at e
    unfold cel0 at e
    obtain ⟨ds, e1, e2⟩ := Option.bind_eq_some_iff.mp e
    obtain ⟨ps, e3, rfl⟩ := Option.map_eq_some_iff.mp e2
    obtain ⟨b, vs, q, hb, rs⟩ := asL_ok r (d := .cell n) (ds := ds) h (by simp only [asL]; exact e1)
    cases q
    obtain ⟨its, o, m, rv, g1, g2, g3⟩ := lst_obj I hb
    exact shows_list g1 g2 g3 (dats_of I r.sub (cel := fun _ => none) (fun _ _ _ _ z => by cases z) ds vs its ps rs rv e3) hs hz
  | non => simp only [R] at h; cases h
  | bl _ => simp only [R] at h; cases h
  | int _ => simp only [R] at h; cases h
  | str _ => simp only [R] at h; cases h
  | ins _ _ => simp only [toPy, toPyC] at e; cases e
  | cls _ => simp only [toPy, toPyC] at e; cases e
  | ty _ => simp only [toPy, toPyC] at e; cases e
end
section
variable {K : PySem.W.Frag} {G : Nat → Addr} {F : Hp} {ph : List Addr} {d : D}
theorem R.inv_non (h : R K G F ph d .non) : d = .non := by cases d <;> simp [R] at h <;> rfl
theorem R.inv_bl {b : Bool} (h : R K G F ph d (.bl b)) : d = .bl b := by cases d <;> simp [R] at h; rw [h]
theorem R.inv_int {i : Int} (h : R K G F ph d (.int i)) : d = .int i := by cases d <;> simp [R] at h; rw [h]
theorem R.inv_str {x : Str} (h : R K G F ph d (.str x)) : d = .str x := by cases d <;> simp [R] at h; rw [h]
theorem R.inv_ty {x : String} (h : R K G F ph d (.ty x)) : d = .ty x := by cases d <;> simp [R] at h; rw [h]
theorem R.inv_byt {x : Array UInt8} (h : R K G F ph d (.byt x)) : False := by cases d <;> simp [R] at h
theorem R.inv_flt {x : UInt64} (h : R K G F ph d (.flt x)) : False := by cases d <;> simp [R] at h
end
/-! ### repr -/
def reprOk (p : PyData) : Bool := p.showable && decide (p.shown.length ≤ sizeLine) && decide (p.depth ≤ 60)
def reprF (d : D) (st : Store) : Res D := match toPy st d with
  | some p => if reprOk p then .ok (.str p.shown) st else .bad
  | none => .bad
section
variable {X : Cx} {G : Nat → Addr} {W : WX}
theorem call_repr (hg : X.A.guards = some []) (hu : X.A.units + 64 < cLine) : CallR X (.builtin "repr") (fun xs H Q => ∃ x, xs = [x] ∧ rU1 X.K G W reprF x H Q) := by
  intro pins s σ H xs us Q I rs ⟨x, e, σ', env, F, ph, st, d, r, rv, w⟩
  subst e
  obtain ⟨u, rfl, rx⟩ := vals1 rs
  unfold reprF at w
  split at w
  · rename_i p hp
    split at w
    · rename_i hok
      unfold reprOk at hok
      simp only [Bool.and_eq_true, decide_eq_true_eq] at hok
      obtain ⟨⟨h1, h2⟩, h3⟩ := hok
      have q : ∀ H', H' = H → Q (.str p.shown) H' := fun H' e => by subst e; exact w.fin r (by simp only [R])
      cases x with
      | ref a =>
        cases rx
        obtain ⟨T, idr, S⟩ := shows I r.s rv hp h1 h2
        exact call_repr_slot (by omega) (S.typeIs s fun _ _ e => e) S.slotRepr (S.call X.A.in1 X.xe s _ (by simpa using hg) (by show X.A.units + 1 + p.depth < cLine; omega) (fun _ _ e => e)
          fun h' u tk hk => ⟨_, _, rfl, ⟨.str p.shown, H, I.kept hk, ⟨_, rfl⟩, q H rfl⟩⟩)
      | non =>
        cases rx
        cases R.inv_non rv
        simp only [toPy, toPyC, Option.some.injEq] at hp; subst hp
        exact P.repr_of_none ⟨.str _, H, I.tok _, ⟨s.toks, by simp only [PyData.shown]⟩, q H rfl⟩
      | bl b =>
        cases rx
        cases R.inv_bl rv
        simp only [toPy, toPyC, Option.some.injEq] at hp; subst hp
        exact P.repr_of_bool ⟨.str _, H, I.tok _, ⟨s.toks, by simp only [PyData.shown]⟩, q H rfl⟩
      | int i =>
        obtain ⟨t, rfl⟩ := rx
        cases R.inv_int rv
        simp only [toPy, toPyC, Option.some.injEq] at hp; subst hp
        exact P.repr_of_int (by simpa [PyData.showable] using h1) ⟨.str _, H, I.tok _, ⟨s.toks, by simp only [PyData.shown]⟩, q H rfl⟩
      | str y =>
        obtain ⟨t, rfl⟩ := rx
        cases R.inv_str rv
        simp only [toPy, toPyC, Option.some.injEq] at hp; subst hp
        exact P.repr_of_str ⟨.str _, H, I.tok _, ⟨s.toks, by simp only [PyData.shown]⟩, q H rfl⟩ (by simpa only [PyData.shown] using h2)
      | byt y => exact (R.inv_byt rv).elim
      | flt y => exact (R.inv_flt rv).elim
      | ty y => cases R.inv_ty rv; simp only [toPy, toPyC] at hp; cases hp
    · exact w.elim
  · exact w.elim
/-! ### == and != of data -/
def eqOk (p q : PyData) : Bool := SeqAt.shaped p && SeqAt.shaped q
def eqD (d e : D) (st : Store) : Res D := match d, e with
  | .str x, .str y => .ok (.bl (x == y)) st
  | d, e => match toPy st d, toPy st e with
    | some p, some q => if eqOk p q then .ok (.bl (PyData.eqv p q)) st else .bad
    | _, _ => .bad
def neD (d e : D) (st : Store) : Res D := match d, e with
  | .str x, .str y => .ok (.bl (!(x == y))) st
  | d, e => match toPy st d, toPy st e with
    | some p, some q => if eqOk p q then .ok (.bl (!PyData.eqv p q)) st else .bad
    | _, _ => .bad
theorem od_eq (hu : X.A.units + 64 < cLine) : OpD X G W (compareOp .Eq) eqD := by
  intro pins s σ H x y v u Q I rx ry ⟨σ', env, F, ph, st, d, e, r, rd, re, w⟩
  unfold eqD at w
  split at w
  · simp only [R] at rd re; subst rd; subst re
    exact op_eq pins s σ H _ _ v u Q I rx ry ⟨rfl, by rw [dec_str]; exact w.fin r (by simp only [R])⟩
  · rename_i hnn
    split at w
    · rename_i p q hp hq
      split at w
      · rename_i hok
        unfold eqOk at hok
        rw [Bool.and_eq_true] at hok
        obtain ⟨⟨as, r1⟩, _⟩ := dat I r.s rd rx hp
        obtain ⟨⟨bs, r2⟩, _⟩ := dat I r.s re ry hq
        exact SeqAt.compareEq_shaped r1 r2 hok.1 hok.2 hu ⟨.bl _, H, I, rfl, w.fin r (by simp only [R])⟩
      · exact w.elim
    · exact w.elim
theorem od_ne (hu : X.A.units + 64 < cLine) : OpD X G W (compareOp .NotEq) neD := by
  intro pins s σ H x y v u Q I rx ry ⟨σ', env, F, ph, st, d, e, r, rd, re, w⟩
  unfold neD at w
  split at w
  · simp only [R] at rd re; subst rd; subst re
    exact op_ne pins s σ H _ _ v u Q I rx ry ⟨rfl, by rw [dec_str]; exact w.fin r (by simp only [R])⟩
  · rename_i hnn
    split at w
    · rename_i p q hp hq
      split at w
      · rename_i hok
        unfold eqOk at hok
        rw [Bool.and_eq_true] at hok
        obtain ⟨⟨as, r1⟩, _⟩ := dat I r.s rd rx hp
        obtain ⟨⟨bs, r2⟩, _⟩ := dat I r.s re ry hq
        exact SeqAt.compareNe_shaped r1 r2 hok.1 hok.2 hu ⟨.bl _, H, I, rfl, w.fin r (by simp only [R])⟩
      · exact w.elim
    · exact w.elim
end
end Den

namespace Den
open PySem PySem.Spec PyProof.Rows L2

/-! ### the hand layer's own data -/
section
variable {K : PySem.W.Frag} {G : Nat → Addr} {H : Hp} {F : Hp} {ph : List Addr} {cel : Nat → Option PyData}
mutual
theorem dp_of (sub : ∀ a o, F a = some o → H a = some o) (hc : ∀ n a p, ph[n]? = some a → cel n = some p → p.canLay0 = true → Dp K H (.ref a) p) :
    ∀ (d : D) (v : V) (p : PyData), R K G F ph d v → toPyC cel d = some p → p.canLay0 = true → Dp K H v p
  | .non, v, p, h, e, _ => by simp only [R] at h; subst h; simp only [toPyC, Option.some.injEq] at e; subst e; exact .non
  | .bl b, v, p, h, e, _ => by simp only [R] at h; subst h; simp only [toPyC, Option.some.injEq] at e; subst e; exact .bl b
  | .int i, v, p, h, e, _ => by simp only [R] at h; subst h; simp only [toPyC, Option.some.injEq] at e; subst e; exact .int i
  | .str x, v, p, h, e, _ => by simp only [R] at h; subst h; simp only [toPyC, Option.some.injEq] at e; subst e; exact .str x
  | .lst ds, v, p, h, e, c => by
    simp only [R] at h
    obtain ⟨a, vs, rfl, h2, h3⟩ := h
    simp only [toPyC, Option.map_eq_some_iff] at e
    obtain ⟨ps, e1, rfl⟩ := e
    exact .lst (SqL.of (sub _ _ h2)) (dps_of sub hc ds vs ps h3 e1 (by simpa [PyData.canLay0] using c))
  | .ro ds, v, p, h, e, c => by
    simp only [R] at h
    obtain ⟨a, vs, rfl, h2, h3⟩ := h
    simp only [toPyC, Option.map_eq_some_iff] at e
    obtain ⟨ps, e1, rfl⟩ := e
    exact .lst (Same.seq sub h2) (dps_of sub hc ds vs ps h3 e1 (by simpa [PyData.canLay0] using c))
  | .tup ds, v, p, h, e, c => by
    simp only [R] at h
    obtain ⟨a, vs, rfl, h2, h3⟩ := h
    simp only [toPyC, Option.map_eq_some_iff] at e
    obtain ⟨ps, e1, rfl⟩ := e
    exact .tup (SqT.of (sub _ _ h2)) (dps_of sub hc ds vs ps h3 e1 (by simpa [PyData.canLay0] using c))
  | .dct kvs, v, p, h, e, c => by
    simp only [toPyC, Option.map_eq_some_iff] at e
    obtain ⟨ps, e1, rfl⟩ := e
    simp [PyData.canLay0] at c
  | .cell n, v, p, h, e, c => by
    simp only [R] at h
    obtain ⟨a, rfl, h2⟩ := h
    simp only [toPyC] at e
    exact hc n a p h2 e c
  | .ins _ _, v, p, h, e, _ => by simp only [toPyC] at e; cases e
  | .cls _, v, p, h, e, _ => by simp only [toPyC] at e; cases e
  | .ty _, v, p, h, e, _ => by simp only [toPyC] at e; cases e
theorem dps_of (sub : ∀ a o, F a = some o → H a = some o) (hc : ∀ n a p, ph[n]? = some a → cel n = some p → p.canLay0 = true → Dp K H (.ref a) p) :
    ∀ (ds : List D) (vs : List V) (ps : List PyData), Rs K G F ph ds vs → toPyCs cel ds = some ps → PyData.canLayAll0 ps = true → DpAll K H vs ps
  | [], vs, ps, h, e, _ => by simp only [Rs] at h; subst h; simp only [toPyCs, Option.some.injEq] at e; subst e; exact .nil
  | d :: ds, vs, ps, h, e, c => by
    simp only [Rs] at h
    obtain ⟨v, ws, rfl, h2, h3⟩ := h
    simp only [toPyCs] at e
    split at e
    · rename_i p qs e1 e2
      cases e
      have c' : p.canLay0 = true ∧ PyData.canLayAll0 qs = true := by simpa [PyData.canLayAll0] using c
      exact .cons (dp_of sub hc d v p h2 e1 c'.1) (dps_of sub hc ds ws qs h3 e2 c'.2)
    · cases e
end
theorem dp {d : D} {v : V} {p : PyData} {st : Store} (r : RelS K G F ph st H) (h : R K G F ph d v) (e : toPy st d = some p) (c : p.canLay0 = true) : Dp K H v p := by
  refine dp_of r.sub (fun n a q h1 h2 c2 => ?_) d v p h e c
  unfold cel0 at h2
  obtain ⟨ds, e1, e2⟩ := Option.bind_eq_some_iff.mp h2
  obtain ⟨ps, e3, rfl⟩ := Option.map_eq_some_iff.mp e2
  obtain ⟨b, vs, q, hb, rs⟩ := asL_ok r (d := .cell n) (v := .ref a) (ds := ds) (by simp only [R]; exact ⟨a, rfl, h1⟩) (by simp only [asL]; exact e1)
  cases q
  exact .lst (SqL.of hb) (dps_of r.sub (cel := fun _ => none) (fun _ _ _ _ z => by cases z) ds vs ps rs e3 (by simpa [PyData.canLay0] using c2))
end

section
variable {X : Cx} {G : Nat → Addr} {W : WX}
/-! ### in, not in -/
def inB (d e : D) (st : Store) : Option Bool := match d, e with
  | .str x, .str z => match x.cps.toList with
    | [c] => some (decide (c ∈ z.cps.toList))
    | _ => some (!(Builtin.Str.occurrences z x 0 z.length 1).isEmpty)
  | d, e => match toPy st d, toPy st e with
    | some p, some (.list qs) => if SeqAt.shaped p && SeqAt.shaped (.list qs) then some (qs.any fun z => PyData.eqv z p) else none
    | _, _ => none
def inD (d e : D) (st : Store) : Res D := match inB d e st with
  | some b => .ok (.bl b) st
  | none => .bad
def notInD (d e : D) (st : Store) : Res D := match inB d e st with
  | some b => .ok (.bl (!b)) st
  | none => .bad
theorem str_one {x : Str} {c : Nat} (h : x.cps.toList = [c]) : x = ⟨#[c]⟩ := Str.ext' (Array.toList_inj.mp (by simpa using h))
theorem od_in (hu : X.A.units + 65 < cLine) : OpD X G W (compareOp .In) inD := by
  intro pins s σ H x y v u Q I rx ry ⟨σ', env, F, ph, st, d, e, r, rd, re, w⟩
  unfold inD at w
  split at w
  · rename_i b hb
    unfold inB at hb
    split at hb
    · simp only [R] at rd re; subst rd; subst re
      split at hb
      · rename_i c hc
        cases hb
        cases str_one hc
        exact op_in_sign pins s σ H _ _ v u Q I rx ry ⟨c, _, rfl, rfl, w.fin r (by simp only [R])⟩
      · cases hb
        exact op_in_str pins s σ H _ _ v u Q I rx ry ⟨_, _, rfl, rfl, w.fin r (by simp only [R])⟩
    · split at hb
      · rename_i p qs hp hq
        split at hb
        · rename_i hs
          rw [Bool.and_eq_true] at hs
          cases hb
          exact op_inD hu pins s σ H _ _ v u Q I rx ry ⟨p, qs, dp r.s rd hp (SeqAt.canLay_of_shaped hs.1), dp r.s re hq (SeqAt.canLay_of_shaped hs.2), hs.1, hs.2, w.fin r (by simp only [R])⟩
        · cases hb
      · cases hb
  · exact w.elim
theorem od_notIn (hu : X.A.units + 65 < cLine) : OpD X G W (compareOp .NotIn) notInD := by
  intro pins s σ H x y v u Q I rx ry ⟨σ', env, F, ph, st, d, e, r, rd, re, w⟩
  unfold notInD at w
  split at w
  · rename_i b hb
    unfold inB at hb
    split at hb
    · simp only [R] at rd re; subst rd; subst re
      split at hb
      · rename_i c hc
        cases hb
        cases str_one hc
        exact op_notIn_sign pins s σ H _ _ v u Q I rx ry ⟨c, _, rfl, rfl, w.fin r (by simp only [R])⟩
      · cases hb
        exact op_notin_str pins s σ H _ _ v u Q I rx ry ⟨_, _, rfl, rfl, w.fin r (by simp only [R])⟩
    · split at hb
      · rename_i p qs hp hq
        split at hb
        · rename_i hs
          rw [Bool.and_eq_true] at hs
          cases hb
          exact op_notInD hu pins s σ H _ _ v u Q I rx ry ⟨p, qs, dp r.s rd hp (SeqAt.canLay_of_shaped hs.1), dp r.s re hq (SeqAt.canLay_of_shaped hs.2), hs.1, hs.2, w.fin r (by simp only [R])⟩
        · cases hb
      · cases hb
  · exact w.elim

/-! ### isinstance -/
inductive Tn where
  | ty (n : String)
  | cl (c : Nat)
def cellTy : Cell → Option Tn
  | .lst _ => some (.ty "list")
  | .fz (.lst _) => some (.ty "list")
  | .ins c _ => some (.cl c)
  | .fz (.ins c _) => some (.cl c)
  | _ => none
def tnOf (st : Store) : D → Option Tn
  | .non => some (.ty "NoneType")
  | .bl _ => some (.ty "bool")
  | .int _ => some (.ty "int")
  | .str _ => some (.ty "str")
  | .lst _ => some (.ty "list")
  | .tup _ => some (.ty "tuple")
  | .dct _ => some (.ty "dict")
  | .ins c _ => some (.cl c)
  | .cell n => (st[n]?).bind cellTy
  | _ => none
def tnV (G : Nat → Addr) : Tn → Value
  | .ty n => .type n
  | .cl c => .ref (G c)
/-- what a class of one's own must have so that isinstance reads its instances -/
structure InsCls (K : PySem.W.Frag) (C : Addr) : Prop where
  cl : Cls K C
  ha : PySem.W.findIn K (.ref C) "__class__" = some (some (.builtin "object.__class__"))
  hn : PySem.W.specialIn K (.builtin "object.__class__") "__get__" = some (some (.builtin "getset_descriptor.__get__"))
  ht : PySem.W.takesIn K (.builtin "object.__class__") = some true
  hm : PySem.W.mroIn K C (.type "object") = some true
theorem tn_ok {K : PySem.W.Frag} {F : Hp} {ph : List Addr} {st : Store} {H : Hp} {d : D} {v : V} {t : Tn} (r : RelS K G F ph st H) (rv : R K G F ph d v) (h : tnOf st d = some t) (hi : ∀ c, t = .cl c → InsCls K (G c)) : TyX K H v (tnV G t) := by
  cases d with
  | non => simp only [R] at rv; subst rv; cases h; exact .base .non
  | bl b => simp only [R] at rv; subst rv; cases h; exact .base (.bl b)
  | int b => simp only [R] at rv; subst rv; cases h; exact .base (.int b)
  | str b => simp only [R] at rv; subst rv; cases h; exact .base (.str b)
  | lst ds => simp only [R] at rv; obtain ⟨a, vs, rfl, h2, _⟩ := rv; cases h; exact .base (.lst (r.sub _ _ h2))
  | tup ds => simp only [R] at rv; obtain ⟨a, vs, rfl, h2, _⟩ := rv; cases h; exact .base (.tup (r.sub _ _ h2))
  | dct ds => simp only [R] at rv; obtain ⟨a, vs, rfl, h2, _⟩ := rv; cases h; exact .base (.dK (r.sub _ _ h2))
  | ins c fs =>
    simp only [R] at rv; obtain ⟨a, dx, ws, rfl, h2, _⟩ := rv; cases h
    have z := hi c rfl
    exact .base (.ins (r.sub _ _ h2) z.cl z.ha z.hn z.ht z.hm)
  | cell n =>
    simp only [R] at rv; obtain ⟨a, rfl, h2⟩ := rv
    simp only [tnOf] at h
    obtain ⟨c, e, h⟩ := Option.bind_eq_some_iff.mp h
    have ck := r.cells n c a e h2
    unfold cellTy at h
    split at h
    · cases h; obtain ⟨_, vs, x, _⟩ := ck; exact .base (.lst x)
    · cases h; obtain ⟨_, x⟩ := ck; simp only [R] at x; obtain ⟨b, vs, q, x2, _⟩ := x; cases q; exact .base (.lst (r.sub _ _ x2))
    · cases h; obtain ⟨_, dx, ws, x, _⟩ := ck; have z := hi _ rfl; exact .base (.ins x z.cl z.ha z.hn z.ht z.hm)
    · cases h; obtain ⟨_, x⟩ := ck; simp only [R] at x; obtain ⟨b, dx, ws, q, x2, _⟩ := x; cases q; have z := hi _ rfl; exact .base (.ins (r.sub _ _ x2) z.cl z.ha z.hn z.ht z.hm)
    · cases h
  | ro ds => simp only [tnOf] at h; cases h
  | cls _ => simp only [tnOf] at h; cases h
  | ty _ => simp only [tnOf] at h; cases h
/-- isinstance(x, T) by a table of answers -/
def isiD (isa : Tn → Option Bool) (ds : List D) (st : Store) : Res D := match ds with
  | d :: _ => match tnOf st d with
    | some t => match isa t with
      | some b => .ok (.bl b) st
      | none => .bad
    | none => .bad
  | _ => .bad
/-- what the table must be, for the class c (a value of the program) -/
structure Isa (K : PySem.W.Frag) (G : Nat → Addr) (c : D) (isa : Tn → Option Bool) : Prop where
  cv : ∀ F ph v, R K G F ph c v → ∃ u, ClsV v u ∧ ∀ t b, isa t = some b → PySem.W.kitOne K (tnV G t) u = some b
  ins : ∀ n b, isa (.cl n) = some b → InsCls K (G n)
def tyNames : List String := ["NoneType", "bool", "int", "str", "list", "tuple", "dict"]
def isaB (T : String) : Tn → Option Bool
  | .ty a => if tyNames.contains a then some (a == T || (a == "bool" && T == "int")) else none
  | .cl _ => none
theorem isaB_kit {K : PySem.W.Frag} {T : String} (h : ["bool", "int", "str", "list", "tuple", "dict"].contains T = true) {a : String} {b : Bool} (e : isaB T (.ty a) = some b) : PySem.W.kitOne K (.type a) (.type T) = some b := by
  have all : ∀ T ∈ ["bool", "int", "str", "list", "tuple", "dict"], ∀ a ∈ tyNames, kitB a T = some (a == T || (a == "bool" && T == "int")) := by decide +kernel
  unfold isaB at e
  simp only at e
  split at e
  · rename_i ha
    cases e
    exact kit_ty (all T (by simpa using h) a (by simpa using ha))
  · cases e
theorem isa_ty {K : PySem.W.Frag} {T : String} (h : ["bool", "int", "str", "list", "tuple", "dict"].contains T = true := by decide +kernel) : Isa K G (.ty T) (isaB T) where
  cv := fun F ph v hv => by
    simp only [R] at hv; subst hv
    exact ⟨.type T, .ty T, fun t b e => by
      cases t with
      | ty a => exact isaB_kit h e
      | cl c => simp only [isaB] at e; cases e⟩
  ins := fun n b e => by simp only [isaB] at e; cases e
/-! ### calls of built-ins by values -/
def rC (K : PySem.W.Frag) (G : Nat → Addr) (W : WX) (g : List D → Store → Res D) : List V → Hp → VK → Prop := fun xs H Q =>
  ∃ σ env F ph st ds, Rel K G F ph σ env st H ∧ Rs K G F ph ds xs ∧ want K G (R K G) W σ env Q F ph H (g ds st)
def CallD (X : Cx) (G : Nat → Addr) (W : WX) (f : Value) (g : List D → Store → Res D) : Prop := CallR X f (rC X.K G W g)
theorem args_imp {g : List D → Store → Res D} {f : DenA} {σ : L2.St} {H : Hp} {Q : VK} (h : rd X.K G (R X.K G) W (eArgs g f) σ H Q) : rd X.K G (Rs X.K G) W f σ H fun xs H1 => rC X.K G W g xs H1 Q := by
  obtain ⟨F, ph, env, st, r, w⟩ := h
  exact ⟨F, ph, env, st, r, w.bind fun ds st1 F1 p1 vs H1 e1 r1 rv w1 => ⟨σ, env, F1, p1, st1, ds, r1, rv, w1⟩⟩
theorem de_callB {x : Str} {id : String} {g : List D → Store → Res D} {f : DenA} {e : Expr} {es : List Expr} {p pos : Pos} (hc : CallD X G W (.builtin id) g) (hm : X.mg x = none) (hv : bootBuiltins x = some (.builtin id)) (ha : DA X G W (e :: es) f) (hg : Gl X x := by rfl)
    (hn : x ≠ "__name__" := by decide) (hdb : (x == ("__debug__" : Str)) = false := by decide)
    (he : starEach (e :: es) X.env = (false, eval e X.env) :: starEach es X.env := by rfl) (hpl : (backTo pos (starEach es X.env)).any (·.1) = false := by rfl) : DE X G W (.Call (.Name x p) (e :: es) [] pos) (eArgs g f) :=
  peImp (pe_callB hc hg hm hv ha hn hdb he hpl) fun _ _ _ h => args_imp h
theorem de_callT {x : Str} {T : String} {g : List D → Store → Res D} {f : DenA} {e : Expr} {es : List Expr} {p pos : Pos} (hc : CallD X G W (.type T) g) (hm : X.mg x = none) (hv : bootBuiltins x = some (.type T)) (ha : DA X G W (e :: es) f) (hg : Gl X x := by rfl)
    (hn : x ≠ "__name__" := by decide) (hdb : (x == ("__debug__" : Str)) = false := by decide)
    (he : starEach (e :: es) X.env = (false, eval e X.env) :: starEach es X.env := by rfl) (hpl : (backTo pos (starEach es X.env)).any (·.1) = false := by rfl) : DE X G W (.Call (.Name x p) (e :: es) [] pos) (eArgs g f) :=
  peImp (pe_callTy hc hg hm hv ha hn hdb he hpl) fun _ _ _ h => args_imp h
section
variable {K : PySem.W.Frag} {F : Hp} {ph : List Addr}
theorem Rs.inv1 {d : D} {xs : List V} (h : Rs K G F ph [d] xs) : ∃ v, xs = [v] ∧ R K G F ph d v := by
  simp only [Rs] at h
  obtain ⟨v, ws, rfl, h2, rfl⟩ := h
  exact ⟨v, rfl, h2⟩
theorem Rs.inv2 {d e : D} {xs : List V} (h : Rs K G F ph [d, e] xs) : ∃ v w, xs = [v, w] ∧ R K G F ph d v ∧ R K G F ph e w := by
  simp only [Rs] at h
  obtain ⟨v, ws, rfl, h2, w, ws', rfl, h3, rfl⟩ := h
  exact ⟨v, w, rfl, h2, h3⟩
end
/-- isinstance(x, C): the class is a constant of the call -/
def isi2 (c : D → Bool) (isa : Tn → Option Bool) (ds : List D) (st : Store) : Res D := match ds with
  | [d, e] => if c e then isiD isa [d] st else .bad
  | _ => .bad
def isTy (T : String) : D → Bool
  | .ty n => n == T
  | _ => false
def isCl (c : Nat) : D → Bool
  | .cls n => n == c
  | _ => false
theorem cd_isi {c : D} {cb : D → Bool} {isa : Tn → Option Bool} (hI : Isa X.K G c isa) (hcb : ∀ e, cb e = true → e = c) : CallD X G W (.builtin "isinstance") (isi2 cb isa) := by
  intro pins s σ H xs us Q I rs ⟨σ', env, F, ph, st, ds, r, rv, w⟩
  unfold isi2 at w
  split at w
  · rename_i d e
    split at w
    · rename_i he
      have ec := hcb e he
      subst ec
      obtain ⟨v, cv, rfl, r1, r2⟩ := rv.inv2
      obtain ⟨u, k1, k2⟩ := hI.cv F ph cv r2
      unfold isiD at w
      simp only at w
      split at w
      · rename_i t ht
        split at w
        · rename_i b hb
          exact call_isi pins s σ H _ us Q I rs ⟨v, cv, tnV G t, u, b, rfl, k1, tn_ok r.s r1 ht (fun n z => by subst z; exact hI.ins n b hb), k2 t b hb, w.fin r (by simp only [R])⟩
        · exact w.elim
      · exact w.elim
    · exact w.elim
  · exact w.elim
theorem cd_isiTy {T : String} (h : ["bool", "int", "str", "list", "tuple", "dict"].contains T = true := by decide +kernel) : CallD X G W (.builtin "isinstance") (isi2 (isTy T) (isaB T)) :=
  cd_isi (c := .ty T) (isa_ty h) fun e he => by
    cases e <;> simp only [isTy] at he <;> first | (cases he; done) | (rw [beq_iff_eq.mp he])
/-! ### len, abs, max, min, divmod, list, tuple, all, any -/
def lenD (ds : List D) (st : Store) : Res D := match ds with
  | [.str x] => if x.length ≤ sizeLine then .ok (.int x.length) st else .bad
  | [.tup a] => .ok (.int a.length) st
  | [d] => match asR st d with
    | some a => .ok (.int a.length) st
    | none => .bad
  | _ => .bad
theorem cd_len : CallD X G W (.builtin "len") lenD := by
  intro pins s σ H xs us Q I rs ⟨σ', env, F, ph, st, ds, r, rv, w⟩
  unfold lenD at w
  split at w
  · obtain ⟨v, rfl, r1⟩ := rv.inv1
    simp only [R] at r1; subst r1
    split at w
    · rename_i hz
      exact call_len pins s σ H _ us Q I rs ⟨_, _, rfl, ⟨hz, rfl⟩, w.fin r (by simp only [R])⟩
    · exact w.elim
  · rename_i a
    obtain ⟨v, rfl, r1⟩ := rv.inv1
    obtain ⟨p, vs, rfl, h2, h3⟩ := asT_ok r.s r1 (ds := a) rfl
    exact call_len pins s σ H _ us Q I rs ⟨_, vs.length, rfl, .inr ⟨vs, SqT.of h2, rfl⟩, w.fin r (by simp only [R]; rw [h3.len])⟩
  · rename_i d _ _
    obtain ⟨v, rfl, r1⟩ := rv.inv1
    split at w
    · rename_i a ha
      obtain ⟨p, vs, rfl, h2, h3⟩ := asR_ok r.s r1 ha
      exact call_len pins s σ H _ us Q I rs ⟨_, vs.length, rfl, .inl ⟨vs, h2, rfl⟩, w.fin r (by simp only [R]; rw [h3.len])⟩
    · exact w.elim
  · exact w.elim
def absD (ds : List D) (st : Store) : Res D := match ds with
  | [.int i] => .ok (.int (if i < 0 then -i else i)) st
  | _ => .bad
theorem cd_abs : CallD X G W (.builtin "abs") absD := by
  intro pins s σ H xs us Q I rs ⟨σ', env, F, ph, st, ds, r, rv, w⟩
  unfold absD at w
  split at w
  · obtain ⟨v, rfl, r1⟩ := rv.inv1
    simp only [R] at r1; subst r1
    exact call_abs pins s σ H _ us Q I rs ⟨_, rfl, w.fin r (by simp only [R])⟩
  · exact w.elim
def max2D (ds : List D) (st : Store) : Res D := match ds with
  | [.int i, .int j] => .ok (.int (if j > i then j else i)) st
  | _ => .bad
def min2D (ds : List D) (st : Store) : Res D := match ds with
  | [.int i, .int j] => .ok (.int (if j < i then j else i)) st
  | _ => .bad
theorem cd_max2 (hc : X.calm = true) : CallD X G W (.builtin "max") max2D := by
  intro pins s σ H xs us Q I rs ⟨σ', env, F, ph, st, ds, r, rv, w⟩
  unfold max2D at w
  split at w
  · obtain ⟨v, v', rfl, r1, r2⟩ := rv.inv2
    simp only [R] at r1 r2; subst r1; subst r2
    exact call_max2 hc pins s σ H _ us Q I rs ⟨_, _, rfl, w.fin r (by simp only [R])⟩
  · exact w.elim
theorem cd_min2 (hc : X.calm = true) : CallD X G W (.builtin "min") min2D := by
  intro pins s σ H xs us Q I rs ⟨σ', env, F, ph, st, ds, r, rv, w⟩
  unfold min2D at w
  split at w
  · obtain ⟨v, v', rfl, r1, r2⟩ := rv.inv2
    simp only [R] at r1 r2; subst r1; subst r2
    exact call_min2 hc pins s σ H _ us Q I rs ⟨_, _, rfl, w.fin r (by simp only [R])⟩
  · exact w.elim
def divmodD (ds : List D) (st : Store) : Res D := match ds with
  | [.int i, .int j] => if divOk j then .ok (.tup [.int (i / j), .int (i % j)]) st else .bad
  | _ => .bad
theorem cd_divmod : CallD X G W (.builtin "divmod") divmodD := by
  intro pins s σ H xs us Q I rs ⟨σ', env, F, ph, st, ds, r, rv, w⟩
  unfold divmodD at w
  split at w
  · obtain ⟨v, v', rfl, r1, r2⟩ := rv.inv2
    simp only [R] at r1 r2; subst r1; subst r2
    split at w
    · rename_i hd
      obtain ⟨h1, h2⟩ := divOk_iff hd
      refine call_divmodW pins s σ H _ us Q I rs ⟨_, _, rfl, ⟨h1, PyProof.noPylong_of_log2 h2⟩, fun p hp => w.newT r ?_ hp⟩
      simp only [Rs, R]
      exact ⟨_, _, rfl, rfl, _, _, rfl, rfl, rfl⟩
    · exact w.elim
  · exact w.elim
def listD (mk : List D → Store → Res D) (ds : List D) (st : Store) : Res D := match ds with
  | [.tup a] => mk a st
  | [d] => match asR st d with
    | some a => mk a st
    | none => .bad
  | _ => .bad
def okL (ds : List D) (st : Store) : Res D := .ok (.lst ds) st
def okC (ds : List D) (st : Store) : Res D := .ok (.cell st.length) (st ++ [.lst ds])
/-- the two ways to hold a new list -/
structure Mk1 (G : Nat → Addr) (W : WX) (mk : List D → Store → Res D) : Prop where
  new : ∀ {K : PySem.W.Frag} {σ : L2.St} {env : Env} {Q : VK} {F : Hp} {ph : List Addr} {st : Store} {H : Hp} {ds : List D} {vs : List V} {p : Addr}, want K G (R K G) W σ env Q F ph H (mk ds st) → Rel K G F ph σ env st H → Rs K G F ph ds vs → H p = none → Q (.ref p) (upd H p (.lst vs))
theorem mk1L : Mk1 G W okL := ⟨fun w r rs hp => want.newL w r rs hp⟩
theorem mk1C : Mk1 G W okC := ⟨fun w r rs hp => want.newC w r rs hp⟩
theorem cd_list {mk : List D → Store → Res D} (M : Mk1 G W mk) : CallD X G W (.type "list") (listD mk) := by
  intro pins s σ H xs us Q I rs ⟨σ', env, F, ph, st, ds, r, rv, w⟩
  unfold listD at w
  split at w
  · rename_i a
    obtain ⟨v, rfl, r1⟩ := rv.inv1
    obtain ⟨p, vs, rfl, h2, h3⟩ := asT_ok r.s r1 (ds := a) rfl
    exact call_list_of pins s σ H _ us Q I rs ⟨p, vs, rfl, .inr (SqT.of h2), fun l hl => M.new w r h3 hl⟩
  · obtain ⟨v, rfl, r1⟩ := rv.inv1
    split at w
    · rename_i a ha
      obtain ⟨p, vs, rfl, h2, h3⟩ := asR_ok r.s r1 ha
      exact call_list_of pins s σ H _ us Q I rs ⟨p, vs, rfl, .inl h2, fun l hl => M.new w r h3 hl⟩
    · exact w.elim
  · exact w.elim
def tupleD (ds : List D) (st : Store) : Res D := match ds with
  | [.tup a] => .ok (.tup a) st
  | [d] => match asR st d with
    | some a => .ok (.tup a) st
    | none => .bad
  | _ => .bad
theorem cd_tuple : CallD X G W (.type "tuple") tupleD := by
  intro pins s σ H xs us Q I rs ⟨σ', env, F, ph, st, ds, r, rv, w⟩
  unfold tupleD at w
  split at w
  · rename_i a
    obtain ⟨v, rfl, r1⟩ := rv.inv1
    obtain ⟨p, vs, rfl, h2, h3⟩ := asT_ok r.s r1 (ds := a) rfl
    exact call_tuple_of pins s σ H _ us Q I rs ⟨p, vs, rfl, .inr ⟨SqT.of h2, w.fin r r1⟩⟩
  · obtain ⟨v, rfl, r1⟩ := rv.inv1
    split at w
    · rename_i a ha
      obtain ⟨p, vs, rfl, h2, h3⟩ := asR_ok r.s r1 ha
      exact call_tuple_of pins s σ H _ us Q I rs ⟨p, vs, rfl, .inl ⟨h2, fun l hl => w.newT r h3 hl⟩⟩
    · exact w.elim
  · exact w.elim
def bools : List D → Option (List Bool)
  | [] => some []
  | .bl b :: ds => (bools ds).map (b :: ·)
  | _ => none
theorem bools_ok {K : PySem.W.Frag} {F : Hp} {ph : List Addr} : ∀ {ds : List D} {vs : List V} {bs : List Bool}, Rs K G F ph ds vs → bools ds = some bs → vs = bs.map V.bl
  | [], vs, bs, h, e => by simp only [Rs] at h; subst h; simp only [bools, Option.some.injEq] at e; subst e; rfl
  | d :: ds, vs, bs, h, e => by
    cases d with
    | bl b =>
      simp only [Rs, R] at h
      obtain ⟨v, ws, rfl, rfl, h3⟩ := h
      simp only [bools, Option.map_eq_some_iff] at e
      obtain ⟨cs, e1, rfl⟩ := e
      rw [bools_ok h3 e1]; rfl
    | _ => simp only [bools] at e; cases e
def allD (q : List Bool → Bool) (ds : List D) (st : Store) : Res D := match ds with
  | [d] => match asR st d with
    | some a => match bools a with
      | some bs => .ok (.bl (q bs)) st
      | none => .bad
    | none => .bad
  | _ => .bad
theorem cd_all (hc : X.calm = true) : CallD X G W (.builtin "all") (allD fun bs => bs.all id) := by
  intro pins s σ H xs us Q I rs ⟨σ', env, F, ph, st, ds, r, rv, w⟩
  unfold allD at w
  split at w
  · obtain ⟨v, rfl, r1⟩ := rv.inv1
    split at w
    · rename_i a ha
      split at w
      · rename_i bs hb
        obtain ⟨p, vs, rfl, h2, h3⟩ := asR_ok r.s r1 ha
        cases bools_ok h3 hb
        exact cr_all hc pins s σ H _ us Q I rs ⟨p, bs, rfl, h2, w.fin r (by simp only [R])⟩
      · exact w.elim
    · exact w.elim
  · exact w.elim
theorem cd_any (hc : X.calm = true) : CallD X G W (.builtin "any") (allD fun bs => bs.any id) := by
  intro pins s σ H xs us Q I rs ⟨σ', env, F, ph, st, ds, r, rv, w⟩
  unfold allD at w
  split at w
  · obtain ⟨v, rfl, r1⟩ := rv.inv1
    split at w
    · rename_i a ha
      split at w
      · rename_i bs hb
        obtain ⟨p, vs, rfl, h2, h3⟩ := asR_ok r.s r1 ha
        cases bools_ok h3 hb
        exact cr_any hc pins s σ H _ us Q I rs ⟨p, bs, rfl, h2, w.fin r (by simp only [R])⟩
      · exact w.elim
    · exact w.elim
  · exact w.elim
def reprD (ds : List D) (st : Store) : Res D := match ds with
  | [d] => reprF d st
  | _ => .bad
theorem cd_repr (hg : X.A.guards = some []) (hu : X.A.units + 64 < cLine) : CallD X G W (.builtin "repr") reprD := by
  intro pins s σ H xs us Q I rs ⟨σ', env, F, ph, st, ds, r, rv, w⟩
  unfold reprD at w
  split at w
  · obtain ⟨v, rfl, r1⟩ := rv.inv1
    exact call_repr (G := G) (W := W) hg hu pins s σ H _ us Q I rs ⟨v, rfl, σ', env, F, ph, st, _, r, r1, w⟩
  · exact w.elim
end
end Den

namespace Den
open PySem PySem.Spec PyProof.Rows L2
section
variable {K : PySem.W.Frag} {G : Nat → Addr} {F : Hp} {ph : List Addr}
theorem Rs.atI {ds : List D} {vs : List V} {i : Int} {d : D} (h : Rs K G F ph ds vs) (e : L2.atI ds i = some d) : ∃ v, L2.atI vs i = some v ∧ R K G F ph d v := by
  unfold L2.atI at e ⊢
  rw [h.len]
  obtain ⟨j, e1, e2⟩ := Option.bind_eq_some_iff.mp e
  obtain ⟨v, e3, e4⟩ := h.get e2
  exact ⟨v, by rw [e1]; exact e3, e4⟩
def cutD (ds : List D) (lo hi : Option Int) : List D := (ds.drop (HT.sIx ds.length 0 lo)).take (HT.sIx ds.length ds.length hi - HT.sIx ds.length 0 lo)
theorem Rs.cut {ds : List D} {vs : List V} (h : Rs K G F ph ds vs) (lo hi : Option Int) : Rs K G F ph (cutD ds lo hi) (cutV vs lo hi) := by
  unfold cutD cutV
  rw [h.len]
  exact (h.drop _).take _
end
section
variable {X : Cx} {G : Nat → Addr} {W : WX}
/-! ### subscripts, slices -/
def ixD (d e : D) (st : Store) : Res D := match e with
  | .int i => match d with
    | .str z => if z.length ≤ sizeLine then match L2.atI z.cps.toList i with
        | some c => .ok (.str ⟨#[c]⟩) st
        | none => .bad
      else .bad
    | .tup a => match L2.atI a i with
      | some x => .ok x st
      | none => .bad
    | d => match asR st d with
      | some a => match L2.atI a i with
        | some x => .ok x st
        | none => .bad
      | none => .bad
  | _ => .bad
theorem ixr_d : IxR X (rO X.K G W ixD) := by
  intro value slice pins s σ H x y v u Q I rx ry ⟨σ', env, F, ph, st, d, e, r, rd, re, w⟩ hs
  unfold ixD at w
  split at w
  · rename_i i
    simp only [R] at re; subst re
    split at w
    · simp only [R] at rd; subst rd
      split at w
      · rename_i hz
        split at w
        · rename_i c hc
          exact ix_str value slice pins s σ H _ _ v u Q I rx ry ⟨_, i, c, rfl, rfl, hz, hc, w.fin r (by simp only [R])⟩ hs
        · exact w.elim
      · exact w.elim
    · rename_i a
      split at w
      · rename_i z hz
        obtain ⟨p, vs, rfl, h2, h3⟩ := asT_ok r.s rd (ds := a) rfl
        obtain ⟨v', e1, e2⟩ := h3.atI hz
        exact ix_tup value slice pins s σ H _ _ v u Q I rx ry ⟨p, vs, i, v', rfl, rfl, SqT.of h2, e1, w.fin r e2⟩ hs
      · exact w.elim
    · split at w
      · rename_i a ha
        split at w
        · rename_i z hz
          obtain ⟨p, vs, rfl, h2, h3⟩ := asR_ok r.s rd ha
          obtain ⟨v', e1, e2⟩ := h3.atI hz
          exact ix_list value slice pins s σ H _ _ v u Q I rx ry ⟨p, vs, i, v', rfl, rfl, h2, e1, w.fin r e2⟩ hs
        · exact w.elim
      · exact w.elim
  · exact w.elim
theorem de_ix {a b : Expr} {fa fb : DenE} {pos : Pos} (ha : DE X G W a fa) (hb : DE X G W b fb) (hs : PlainIx b := by intro _ _; rfl) : DE X G W (.Subscript a b pos) (eBin ixD fa fb) :=
  peImp (pe_ix ixr_d ha hb hs) fun _ _ _ h => bin_imp h

abbrev EqO : Hp → List Addr → Option Int → Option Int → Prop := fun _ _ a b => a = b
abbrev DenO := Env → Store → Res (Option Int)
def DO (X : Cx) (G : Nat → Addr) (W : WX) (e : Option Expr) (f : DenO) : Prop := PO X e (rd X.K G EqO W f)
def oNone : DenO := fun _ st => .ok none st
def oSome (f : DenE) : DenO := fun env st => (f env st).bind fun d st1 => match d with
  | .int i => .ok (some i) st1
  | _ => .bad
theorem do_none : DO X G W none oNone := ⟨fun p s σ H Q I ⟨F, ph, env, st, r, w⟩ => po_none.run p s σ H Q I (w.fin r rfl)⟩
theorem do_some {e : Expr} {f : DenE} (h : DE X G W e f) : DO X G W (some e) (oSome f) := ⟨fun p s σ H Q I ⟨F, ph, env, st, r, w⟩ => (po_some h).run p s σ H Q I ⟨F, ph, env, st, r, w.bind fun d st1 F1 p1 v H1 e1 r1 rv w1 => by
  cases d with
  | int i =>
    simp only [R] at rv
    exact ⟨i, rv, w1.fin r1 rfl⟩
  | _ => exact w1.elim⟩⟩
def slD (mk : List D → Store → Res D) (d : D) (lo hi : Option Int) (st : Store) : Res D := match d with
  | .str z => if z.length ≤ sizeLine then .ok (.str (cutS z lo hi)) st else .bad
  | .tup a => .ok (.tup (cutD a lo hi)) st
  | d => match asR st d with
    | some a => mk (cutD a lo hi) st
    | none => .bad
def eSl (mk : List D → Store → Res D) (fa : DenE) (fl fh : DenO) : DenE := fun env st => (fa env st).bind fun d st1 => (fl env st1).bind fun l st2 => (fh env st2).bind fun h st3 => slD mk d l h st3
theorem slr_d {mk : List D → Store → Res D} (M : Mk1 G W mk) : SlR X (fun x lo hi H Q => ∃ σ env F ph st d, Rel X.K G F ph σ env st H ∧ R X.K G F ph d x ∧ want X.K G (R X.K G) W σ env Q F ph H (slD mk d lo hi st)) := by
  intro pins s σ H x v vl vu lo hi sl Q I rx hs pl pu ⟨σ', env, F, ph, st, d, r, rd, w⟩
  unfold slD at w
  split at w
  · simp only [R] at rd; subst rd
    split at w
    · rename_i hz
      exact sl_str pins s σ H _ v vl vu lo hi sl Q I rx hs pl pu ⟨_, rfl, hz, w.fin r (by simp only [R])⟩
    · exact w.elim
  · rename_i a
    obtain ⟨p, vs, rfl, h2, h3⟩ := asT_ok r.s rd (ds := a) rfl
    refine sl_tupA pins s σ H _ v vl vu lo hi sl Q I rx hs pl pu ⟨p, vs, rfl, SqT.of h2, fun hw => ?_, fun hw q hq => w.newT r (h3.cut lo hi) hq⟩
    refine w.fin r ?_
    have e : cutD a lo hi = a := by
      unfold cutD
      rw [h3.len] at hw
      rw [hw.1, hw.2]
      simp
    rw [e]
    exact rd
  · split at w
    · rename_i a ha
      obtain ⟨p, vs, rfl, h2, h3⟩ := asR_ok r.s rd ha
      exact sl_list pins s σ H _ v vl vu lo hi sl Q I rx hs pl pu ⟨p, vs, rfl, h2, fun q hq => M.new w r (h3.cut lo hi) hq⟩
    · exact w.elim
theorem de_slice {mk : List D → Store → Res D} (M : Mk1 G W mk) {a : Expr} {lo hi : Option Expr} {fa : DenE} {fl fh : DenO} {pos p2 : Pos} (ha : DE X G W a fa) (hl : DO X G W lo fl) (hh : DO X G W hi fh) : DE X G W (.Subscript a (.Slice lo hi none p2) pos) (eSl mk fa fl fh) := by
  refine peImp (pe_slice (slr_d M) ha hl hh) fun σ H Q ⟨F, ph, env, st, r, w⟩ => ⟨F, ph, env, st, r, w.bind fun d st1 F1 p1 v H1 e1 r1 rv w1 => ⟨F1, p1, env, st1, r1, w1.bind fun l st2 F2 p2 v2 H2 e2 r2 rv2 w2 => ⟨F2, p2, env, st2, r2, w2.bind fun h st3 F3 p3 v3 H3 e3 r3 rv3 w3 => ?_⟩⟩⟩
  cases rv2; cases rv3
  exact ⟨σ, env, F3, p3, st3, d, r3, R.mono (e2.trans e3).x d v rv, w3⟩

/-! ### methods of built-in types -/
def tyChk (T : String) (st : Store) : D → Bool
  | .str _ => T == "str"
  | d => T == "list" && (asR st d).isSome
theorem tyChk_ok {K : PySem.W.Frag} {F : Hp} {ph : List Addr} {st : Store} {H : Hp} {d : D} {v : V} {T : String} (r : RelS K G F ph st H) (rv : R K G F ph d v) (h : tyChk T st d = true) : tyV K T v H := by
  unfold tyChk at h
  split at h
  · simp only [R] at rv; subst rv; exact beq_iff_eq.mp h
  · rw [Bool.and_eq_true] at h
    obtain ⟨a, ha⟩ := Option.isSome_iff_exists.mp h.2
    obtain ⟨p, vs, rfl, h2, h3⟩ := asR_ok r rv ha
    exact .inl ⟨beq_iff_eq.mp h.1, vs, h2⟩
def rM (K : PySem.W.Frag) (G : Nat → Addr) (W : WX) (g : D → List D → Store → Res D) : V → List V → Hp → VK → Prop := fun x xs H Q =>
  ∃ σ env F ph st d ds, Rel K G F ph σ env st H ∧ R K G F ph d x ∧ Rs K G F ph ds xs ∧ want K G (R K G) W σ env Q F ph H (g d ds st)
def MtD (X : Cx) (G : Nat → Addr) (W : WX) (id : String) (g : D → List D → Store → Res D) : Prop := MtR X id (rM X.K G W g)
def eM (T : String) (g : D → List D → Store → Res D) (fo : DenE) (fa : DenA) : DenE := fun env st => (fo env st).bind fun d st1 => if tyChk T st1 d then (fa env st1).bind fun ds st2 => g d ds st2 else .bad
theorem de_bm {T id : String} {name : Str} {g : D → List D → Store → Res D} {o e : Expr} {es : List Expr} {fo : DenE} {fa : DenA} {apos cpos : Pos} (hm : MtD X G W id g) (ho : DE X G W o fo) (ha : DA X G W (e :: es) fa)
    (pa : PlainAttrs T) (slot : Slot T name id) (hty : typeOf (.builtin id) = pure (.type "method_descriptor"))
    (hbase : attributeBase o name X.env (eval o X.env) = eval o X.env := by rfl)
    (hfew : ((backTo cpos (starEach (e :: es) X.env)).all (fun x => !x.1) && (backToKw cpos (keywordEach [] X.env)).all (fun x => x.1.isSome)
      && decide ((e :: es).length + ([] : List Keyword).length + (if ([] : List Keyword).isEmpty then 0 else 1) < 30)) = true := by rfl)
    (hline : (apos.endLine == cpos.line) = true := by rfl) (hs : starEach (e :: es) X.env = (false, eval e X.env) :: starEach es X.env := by rfl) (hplain : (backTo cpos (starEach es X.env)).any (·.1) = false := by rfl) :
    DE X G W (.Call (.Attribute o name apos) (e :: es) [] cpos) (eM T g fo fa) := by
  refine peImp (pe_bm pa slot hty hm ho ha hbase hfew hline hs hplain) fun σ H Q ⟨F, ph, env, st, r, w⟩ => ⟨F, ph, env, st, r, w.bind fun d st1 F1 p1 v H1 e1 r1 rv w1 => ?_⟩
  split at w1
  · rename_i hc
    exact ⟨tyChk_ok r1.s rv hc, F1, p1, env, st1, r1, w1.bind fun ds st2 F2 p2 vs H2 e2 r2 rvs w2 => ⟨σ, env, F2, p2, st2, d, ds, r2, R.mono e2.x d v rv, rvs, w2⟩⟩
  · exact w1.elim
theorem de_bm0 {T id : String} {name : Str} {g : D → List D → Store → Res D} {o : Expr} {fo : DenE} {apos cpos : Pos} (hm : MtD X G W id g) (ho : DE X G W o fo)
    (pa : PlainAttrs T) (slot : Slot T name id) (hty : typeOf (.builtin id) = pure (.type "method_descriptor"))
    (hbase : attributeBase o name X.env (eval o X.env) = eval o X.env := by rfl) (hline : (apos.endLine == cpos.line) = true := by rfl) :
    DE X G W (.Call (.Attribute o name apos) [] [] cpos) (eM T g fo aNil) := by
  refine peImp (pe_bm0 pa slot hty hm ho hbase hline) fun σ H Q ⟨F, ph, env, st, r, w⟩ => ⟨F, ph, env, st, r, w.bind fun d st1 F1 p1 v H1 e1 r1 rv w1 => ?_⟩
  split at w1
  · rename_i hc
    exact ⟨tyChk_ok r1.s rv hc, σ, env, F1, p1, st1, d, [], r1, rv, by simp only [Rs], w1⟩
  · exact w1.elim
/-- the cell of a list is changed -/
theorem want.put {K : PySem.W.Frag} {σ : L2.St} {env : Env} {Q : VK} {F : Hp} {ph : List Addr} {st : Store} {H : Hp} {n : Nat} {p : Addr} {d : D} {x : V} {ds : List D} {vs : List V} (w : want K G (R K G) W σ env Q F ph H (.ok d (st.set n (.lst ds)))) (r : Rel K G F ph σ env st H)
    (hn : ph[n]? = some p) (hF : F p = none) (rs : Rs K G F ph ds vs) (rx : R K G F ph d x) : Q x (upd H p (.lst vs)) := by
  obtain ⟨ex, rs'⟩ := r.s.put (o := .lst vs) (c := .lst ds) hn hF ⟨hF, vs, upd_same, rs⟩
  exact w F ph _ _ ex ⟨rs', r.e⟩ rx
def lstCell (st : Store) : D → Option (Nat × List D)
  | .cell n => match st[n]? with
    | some (.lst ds) => some (n, ds)
    | _ => none
  | _ => none
theorem lstCell_ok {K : PySem.W.Frag} {F : Hp} {ph : List Addr} {st : Store} {H : Hp} {d : D} {v : V} {n : Nat} {ds : List D} (r : RelS K G F ph st H) (rv : R K G F ph d v) (h : lstCell st d = some (n, ds)) :
    ∃ a vs, v = .ref a ∧ ph[n]? = some a ∧ F a = none ∧ H a = some (.lst vs) ∧ Rs K G F ph ds vs := by
  unfold lstCell at h
  split at h
  · split at h
    · rename_i ds' e
      cases h
      simp only [R] at rv
      obtain ⟨a, rfl, h2⟩ := rv
      obtain ⟨z, vs, h3, h4⟩ := r.cells _ _ a e h2
      exact ⟨a, vs, rfl, h2, z, h3, h4⟩
    · cases h
  · cases h
def appendD (d : D) (ds : List D) (st : Store) : Res D := match lstCell st d, ds with
  | some (n, xs), [e] => if xs.length < sizeLine then .ok .non (st.set n (.lst (xs ++ [e]))) else .bad
  | _, _ => .bad
theorem md_append : MtD X G W "list.append" appendD := by
  intro pins s σ H x xs v us Q I rx rs ⟨σ', env, F, ph, st, d, ds, r, rd, rds, w⟩
  unfold appendD at w
  split at w
  · rename_i n ys e hc
    split at w
    · rename_i hz
      obtain ⟨a, vs, rfl, h2, h3, h4, h5⟩ := lstCell_ok r.s rd hc
      obtain ⟨y, rfl, ry⟩ := rds.inv1
      exact mt_append pins s σ H _ _ v us Q I rx rs ⟨a, vs, y, rfl, rfl, h4, by rw [h5.len]; exact hz, w.put r h2 h3 (h5.app (Rs.one ry)) (by simp only [R])⟩
    · exact w.elim
  · exact w.elim
def reverseD (d : D) (ds : List D) (st : Store) : Res D := match lstCell st d, ds with
  | some (n, xs), [] => .ok .non (st.set n (.lst xs.reverse))
  | _, _ => .bad
theorem md_reverse : MtD X G W "list.reverse" reverseD := by
  intro pins s σ H x xs v us Q I rx rs ⟨σ', env, F, ph, st, d, ds, r, rd, rds, w⟩
  unfold reverseD at w
  split at w
  · rename_i n ys hc
    obtain ⟨a, vs, rfl, h2, h3, h4, h5⟩ := lstCell_ok r.s rd hc
    simp only [Rs] at rds; subst rds
    exact mt_reverse pins s σ H _ _ v us Q I rx rs ⟨a, vs, rfl, rfl, h4, w.put r h2 h3 h5.rev (by simp only [R])⟩
  · exact w.elim
def clearD (d : D) (ds : List D) (st : Store) : Res D := match lstCell st d, ds with
  | some (n, xs), [] => .ok .non (st.set n (.lst []))
  | _, _ => .bad
theorem md_clear : MtD X G W "list.clear" clearD := by
  intro pins s σ H x xs v us Q I rx rs ⟨σ', env, F, ph, st, d, ds, r, rd, rds, w⟩
  unfold clearD at w
  split at w
  · rename_i n ys hc
    obtain ⟨a, vs, rfl, h2, h3, h4, h5⟩ := lstCell_ok r.s rd hc
    simp only [Rs] at rds; subst rds
    exact mt_clear pins s σ H _ _ v us Q I rx rs ⟨a, vs, rfl, rfl, h4, w.put r h2 h3 (by simp only [Rs]) (by simp only [R])⟩
  · exact w.elim
def strsOf : List D → Option (List Str)
  | [] => some []
  | .str x :: ds => (strsOf ds).map (x :: ·)
  | _ => none
theorem strsOf_ok {K : PySem.W.Frag} {F : Hp} {ph : List Addr} : ∀ {ds : List D} {vs : List V} {bs : List Str}, Rs K G F ph ds vs → strsOf ds = some bs → vs = bs.map V.str
  | [], vs, bs, h, e => by simp only [Rs] at h; subst h; simp only [strsOf, Option.some.injEq] at e; subst e; rfl
  | d :: ds, vs, bs, h, e => by
    cases d with
    | str b =>
      simp only [Rs, R] at h
      obtain ⟨v, ws, rfl, rfl, h3⟩ := h
      simp only [strsOf, Option.map_eq_some_iff] at e
      obtain ⟨cs, e1, rfl⟩ := e
      rw [strsOf_ok h3 e1]; rfl
    | _ => simp only [strsOf] at e; cases e
def joinD (d : D) (ds : List D) (st : Store) : Res D := match d, ds with
  | .str a, [e] => match asR st e with
    | some xs => match strsOf xs with
      | some ys => if (ys.map (·.length)).sum + ys.length * a.length ≤ 16777216 then .ok (.str (Txt.join a ys)) st else .bad
      | none => .bad
    | none => .bad
  | _, _ => .bad
theorem md_join : MtD X G W "str.join" joinD := by
  intro pins s σ H x xs v us Q I rx rs ⟨σ', env, F, ph, st, d, ds, r, rd, rds, w⟩
  unfold joinD at w
  split at w
  · simp only [R] at rd; subst rd
    obtain ⟨y, rfl, ry⟩ := rds.inv1
    split at w
    · rename_i ys hy
      split at w
      · rename_i zs hz
        split at w
        · rename_i hl
          obtain ⟨p, vs, rfl, h2, h3⟩ := asR_ok r.s ry hy
          cases strsOf_ok h3 hz
          exact mt_join pins s σ H _ _ v us Q I rx rs ⟨_, p, zs, rfl, rfl, .inl h2, hl, w.fin r (by simp only [R])⟩
        · exact w.elim
      · exact w.elim
    · exact w.elim
  · exact w.elim
def upperD (d : D) (ds : List D) (st : Store) : Res D := match d, ds with
  | .str a, [] => if a.length ≤ 5592405 then .ok (.str (Txt.upper a)) st else .bad
  | _, _ => .bad
theorem md_upper : MtD X G W "str.upper" upperD := by
  intro pins s σ H x xs v us Q I rx rs ⟨σ', env, F, ph, st, d, ds, r, rd, rds, w⟩
  unfold upperD at w
  split at w
  · simp only [R] at rd; subst rd
    simp only [Rs] at rds; subst rds
    split at w
    · rename_i hz
      exact mt_upper pins s σ H _ _ v us Q I rx rs ⟨_, rfl, rfl, hz, w.fin r (by simp only [R])⟩
    · exact w.elim
  · exact w.elim

/-! ### dict displays -/
theorem want.newD {K : PySem.W.Frag} {σ : L2.St} {env : Env} {Q : VK} {F : Hp} {ph : List Addr} {st : Store} {H : Hp} {kvs : List (Key × D)} {ws : List (Key × V)} {p : Addr} (w : want K G (R K G) W σ env Q F ph H (.ok (.dct kvs) st)) (r : Rel K G F ph σ env st H) (rs : Rk K G F ph kvs ws) (hp : H p = none) : Q (.ref p) (upd H p (.dK ws)) := by
  obtain ⟨ex, r'⟩ := r.s.lay (o := .dK ws) hp
  exact w _ _ _ _ ex ⟨r', r.e.mono ex.x⟩ (by simp only [R]; exact ⟨p, ws, rfl, upd_same, Rk.mono ex.x kvs ws rs⟩)
theorem de_dict0 {pos : Pos} : DE X G W (.Dict [] [] pos) (eK (.dct [])) :=
  peImp pe_dnewK fun σ H Q ⟨F, ph, env, st, r, w⟩ => fun p hp => w.newD r (by simp only [Rk]) hp
def eDict1 (k : DenE) (i : Int) : DenE := fun env st => (k env st).bind fun d st1 => match d with
  | .str x => .ok (.dct [(.inr x, .int i)]) st1
  | _ => .bad
theorem de_dict1K {pos p1 p2 : Pos} {j1 j2 : Nat} {x : Str} {i : Int} : DE X G W (.Dict [some (.Constant (.str x) j1 p1)] [.Constant (.int i) j2 p2] pos) (eDict1 (eK (.str x)) i) := by
  refine peImp (pe_disp (pps_cons pe_str pe_int pps_nil) (by rfl) (by rfl) (fun z => by cases z) (by simp)) fun σ H Q ⟨F, ph, env, st, r, w⟩ => ?_
  intro p hp
  refine ⟨upd_same, [(.inr x, .int i)], rfl, by simp, ?_⟩
  rw [upd_upd]
  exact want.newD (kvs := [(.inr x, .int i)]) w r (by simp only [Rk, R]; exact ⟨_, _, rfl, rfl, rfl⟩) hp
theorem de_dict1V (n : Nat) {pos p1 p2 : Pos} {j2 : Nat} {x : Str} {i : Int} (hN : X.N[n]? = some x := by rfl) (hv : Vis X.env.scope x := by first | exact Or.inl rfl | exact Or.inr (Or.inl rfl) | exact Or.inr (Or.inr rfl))
    (hd : (x == ("__debug__" : Str)) = false := by decide) (hcd : (x == ("__classdict__" : Str)) = false := by decide) : DE X G W (.Dict [some (.Name x p1)] [.Constant (.int i) j2 p2] pos) (eDict1 (eVar n) i) := by
  refine peImp (pe_disp (pps_cons (pe_var hN hv hd hcd) pe_int pps_nil) (by rfl) (by rfl) (fun z => by cases z) (by simp)) fun σ H Q ⟨F, ph, env, st, r, w⟩ => ?_
  intro p hp
  unfold eDict1 eVar at w
  split at w
  · rename_i d e
    obtain ⟨v, e1, e2⟩ := r.e.get n d e
    simp only [Res.bind] at w
    split at w
    · rename_i y
      simp only [R] at e2; subst e2
      refine ⟨.str y, e1, upd_same, [(.inr y, .int i)], rfl, by simp, ?_⟩
      rw [upd_upd]
      exact want.newD (kvs := [(.inr y, .int i)]) w r (by simp only [Rk, R]; exact ⟨_, _, rfl, rfl, rfl⟩) hp
    · exact w.elim
  · exact w.elim
/-! ### a list's cell is locked for good -/
def frzC (d : D) (st : Store) : Res D := match d with
  | .cell n => match st[n]? with
    | some (.lst ds) => .ok (.lst ds) (st.set n (.fz (.lst ds)))
    | some (.fz (.lst ds)) => .ok (.lst ds) st
    | _ => .bad
  | d => .ok d st
def eFrz (f : DenE) : DenE := fun env st => (f env st).bind frzC
theorem de_frz {e : Expr} {f : DenE} (h : DE X G W e f) : DE X G W e (eFrz f) := by
  refine peImp h fun σ H Q ⟨F, ph, env, st, r, w⟩ => ⟨F, ph, env, st, r, w.bind fun d st1 F1 p1 v H1 e1 r1 rv w1 => ?_⟩
  unfold frzC at w1
  split at w1
  · rename_i n
    split at w1
    · rename_i ds e
      simp only [R] at rv
      obtain ⟨a, rfl, h2⟩ := rv
      obtain ⟨vs, ex, rs, rr⟩ := r1.s.freezeL h2 e
      exact w1 _ _ _ _ ex ⟨rs, r1.e.mono ex.x⟩ rr
    · rename_i ds e
      simp only [R] at rv
      obtain ⟨a, rfl, h2⟩ := rv
      obtain ⟨_, h3⟩ := r1.s.cells n _ a e h2
      exact w1.fin r1 h3
    · exact w1.elim
  · exact w1.fin r1 rv
end
end Den

namespace Den
open PySem PySem.Spec PyProof.Rows L2

/-! ### statements -/
abbrev DenS := Env → Store → SRes
section
variable (K : PySem.W.Frag) (G : Nat → Addr) (W : WX)
def wantS (E : Ends) (F : Hp) (ph : List Addr) (H : Hp) : SRes → Prop
  | .next env st => ∀ F' ph' σ' H', Ex F ph H F' ph' H' → Rel K G F' ph' σ' env st H' → E.nx σ' H'
  | .brk env st => ∀ F' ph' σ' H', Ex F ph H F' ph' H' → Rel K G F' ph' σ' env st H' → E.bk σ' H'
  | .cont env st => ∀ F' ph' σ' H', Ex F ph H F' ph' H' → Rel K G F' ph' σ' env st H' → E.ct σ' H'
  | .ret d st => ∀ F' ph' v H', Ex F ph H F' ph' H' → RelS K G F' ph' st H' → R K G F' ph' d v → E.rt v H'
  | .exc x env st => ∀ F' ph' dd σ' H', Ex F ph H F' ph' H' → Rel K G F' ph' σ' env st H' → XOk K G F' ph' x dd → W (.ref (G x.c)) dd σ' H'
  | .bad => False
def rdS (f : DenS) : TS := fun E σ H => ∃ F ph env st, Rel K G F ph σ env st H ∧ wantS K G W E F ph H (f env st)
end
theorem wantS.mono {K : PySem.W.Frag} {G : Nat → Addr} {W : WX} {E : Ends} {F F' : Hp} {ph ph' : List Addr} {H H' : Hp} {r : SRes} (e : Ex F ph H F' ph' H') (h : wantS K G W E F ph H r) : wantS K G W E F' ph' H' r := by
  cases r with
  | bad => exact h
  | next env st => exact fun F2 p2 v H2 e2 => h F2 p2 v H2 (e.trans e2)
  | brk env st => exact fun F2 p2 v H2 e2 => h F2 p2 v H2 (e.trans e2)
  | cont env st => exact fun F2 p2 v H2 e2 => h F2 p2 v H2 (e.trans e2)
  | ret d st => exact fun F2 p2 v H2 e2 => h F2 p2 v H2 (e.trans e2)
  | exc x env st => exact fun F2 p2 v s2 H2 e2 => h F2 p2 v s2 H2 (e.trans e2)
def DS (X : Cx) (G : Nat → Addr) (W : WX) (s : Stmt) (f : DenS) : Prop := PS X s (rdS X.K G W f)
def DSs (X : Cx) (G : Nat → Addr) (W : WX) (s : List Stmt) (f : DenS) : Prop := PSs X s (rdS X.K G W f)
/-- an expression's result handed on -/
def Res.andS {α : Type} (r : Res α) (env : Env) (k : α → Store → SRes) : SRes := match r with
  | .ok a st => k a st
  | .exc x st => .exc x env st
  | .bad => .bad
section
variable {X : Cx} {G : Nat → Addr} {W : WX}
theorem wantS.bind {K : PySem.W.Frag} {α β : Type} {RR : Hp → List Addr → α → β → Prop} {E : Ends} {σ : L2.St} {env : Env} {Q : β → Hp → Prop} {F : Hp} {ph : List Addr} {H : Hp} {r : Res α} {k : α → Store → SRes} (h : wantS K G W E F ph H (r.andS env k))
    (nx : ∀ d st1 F1 p1 v H1, Ex F ph H F1 p1 H1 → Rel K G F1 p1 σ env st1 H1 → RR F1 p1 d v → wantS K G W E F1 p1 H1 (k d st1) → Q v H1) : want K G RR W σ env Q F ph H r := by
  cases r with
  | ok d st => exact fun F1 p1 v H1 e r1 r2 => nx d st F1 p1 v H1 e r1 r2 (wantS.mono e h)
  | exc x st => exact fun F1 p1 dd H1 e r1 r2 => h F1 p1 dd σ H1 e r1 r2
  | bad => exact h
theorem wantS.fin {K : PySem.W.Frag} {E : Ends} {F : Hp} {ph : List Addr} {σ : L2.St} {env : Env} {st : Store} {H : Hp} (h : wantS K G W E F ph H (.next env st)) (r : Rel K G F ph σ env st H) : E.nx σ H := h F ph σ H (Ex.refl _ _ _) r
def sSeq (f g : DenS) : DenS := fun env st => match f env st with
  | .next env1 st1 => g env1 st1
  | r => r
def sNext : DenS := fun env st => .next env st
theorem dss_nil : DSs X G W [] sNext := pssImp pss_nil fun D σ H ⟨F, ph, env, st, r, w⟩ => w.fin r
theorem dss_one {s : Stmt} {f : DenS} (h : DS X G W s f) : DSs X G W [s] f := pss_one h
theorem dss_cons {s : Stmt} {rest : List Stmt} {f g : DenS} (h : DS X G W s f) (h2 : DSs X G W rest g) : DSs X G W (s :: rest) (sSeq f g) := by
  refine pssImp (pss_cons h h2) fun D σ H ⟨F, ph, env, st, r, w⟩ => ⟨F, ph, env, st, r, ?_⟩
  unfold sSeq at w
  cases e : f env st with
  | next env1 st1 =>
    rw [e] at w
    exact fun F' ph' σ' H' ex r' => ⟨F', ph', env1, st1, r', w.mono ex⟩
  | brk env1 st1 => rw [e] at w; exact w
  | cont env1 st1 => rw [e] at w; exact w
  | ret d st1 => rw [e] at w; exact w
  | exc x env1 st1 => rw [e] at w; exact w
  | bad => rw [e] at w; exact w
theorem ds_pass {pos : Pos} : DS X G W (.Pass pos) sNext := psImp ps_pass fun D σ H ⟨F, ph, env, st, r, w⟩ => w.fin r
def sBad : DenS := fun _ _ => .bad
theorem ds_bad {s : Stmt} : DS X G W s sBad := psImp ps_never fun D σ H ⟨F, ph, env, st, r, w⟩ => w
theorem dss_bad {s : List Stmt} : DSs X G W s sBad := pssImp pss_never fun D σ H ⟨F, ph, env, st, r, w⟩ => w
def sRet (f : DenE) : DenS := fun env st => (f env st).andS env fun d st1 => .ret d st1
theorem ds_ret {e : Expr} {f : DenE} {pos : Pos} (h : DE X G W e f) : DS X G W (.Return (some e) pos) (sRet f) := by
  refine psImp (ps_ret h) fun D σ H ⟨F, ph, env, st, r, w⟩ => ⟨F, ph, env, st, r, wantS.bind w fun d st1 F1 p1 v H1 e1 r1 rv w1 => ?_⟩
  exact w1 F1 p1 v H1 (Ex.refl _ _ _) r1.s rv
def sRetN : DenS := fun _ st => .ret .non st
theorem ds_retN {pos : Pos} : DS X G W (.Return none pos) sRetN :=
  psImp ps_retN fun D σ H ⟨F, ph, env, st, r, w⟩ => w F ph _ H (Ex.refl _ _ _) r.s (by simp only [R])
def sExpr (f : DenE) : DenS := fun env st => (f env st).andS env fun _ st1 => .next env st1
theorem ds_expr {e : Expr} {f : DenE} {pos : Pos} (h : DE X G W e f) (hs : swapsWith e none pos.line X.env = pure false := by rfl) : DS X G W (.Expr e pos) (sExpr f) := by
  refine psImp (ps_expr h hs) fun D σ H ⟨F, ph, env, st, r, w⟩ => ⟨F, ph, env, st, r, wantS.bind w fun d st1 F1 p1 v H1 e1 r1 rv w1 => ?_⟩
  exact w1.fin r1
def sIf (t : DenT) (f g : DenS) : DenS := fun env st => (t env st).andS env fun b st1 => if b then f env st1 else g env st1
theorem ds_if {c : Expr} {a b : List Stmt} {t : DenT} {f g : DenS} {pos : Pos} (hc : DT X G W c t) (ha : DSs X G W a f) (hb : DSs X G W b g) : DS X G W (.If c a b pos) (sIf t f g) := by
  refine psImp (ps_if hc ha hb) fun D σ H ⟨F, ph, env, st, r, w⟩ => ⟨F, ph, env, st, r, wantS.bind w fun k st1 F1 p1 v H1 e1 r1 rv w1 => ?_⟩
  cases rv
  cases k with
  | true => rw [if_pos rfl]; exact ⟨F1, p1, env, st1, r1, w1⟩
  | false => rw [if_neg (by simp)]; exact ⟨F1, p1, env, st1, r1, w1⟩
def sBrk : DenS := fun env st => .brk env st
def sCont : DenS := fun env st => .cont env st
theorem ds_brk {pos : Pos} : DS X G W (.Break pos) sBrk := psImp ps_break fun D σ H ⟨F, ph, env, st, r, w⟩ => w F ph σ H (Ex.refl _ _ _) r
theorem ds_cont {pos : Pos} : DS X G W (.Continue pos) sCont := psImp ps_continue fun D σ H ⟨F, ph, env, st, r, w⟩ => w F ph σ H (Ex.refl _ _ _) r

/-! ### targets -/
theorem wipe_in {σ : L2.St} {i : Nat} : ∀ {vs : List Nat}, i ∈ vs → (wipe σ vs)[i]? = if i < σ.length then some none else none
  | v :: vs, h => by
    unfold wipe
    rcases List.mem_cons.mp h with rfl | h
    · rw [List.getElem?_set]
      simp [wipe_length]
    · by_cases e : v = i
      · subst e
        rw [List.getElem?_set]
        simp [wipe_length]
      · rw [List.getElem?_set_ne e]
        exact wipe_in h
theorem wipe_set {σ : L2.St} {i : Nat} {x : Option V} {vs : List Nat} (h : i ∈ vs) : wipe (σ.set i x) vs = wipe σ vs := by
  apply List.ext_getElem?
  intro j
  by_cases hj : j ∈ vs
  · rw [wipe_in hj, wipe_in hj, List.length_set]
  · rw [wipe_out hj, wipe_out hj, List.getElem?_set_ne (fun e : i = j => hj (by rw [← e]; exact h))]
abbrev DenG := D → Env → Store → Option (Env × Store)
abbrev DenGs := List D → Env → Store → Option (Env × Store)
def wantG (K : PySem.W.Frag) (G : Nat → Addr) (vs : List Nat) (σ : L2.St) (Q : L2.St → Hp → Prop) (F : Hp) (ph : List Addr) (H : Hp) : Option (Env × Store) → Prop
  | some (env, st) => ∀ F' ph' σ' H', Ex F ph H F' ph' H' → Rel K G F' ph' σ' env st H' → wipe σ' vs = wipe σ vs → Q σ' H'
  | none => False
def rdG (K : PySem.W.Frag) (G : Nat → Addr) (vs : List Nat) (g : DenG) : TG := fun v σ H Q => ∃ F ph env st d, Rel K G F ph σ env st H ∧ R K G F ph d v ∧ wantG K G vs σ Q F ph H (g d env st)
def rdGs (K : PySem.W.Frag) (G : Nat → Addr) (vs : List Nat) (g : DenGs) : TGs := fun v σ H Q => ∃ F ph env st d, Rel K G F ph σ env st H ∧ Rs K G F ph d v ∧ wantG K G vs σ Q F ph H (g d env st)
theorem wantG.mono {K : PySem.W.Frag} {vs : List Nat} {σ σ1 : L2.St} {Q : L2.St → Hp → Prop} {F F' : Hp} {ph ph' : List Addr} {H H' : Hp} {o : Option (Env × Store)} (e : Ex F ph H F' ph' H') (hw : wipe σ1 vs = wipe σ vs) (h : wantG K G vs σ Q F ph H o) : wantG K G vs σ1 Q F' ph' H' o := by
  cases o with
  | none => exact h
  | some p => exact fun F2 p2 v H2 e2 r2 q2 => h F2 p2 v H2 (e.trans e2) r2 (q2.trans hw)
def DG (X : Cx) (G : Nat → Addr) (vs : List Nat) (t : Expr) (g : DenG) : Prop := PG X t (rdG X.K G vs g)
def DGs (X : Cx) (G : Nat → Addr) (vs : List Nat) (t : List Expr) (g : DenGs) : Prop := PGs X t (rdGs X.K G vs g)
theorem pgImp {t : Expr} {g g' : TG} (h : PG X t g) (i : ∀ v σ H Q, g' v σ H Q → g v σ H Q) : PG X t g' := ⟨fun p s σ H v u Q I r q => h.run p s σ H v u Q I r (i v σ H Q q)⟩
theorem pgsImp {t : List Expr} {g g' : TGs} (h : PGs X t g) (i : ∀ v σ H Q, g' v σ H Q → g v σ H Q) : PGs X t g' := ⟨fun p s σ H v u Q I r q => h.run p s σ H v u Q I r (i v σ H Q q)⟩
def gN (i : Nat) : DenG := fun d env st => some (env.set i (some d), st)
variable {ws : List Nat}
theorem dg_name (i : Nat) {x : Str} {pos : Pos} (hN : X.N.Nodup) (hw : i ∈ ws := by decide) (hi : X.N[i]? = some x := by rfl) (hx : Loc X.env.scope x := by first | exact Or.inl rfl | exact Or.inr rfl) (hf : X.fn x = true ∨ X.env.scope.names.lookup x = some .local := by first | exact .inl rfl | exact .inr rfl | assumption) : DG X G ws (.Name x pos) (gN i) :=
  pgImp (pg_name hN hi hx hf) fun v σ H Q ⟨F, ph, env, st, d, r, rv, w⟩ => w F ph _ H (Ex.refl _ _ _) ⟨r.s, r.e.set i rv⟩ (wipe_set hw)
def gsNil : DenGs := fun ds env st => match ds with
  | [] => some (env, st)
  | _ => none
def gsCons (g : DenG) (gs : DenGs) : DenGs := fun ds env st => match ds with
  | d :: ds => match g d env st with
    | some (env1, st1) => gs ds env1 st1
    | none => none
  | [] => none
theorem dgs_nil : DGs X G ws [] gsNil := pgsImp pgs_nil fun v σ H Q ⟨F, ph, env, st, d, r, rv, w⟩ => by
  unfold gsNil at w
  split at w
  · simp only [Rs] at rv
    exact ⟨rv, w F ph _ H (Ex.refl _ _ _) r rfl⟩
  · exact w.elim
theorem dgs_cons {e : Expr} {es : List Expr} {g : DenG} {gs : DenGs} (h : DG X G ws e g) (hs : DGs X G ws es gs) (ha : (assignEach (e :: es) X.env).map (·.2) = assign e X.env :: (assignEach es X.env).map (·.2) := by rfl) : DGs X G ws (e :: es) (gsCons g gs) := by
  refine pgsImp (pgs_cons h hs ha) fun v σ H Q ⟨F, ph, env, st, d, r, rv, w⟩ => ?_
  unfold gsCons at w
  split at w
  · rename_i d0 ds
    simp only [Rs] at rv
    obtain ⟨v0, vs, rfl, r1, r2⟩ := rv
    refine ⟨v0, vs, rfl, F, ph, env, st, d0, r, r1, ?_⟩
    split at w
    · rename_i env1 st1 e1
      rw [e1]
      exact fun F' ph' σ' H' ex r' hw => ⟨F', ph', env1, st1, ds, r', Rs.mono ex.x ds vs r2, w.mono ex hw⟩
    · exact w.elim
  · exact w.elim
def gT (gs : DenGs) (n : Nat) : DenG := fun d env st => match d with
  | .tup ds => if ds.length = n then gs ds env st else none
  | _ => none
theorem dg_tup {es : List Expr} {k n : Nat} {gs : DenGs} {pos : Pos} (hc : X.calm = true) (h : DGs X G ws es gs) (hn : (assignEach es X.env).length = n := by rfl) (hst : (assignEach es X.env).findIdx? (·.1) = none := by rfl) : DG X G ws (.Tuple es k pos) (gT gs n) := by
  refine pgImp (pg_tup hc h hn hst) fun v σ H Q ⟨F, ph, env, st, d, r, rv, w⟩ => ?_
  unfold gT at w
  split at w
  · rename_i ds
    split at w
    · rename_i hl
      obtain ⟨p, vs, rfl, h2, h3⟩ := asT_ok r.s rv (ds := ds) rfl
      exact ⟨p, vs, rfl, SqT.of h2, by rw [h3.len]; exact hl, F, ph, env, st, ds, r, h3, w⟩
    · exact w.elim
  · exact w.elim
/-- o[i] = v, a list's cell -/
def setD (o i v : D) (st : Store) : Option Store := match lstCell st o, i with
  | some (n, xs), .int k => match ixN xs.length k with
    | some j => some (st.set n (.lst (xs.set j v)))
    | none => none
  | _, _ => none
def gSubD (fo fi : DenE) : DenG := fun d env st => match fo env st with
  | .ok o st1 => match fi env st1 with
    | .ok i st2 => (setD o i d st2).map fun st3 => (env, st3)
    | _ => none
  | _ => none
theorem set_d : PSet X (fun o i v H Q => ∃ σ env F ph st od id vd st3, Rel X.K G F ph σ env st H ∧ R X.K G F ph od o ∧ R X.K G F ph id i ∧ R X.K G F ph vd v ∧ setD od id vd st = some st3 ∧ ∀ H', Ex F ph H F ph H' → Rel X.K G F ph σ env st3 H' → Q H') := by
  intro pins s σ H o i v ov iv u Q I ro ri rv ⟨σ', env, F, ph, st, od, id, vd, st3, r, r1, r2, r3, e, w⟩
  unfold setD at e
  split at e
  · rename_i n xs k hc
    split at e
    · rename_i j hj
      cases e
      obtain ⟨a, vs, rfl, h2, h3, h4, h5⟩ := lstCell_ok r.s r1 hc
      simp only [R] at r2; subst r2
      refine set_list pins s σ H _ _ v ov iv u Q I ro ri rv ⟨a, vs, k, j, rfl, rfl, h4, by rw [h5.len]; exact hj, ?_⟩
      obtain ⟨ex, rs'⟩ := r.s.put (o := .lst (vs.set j v)) (c := .lst (xs.set j vd)) h2 h3 ⟨h3, _, upd_same, h5.set r3 j⟩
      exact w _ ex ⟨rs', r.e⟩
    · cases e
  · cases e
theorem dg_sub {o i : Expr} {fo fi : DenE} {pos : Pos} (ho : DE X G (fun _ _ _ _ => False) o fo) (hi : DE X G (fun _ _ _ _ => False) i fi)
    (ha : ∀ v, assign (.Subscript o i pos) X.env v = (do
      let ov ← holding [v] (eval o X.env)
      let iv ← holding [v, ov] (eval i X.env)
      standAt pos
      holding [v, ov, iv] (setItem ov iv v)
      release [v, ov, iv] []) := by intro _; rfl) : DG X G ws (.Subscript o i pos) (gSubD fo fi) := by
  refine pgImp (pg_sub ho hi (set_d (G := G)) ha) fun v σ H Q ⟨F, ph, env, st, d, r, rv, w⟩ => ?_
  unfold gSubD at w
  refine ⟨F, ph, env, st, r, ?_⟩
  cases e : fo env st with
  | ok od st1 =>
    rw [e] at w
    simp only at w
    refine fun F1 p1 v1 H1 e1 r1 rv1 => ⟨F1, p1, env, st1, r1, ?_⟩
    cases e2 : fi env st1 with
    | ok id st2 =>
      rw [e2] at w
      simp only at w
      intro F2 p2 v2 H2 ex2 r2 rv2
      cases q : setD od id d st2 with
      | some st3 =>
        rw [q] at w
        exact ⟨σ, env, F2, p2, st2, od, id, d, st3, r2, R.mono ex2.x od v1 rv1, rv2, R.mono (e1.trans ex2).x d v rv, q, fun H' ex3 r' => w F2 p2 σ H' ((e1.trans ex2).trans ex3) r' rfl⟩
      | none => rw [q] at w; exact w.elim
    | exc x st2 => rw [e2] at w; exact w.elim
    | bad => rw [e2] at w; exact w.elim
  | exc x st1 => rw [e] at w; exact w.elim
  | bad => rw [e] at w; exact w.elim
end
end Den

namespace Den
open PySem PySem.Spec PyProof.Rows L2
section
variable {X : Cx} {G : Nat → Addr} {W : WX} {ws : List Nat}
/-! ### assignment -/
def sAsg (f : DenE) (g : DenG) : DenS := fun env st => (f env st).andS env fun d st1 => match g d env st1 with
  | some (env2, st2) => .next env2 st2
  | none => .bad
theorem asg_imp {f : DenE} {g : DenG} {E : Ends} {σ : L2.St} {H : Hp} (h : rdS X.K G W (sAsg f g) E σ H) : rd X.K G (R X.K G) W f σ H fun x H1 => rdG X.K G ws g x σ H1 E.nx := by
  obtain ⟨F, ph, env, st, r, w⟩ := h
  refine ⟨F, ph, env, st, r, wantS.bind w fun d st1 F1 p1 v H1 e1 r1 rv w1 => ⟨F1, p1, env, st1, d, r1, rv, ?_⟩⟩
  split at w1
  · rename_i env2 st2 e
    rw [e]
    exact fun F' ph' σ' H' ex r' _ => w1 F' ph' σ' H' ex r'
  · exact w1.elim
theorem ds_asg {tg e : Expr} {f : DenE} {g : DenG} {pos : Pos} (he : DE X G W e f) (hg : DG X G ws tg g) (hs : swapsWithSole [tg] e pos.line X.env = pure false := by rfl) (hw : swappedStores [tg] e X.env = pure none := by rfl)
    (h1 : (assignEach [tg] X.env).map (·.2) = [assign tg X.env] := by rfl) : DS X G W (.Assign [tg] e pos) (sAsg f g) :=
  psImp (ps_asg he hg hs hw h1) fun _ _ _ h => asg_imp h
/-- a, b = e1, e2 with both sides written -/
def sPar (i j : Nat) (f : DenA) : DenS := fun env st => (f env st).andS env fun ds st1 => match ds with
  | [a, b] => .next ((env.set i (some a)).set j (some b)) st1
  | _ => .bad
theorem ds_par {i j : Nat} {x y : Str} {a b : Expr} {f : DenA} {px py pt pos : Pos} {kt k2 pt2} (hc : X.calm = true) (hN : X.N.Nodup) (ha : DA X G W [a, b] f) (hi : X.N[i]? = some x := by rfl) (hj : X.N[j]? = some y := by rfl) (hij : i ≠ j := by decide)
    (hx : X.env.scope.names.lookup x = some .local := by rfl) (hy : X.env.scope.names.lookup y = some .local := by rfl)
    (hw : swappedStores [.Tuple [.Name x px, .Name y py] kt pt] (.Tuple [a, b] k2 pt2) X.env = pure (some [x, y]) := by rfl)
    (hs : swapsWithSole [.Tuple [.Name x px, .Name y py] kt pt] (.Tuple [a, b] k2 pt2) pos.line X.env = pure false := by rfl) :
    DS X G W (.Assign [.Tuple [.Name x px, .Name y py] kt pt] (.Tuple [a, b] k2 pt2) pos) (sPar i j f) := by
  refine psImp (ps_par hc hN hi hj hij hx hy ha hw hs) fun D σ H ⟨F, ph, env, st, r, w⟩ => ⟨F, ph, env, st, r, wantS.bind w fun ds st1 F1 p1 vs H1 e1 r1 rv w1 => ?_⟩
  split at w1
  · rename_i d e
    obtain ⟨v, v', rfl, q1, q2⟩ := rv.inv2
    exact ⟨v, v', rfl, w1.fin ⟨r1.s, (r1.e.set i q1).set j q2⟩⟩
  · exact w1.elim
/-- x op= e -/
def sAug (i : Nat) (f : DenE) (g : D → D → Store → Res D) : DenS := fun env st => (eVar i env st).andS env fun d st0 => (f env st0).andS env fun e st1 => (g d e st1).andS env fun z st2 => .next (env.set i (some z)) st2
theorem ds_aug (i : Nat) {x : Str} {e : Expr} {f : DenE} {op : Operator} {g : D → D → Store → Res D} {pos pos' : Pos} (hN : X.N.Nodup) (he : DE X G W e f) (ho : OpD X G W (inplaceOp op) g) (hi : X.N[i]? = some x := by rfl) (hx : Loc X.env.scope x := by first | exact Or.inl rfl | exact Or.inr rfl)
    (hf : X.fn x = true ∨ X.env.scope.names.lookup x = some .local := by first | exact .inl rfl | exact .inr rfl | assumption) : DS X G W (.AugAssign (.Name x pos') op e pos) (sAug i f g) := by
  refine psImp (ps_aug (ti := rO X.K G W g) hN hi hx he ho hf) fun D σ H ⟨F, ph, env, st, r, w⟩ => ?_
  unfold sAug eVar at w
  split at w
  · rename_i d e
    obtain ⟨v, e1, e2⟩ := r.e.get i d e
    refine ⟨v, e1, F, ph, env, st, r, wantS.bind (show wantS X.K G W D F ph H ((f env st).andS env _) from w) fun d2 st1 F1 p1 v1 H1 ex1 r1 rv w1 => ?_⟩
    exact ⟨σ, env, F1, p1, st1, d, d2, r1, R.mono ex1.x d v e2, rv, wantS.bind w1 fun z st2 F2 p2 v2 H2 ex2 r2 rv2 w2 => w2.fin ⟨r2.s, r2.e.set i rv2⟩⟩
  · exact w.elim

/-! ### what is walked -/
def YD (K : PySem.W.Frag) (G : Nat → Addr) (F : Hp) (ph : List Addr) (items : List D) : Nat → Hp → V → Hp → Prop := fun i H x H' =>
  ∃ d, items[i]? = some d ∧ ((H' = H ∧ R K G F ph d x) ∨ ∃ T o, x = .ref T ∧ H T = none ∧ H' = upd H T o ∧ R K G (upd F T o) ph d x)
def WalkD (K : PySem.W.Frag) (G : Nat → Addr) (F : Hp) (ph : List Addr) (items : List D) (J : It) : Prop :=
  Walk J items.length (fun H => ∀ a o, F a = some o → H a = some o) (YD K G F ph items)
abbrev DenI := Env → Store → Res (List D)
def DI (X : Cx) (G : Nat → Addr) (W : WX) (tg it : Expr) (f : DenI) : Prop := PI X tg it (rd X.K G (WalkD X.K G) W f)
theorem piImp {tg it : Expr} {t t' : TI} (h : PI X tg it t) (i : ∀ σ H Q, t' σ H Q → t σ H Q) : PI X tg it t' := ⟨fun p s σ H Q I q => h.run p s σ H Q I (i σ H Q q)⟩
theorem Rs.get' {K : PySem.W.Frag} {F : Hp} {ph : List Addr} : ∀ {ds : List D} {vs : List V} {i : Nat} {v : V}, Rs K G F ph ds vs → vs[i]? = some v → ∃ d, ds[i]? = some d ∧ R K G F ph d v := by
  intro ds vs i v h e
  have hi : i < ds.length := by rw [← h.len]; exact (List.getElem?_eq_some_iff.mp e).1
  obtain ⟨v', e1, e2⟩ := h.get (i := i) (d := ds[i]) (by simp [hi])
  rw [e] at e1; cases e1
  exact ⟨ds[i], by simp [hi], e2⟩
def iL (f : DenE) : DenI := fun env st => (f env st).bind fun d st1 => match d with
  | .lst ds => .ok ds st1
  | .ro ds => .ok ds st1
  | _ => .bad
theorem walkL {K : PySem.W.Frag} {F : Hp} {ph : List Addr} {a : Addr} {ds : List D} {vs : List V} (h : SqL K F a vs) (rs : Rs K G F ph ds vs) : WalkD K G F ph ds (Itl K a) := by
  unfold WalkD
  rw [← rs.len]
  refine walk_list.mono (fun H sub => Same.seq sub h) fun i H x H' hi sub y => ?_
  obtain ⟨d, e1, e2⟩ := rs.get' y.2
  exact ⟨d, e1, .inl ⟨y.1, e2⟩⟩
theorem di_list {tg e : Expr} {f : DenE} (h : DE X G W e f) : DI X G W tg e (iL f) := by
  refine piImp (pi_list h) fun σ H Q ⟨F, ph, env, st, r, w⟩ => ⟨F, ph, env, st, r, w.bind fun d st1 F1 p1 v H1 e1 r1 rv w1 => ?_⟩
  split at w1
  · rename_i ds
    simp only [R] at rv
    obtain ⟨a, vs, rfl, h2, h3⟩ := rv
    exact ⟨a, rfl, ⟨vs, SqL.of (r1.s.sub _ _ h2)⟩, w1.fin r1 (walkL (SqL.of h2) h3)⟩
  · rename_i ds
    simp only [R] at rv
    obtain ⟨a, vs, rfl, h2, h3⟩ := rv
    exact ⟨a, rfl, ⟨vs, Same.seq r1.s.sub h2⟩, w1.fin r1 (walkL h2 h3)⟩
  · exact w1.elim
def iT (f : DenE) : DenI := fun env st => (f env st).bind fun d st1 => match d with
  | .tup ds => .ok ds st1
  | _ => .bad
theorem di_tup {tg e : Expr} {f : DenE} (h : DE X G W e f) : DI X G W tg e (iT f) := by
  refine piImp (pi_tup h) fun σ H Q ⟨F, ph, env, st, r, w⟩ => ⟨F, ph, env, st, r, w.bind fun d st1 F1 p1 v H1 e1 r1 rv w1 => ?_⟩
  split at w1
  · rename_i ds
    simp only [R] at rv
    obtain ⟨a, vs, rfl, h2, h3⟩ := rv
    refine ⟨a, rfl, ⟨vs, SqT.of (r1.s.sub _ _ h2)⟩, w1.fin r1 ?_⟩
    show WalkD X.K G F1 p1 ds _
    unfold WalkD
    rw [← h3.len]
    refine walk_tup.mono (fun H sub => SqT.of (sub _ _ h2)) fun i H x H' hi sub y => ?_
    obtain ⟨d, e1, e2⟩ := h3.get' y.2
    exact ⟨d, e1, .inl ⟨y.1, e2⟩⟩
  · exact w1.elim
def signs (z : Str) : List D := z.cps.toList.map fun c => .str ⟨#[c]⟩
def iS (f : DenE) : DenI := fun env st => (f env st).bind fun d st1 => match d with
  | .str z => .ok (signs z) st1
  | _ => .bad
theorem di_str {tg e : Expr} {f : DenE} (h : DE X G W e f) : DI X G W tg e (iS f) := by
  refine piImp (pi_str h) fun σ H Q ⟨F, ph, env, st, r, w⟩ => ⟨F, ph, env, st, r, w.bind fun d st1 F1 p1 v H1 e1 r1 rv w1 => ?_⟩
  split at w1
  · rename_i z
    simp only [R] at rv
    refine ⟨z, rv, w1.fin r1 ?_⟩
    show WalkD X.K G F1 p1 (signs z) _
    have hl : (signs z).length = z.cps.size := by simp [signs]
    unfold WalkD
    rw [hl]
    refine walk_str.mono (fun H sub => trivial) fun i H x H' hi sub y => ?_
    obtain ⟨e1, c, e2, e3⟩ := y
    refine ⟨.str ⟨#[c]⟩, ?_, .inl ⟨e1, by simp only [R]; exact e3⟩⟩
    unfold signs
    rw [List.getElem?_map, Array.getElem?_toList, e2]
    rfl
  · exact w1.elim
def rngD (lo : Int) (n : Nat) : List D := (List.range n).map fun i => .int (lo + (i : Nat))
theorem walkR {K : PySem.W.Frag} {F : Hp} {ph : List Addr} (lo : Int) (n : Nat) : WalkD K G F ph (rngD lo n) (Itr lo n) := by
  have hl : (rngD lo n).length = n := by simp [rngD]
  unfold WalkD
  rw [hl]
  refine walk_range.mono (fun H sub => trivial) fun i H x H' hi sub y => ?_
  refine ⟨.int (lo + (i : Nat)), ?_, .inl ⟨y.1, by simp only [R]; exact y.2⟩⟩
  unfold rngD
  rw [List.getElem?_map, List.getElem?_range hi]
  rfl
def iR1 (f : DenA) : DenI := fun env st => (f env st).bind fun ds st1 => match ds with
  | [.int j] => if -(2 ^ 62) ≤ j ∧ j < 2 ^ 62 then .ok (rngD 0 j.toNat) st1 else .bad
  | _ => .bad
theorem di_range1 {tg a : Expr} {f : DenA} {p pos : Pos} (hm : X.mg "range" = none) (ha : DA X G W [a] f) (hg : Gl X "range" := by rfl) (hs : starEach [a] X.env = [(false, eval a X.env)] := by rfl) : DI X G W tg (.Call (.Name "range" p) [a] [] pos) (iR1 f) := by
  refine piImp (pi_range1 hg hm ha hs) fun σ H Q ⟨F, ph, env, st, r, w⟩ => ⟨F, ph, env, st, r, w.bind fun ds st1 F1 p1 vs H1 e1 r1 rv w1 => ?_⟩
  split at w1
  · rename_i j
    split at w1
    · rename_i hz
      obtain ⟨v, rfl, q⟩ := rv.inv1
      simp only [R] at q; subst q
      exact ⟨j, rfl, hz.1, hz.2, w1.fin r1 (walkR 0 j.toNat)⟩
    · exact w1.elim
  · exact w1.elim
def iR2 (f : DenA) : DenI := fun env st => (f env st).bind fun ds st1 => match ds with
  | [.int i, .int j] => if -(2 ^ 62) ≤ i ∧ i < 2 ^ 62 ∧ -(2 ^ 62) ≤ j ∧ j < 2 ^ 62 then .ok (rngD i (j - i).toNat) st1 else .bad
  | _ => .bad
theorem di_range2 {tg a b : Expr} {f : DenA} {p pos : Pos} (hm : X.mg "range" = none) (ha : DA X G W [a, b] f) (hg : Gl X "range" := by rfl) (hs : starEach [a, b] X.env = [(false, eval a X.env), (false, eval b X.env)] := by rfl) (hs2 : starEach [b] X.env = [(false, eval b X.env)] := by rfl) : DI X G W tg (.Call (.Name "range" p) [a, b] [] pos) (iR2 f) := by
  refine piImp (pi_range2 hg hm ha hs hs2) fun σ H Q ⟨F, ph, env, st, r, w⟩ => ⟨F, ph, env, st, r, w.bind fun ds st1 F1 p1 vs H1 e1 r1 rv w1 => ?_⟩
  split at w1
  · rename_i i j
    split at w1
    · rename_i hz
      obtain ⟨v, v', rfl, q, q'⟩ := rv.inv2
      simp only [R] at q q'; subst q; subst q'
      exact ⟨i, j, rfl, hz, w1.fin r1 (walkR i (j - i).toNat)⟩
    · exact w1.elim
  · exact w1.elim
/-- pairs that are made anew -/
theorem yPair {K : PySem.W.Frag} {F : Hp} {ph : List Addr} {items : List D} {i : Nat} {H H' : Hp} {v x y : V} {d e : D} {T : Addr} (sub : ∀ a o, F a = some o → H a = some o) (hi : items[i]? = some (.tup [d, e])) (h1 : v = .ref T) (h2 : H T = none) (h3 : H' = upd H T (.tup [x, y]))
    (rx : R K G F ph d x) (ry : R K G F ph e y) : YD K G F ph items i H v H' := by
  refine ⟨_, hi, .inr ⟨T, .tup [x, y], h1, h2, h3, ?_⟩⟩
  have hF : F T = none := by
    cases q : F T with
    | none => rfl
    | some o => rw [sub _ _ q] at h2; cases h2
  have ex : Ext F ph (upd F T (.tup [x, y])) ph := ⟨fun a u q => by rw [upd_ne (ne_of_none q hF)]; exact q, fun _ _ q => q⟩
  simp only [R, Rs]
  exact ⟨T, [x, y], h1, upd_same, x, [y], rfl, R.mono ex d x rx, y, [], rfl, R.mono ex e y ry, rfl⟩
def enumD : Nat → List D → List D
  | _, [] => []
  | k, d :: ds => .tup [.int (k : Nat), d] :: enumD (k + 1) ds
theorem enumD_len : ∀ (k : Nat) (ds : List D), (enumD k ds).length = ds.length
  | _, [] => rfl
  | k, d :: ds => by simp [enumD, enumD_len (k + 1) ds]
theorem enumD_get : ∀ (k : Nat) (ds : List D) (i : Nat), (enumD k ds)[i]? = ds[i]?.map fun d => .tup [.int ((k + i : Nat) : Int), d]
  | _, [], i => by simp [enumD]
  | k, d :: ds, 0 => by simp [enumD]
  | k, d :: ds, i + 1 => by
    simp only [enumD, List.getElem?_cons_succ]
    rw [enumD_get (k + 1) ds i]
    have : k + 1 + i = k + (i + 1) := by omega
    rw [this]
def iE (f : DenA) : DenI := fun env st => (f env st).bind fun ds st1 => match ds with
  | [.lst a] => .ok (enumD 0 a) st1
  | [.ro a] => .ok (enumD 0 a) st1
  | _ => .bad
theorem walkE {K : PySem.W.Frag} {F : Hp} {ph : List Addr} {a : Addr} {ds : List D} {vs : List V} (h : SqL K F a vs) (rs : Rs K G F ph ds vs) : WalkD K G F ph (enumD 0 ds) (Ite K a) := by
  unfold WalkD
  rw [enumD_len, ← rs.len]
  refine walk_enum.mono (fun H sub => Same.seq sub h) fun i H v H' hi sub y => ?_
  obtain ⟨T, x, z, h1, h2, h3, h4, h5⟩ := y
  cases h4
  obtain ⟨d, e1, e2⟩ := rs.get' h5
  refine yPair (d := .int (i : Nat)) (e := d) sub ?_ h1 h2 h3 (by simp only [R]) e2
  rw [enumD_get, e1]; simp
theorem di_enum {e : Expr} {f : DenA} {p pos tpos : Pos} {elts : List Expr} {kk : Nat} (hm : X.mg "enumerate" = none) (ha : DA X G W [e] f) (hg : Gl X "enumerate" := by rfl) (hs : starEach [e] X.env = [(false, eval e X.env)] := by rfl) :
    DI X G W (.Tuple elts kk tpos) (.Call (.Name "enumerate" p) [e] [] pos) (iE f) := by
  refine piImp (pi_enum hg hm ha hs) fun σ H Q ⟨F, ph, env, st, r, w⟩ => ⟨F, ph, env, st, r, w.bind fun ds st1 F1 p1 vs H1 e1 r1 rv w1 => ?_⟩
  split at w1
  · obtain ⟨v, rfl, q⟩ := rv.inv1
    simp only [R] at q
    obtain ⟨a, us, rfl, h2, h3⟩ := q
    exact ⟨a, us, rfl, SqL.of (r1.s.sub _ _ h2), w1.fin r1 (walkE (SqL.of h2) h3)⟩
  · obtain ⟨v, rfl, q⟩ := rv.inv1
    simp only [R] at q
    obtain ⟨a, us, rfl, h2, h3⟩ := q
    exact ⟨a, us, rfl, Same.seq r1.s.sub h2, w1.fin r1 (walkE h2 h3)⟩
  · exact w1.elim

/-! ### for -/
def forD (g : DenG) (body : DenS) : List D → DenS
  | [], env, st => .next env st
  | d :: ds, env, st => match g d env st with
    | none => .bad
    | some (env1, st1) => match body env1 st1 with
      | .next env2 st2 => forD g body ds env2 st2
      | .cont env2 st2 => forD g body ds env2 st2
      | .brk env2 st2 => .next env2 st2
      | r => r
def sFor (it : DenI) (g : DenG) (body : DenS) : DenS := fun env st => (it env st).andS env fun items st1 => forD g body items env st1
theorem drop_cons {α : Type} {l : List α} {i : Nat} {d : α} (h : l[i]? = some d) : l.drop i = d :: l.drop (i + 1) := by
  obtain ⟨hi, e⟩ := List.getElem?_eq_some_iff.mp h
  rw [List.drop_eq_getElem_cons hi, e]
theorem ds_for {tg iter : Expr} {body : List Stmt} {it : DenI} {g : DenG} {f : DenS} {pos : Pos} (hp : PassesOwn (model X.prog X.w) X.A X.env X.xe) (hc : X.calm = true) (hi : DI X G W tg iter it) (hg : DG X G ws tg g) (hb : DSs X G W body f)
    (hs : ∀ x, foldedSetIterable iter X.env x = pure x := by intro _; rfl) : DS X G W (.For tg iter body [] pos) (sFor it g f) := by
  refine psImp (ps_for hp hc hi hg hb hs) fun D σ H ⟨F, ph, env, st, r, w⟩ => ⟨F, ph, env, st, r, wantS.bind w fun items st1 F1 p1 J H1 e1 r1 wk w1 => ?_⟩
  refine for_it wk (fun i σ H => ∃ F2 p2 env2 st2, Ex F1 p1 H1 F2 p2 H ∧ Rel X.K G F2 p2 σ env2 st2 H ∧ wantS X.K G W D F2 p2 H (forD g f (items.drop i) env2 st2)) ⟨F1, p1, env, st1, Ex.refl _ _ _, r1, by simpa using w1⟩ ?_ ?_ ?_
  · rintro i σ H _ ⟨F2, p2, env2, st2, ex, r2, _⟩ a o q
    exact r2.s.sub a o (ex.x.fz a o q)
  · rintro i x σ H H' hlt ⟨F2, p2, env2, st2, ex, r2, w2⟩ ⟨d, hd, y⟩
    rw [drop_cons hd] at w2
    have key : ∀ F3 (ex3 : Ex F2 p2 H F3 p2 H') (r3 : Rel X.K G F3 p2 σ env2 st2 H') (rx : R X.K G F3 p2 d x), rdG X.K G ws g x σ H' fun σ2 H2 => rdS X.K G W f { D with nx := fun σ H => ∃ F2 p2 env2 st2, Ex F1 p1 H1 F2 p2 H ∧ Rel X.K G F2 p2 σ env2 st2 H ∧ wantS X.K G W D F2 p2 H (forD g f (items.drop (i + 1)) env2 st2), ct := fun σ H => ∃ F2 p2 env2 st2, Ex F1 p1 H1 F2 p2 H ∧ Rel X.K G F2 p2 σ env2 st2 H ∧ wantS X.K G W D F2 p2 H (forD g f (items.drop (i + 1)) env2 st2), bk := D.nx } σ2 H2 := by
      intro F3 ex3 r3 rx
      refine ⟨F3, p2, env2, st2, d, r3, rx, ?_⟩
      unfold forD at w2
      split at w2
      · exact w2.elim
      · rename_i env3 st3 hg3
        rw [hg3]
        intro F4 p4 σ4 H4 ex4 r4 _
        refine ⟨F4, p4, env3, st3, r4, ?_⟩
        have w4 := wantS.mono (ex3.trans ex4) w2
        cases hbd : f env3 st3 with
        | next env5 st5 =>
          rw [hbd] at w4
          exact fun F5 p5 σ5 H5 ex5 r5 => ⟨F5, p5, env5, st5, ((ex.trans ex3).trans ex4).trans ex5, r5, wantS.mono ex5 w4⟩
        | cont env5 st5 =>
          rw [hbd] at w4
          exact fun F5 p5 σ5 H5 ex5 r5 => ⟨F5, p5, env5, st5, ((ex.trans ex3).trans ex4).trans ex5, r5, wantS.mono ex5 w4⟩
        | brk env5 st5 => rw [hbd] at w4; exact w4
        | ret d5 st5 => rw [hbd] at w4; exact w4
        | exc x5 env5 st5 => rw [hbd] at w4; exact w4
        | bad => rw [hbd] at w4; exact w4
    rcases y with ⟨rfl, rx⟩ | ⟨T, o, rfl, hT, rfl, rx⟩
    · exact key F2 (Ex.refl _ _ _) r2 (R.mono ex.x d x rx)
    · obtain ⟨exl, rl⟩ := r2.s.lay (o := o) hT
      refine key _ exl ⟨rl, r2.e.mono exl.x⟩ (R.mono ⟨fun a u q => ?_, ex.x.ph⟩ d _ rx)
      by_cases e : a = T
      · subst e; rw [upd_same] at q ⊢; exact q
      · rw [upd_ne e] at q ⊢; exact ex.x.fz a u q
  · rintro σ H ⟨F2, p2, env2, st2, ex, r2, w2⟩
    rw [List.drop_length] at w2
    exact w2.fin r2

/-! ### while, with fuel -/
def whileD (t : DenT) (body : DenS) : Nat → DenS
  | 0, _, _ => .bad
  | n + 1, env, st => (t env st).andS env fun b st1 => if b then match body env st1 with
      | .next env2 st2 => whileD t body n env2 st2
      | .cont env2 st2 => whileD t body n env2 st2
      | .brk env2 st2 => .next env2 st2
      | r => r
    else .next env st1
theorem ds_while (n : Env → Store → Nat) {c : Expr} {body : List Stmt} {t : DenT} {f : DenS} {pos : Pos} (hp : PassesOwn (model X.prog X.w) X.A X.env X.xe) (hc : DT X G W c t) (hb : DSs X G W body f) : DS X G W (.While c body [] pos) (fun env st => whileD t f (n env st) env st) := by
  refine psImp (ps_while hp hc hb) fun D σ H ⟨F, ph, env, st, r, w⟩ => ?_
  refine ⟨fun m σ H => ∃ F2 p2 env2 st2, Rel X.K G F2 p2 σ env2 st2 H ∧ wantS X.K G W D F2 p2 H (whileD t f m env2 st2), ⟨_, F, ph, env, st, r, w⟩, ?_⟩
  rintro m σ H ⟨F2, p2, env2, st2, r2, w2⟩
  cases m with
  | zero => exact w2.elim
  | succ m =>
    refine ⟨F2, p2, env2, st2, r2, wantS.bind (show wantS X.K G W D F2 p2 H ((t env2 st2).andS env2 _) from w2) fun k st3 F3 p3 v H3 e3 r3 rv w3 => ?_⟩
    cases rv
    cases k with
    | false => rw [if_neg (by simp)]; exact wantS.fin (env := env2) (st := st3) w3 r3
    | true =>
      rw [if_pos rfl]
      refine ⟨fun σ H => ∃ F2 p2 env2 st2, Rel X.K G F2 p2 σ env2 st2 H ∧ wantS X.K G W D F2 p2 H (whileD t f m env2 st2), fun σ' H' q => ⟨m, Nat.lt_succ_self _, q⟩, F3, p3, env2, st3, r3, ?_⟩
      rw [if_pos rfl] at w3
      cases hbd : f env2 st3 with
      | next env5 st5 => rw [hbd] at w3; exact fun F5 p5 σ5 H5 ex5 r5 => ⟨F5, p5, env5, st5, r5, wantS.mono ex5 w3⟩
      | cont env5 st5 => rw [hbd] at w3; exact fun F5 p5 σ5 H5 ex5 r5 => ⟨F5, p5, env5, st5, r5, wantS.mono ex5 w3⟩
      | brk env5 st5 => rw [hbd] at w3; exact w3
      | ret d5 st5 => rw [hbd] at w3; exact w3
      | exc x5 env5 st5 => rw [hbd] at w3; exact w3
      | bad => rw [hbd] at w3; exact w3
end
end Den

namespace Den
open PySem PySem.Spec PyProof.Rows L2
/-! ### list comprehensions -/
abbrev WF : WX := fun _ _ _ _ => False
def wipeD (env : Env) : List Nat → Env
  | [] => env
  | v :: vs => (wipeD env vs).set v none
theorem RelE.wipe {K : PySem.W.Frag} {G : Nat → Addr} {F : Hp} {ph : List Addr} {σ : L2.St} {env : Env} (h : RelE K G F ph σ env) : ∀ vs : List Nat, RelE K G F ph (L2.wipe σ vs) (wipeD env vs)
  | [] => h
  | v :: vs => by
    unfold L2.wipe wipeD
    exact (RelE.wipe h vs).forget v
theorem wipe_idem (σ : L2.St) (vs : List Nat) : wipe (wipe σ vs) vs = wipe σ vs := by
  apply List.ext_getElem?
  intro j
  by_cases hj : j ∈ vs
  · rw [wipe_in hj, wipe_in hj, wipe_length]
  · rw [wipe_out hj]
def Res.noX {α : Type} : Res α → Res α
  | .exc _ _ => .bad
  | r => r
def compL (g : DenG) (test : DenT) (elt : DenE) (env : Env) : List D → List D → Store → Res (List D)
  | [], acc, st => .ok acc st
  | d :: ds, acc, st => match g d env st with
    | none => .bad
    | some (env1, st1) => (test env1 st1).noX.bind fun b st2 => if b then (elt env1 st2).noX.bind fun e st3 => if acc.length < sizeLine then compL g test elt env ds (acc ++ [e]) st3 else .bad
      else compL g test elt env ds acc st2
def eLc (mk : List D → Store → Res D) (it : DenI) (g : DenG) (test : DenT) (elt : DenE) (vs : List Nat) : DenE := fun env st =>
  (it env st).bind fun items st1 => (compL g test elt (wipeD env vs) items [] st1).bind mk
structure MkA (G : Nat → Addr) (mk : List D → Store → Res D) : Prop where
  adopt : ∀ {K : PySem.W.Frag} {F : Hp} {ph : List Addr} {st : Store} {H : Hp} {p : Addr} {us : List V} {acc : List D}, RelS K G F ph st H → H p = some (.lst us) → F p = none → p ∉ ph → Rs K G F ph acc us →
    ∃ F' ph' d st', mk acc st = .ok d st' ∧ RelS K G F' ph' st' H ∧ R K G F' ph' d (.ref p) ∧ Ext F ph F' ph' ∧ (∀ a o, F' a = some o → (∃ u, F a = some u) ∨ a = p) ∧ ∀ a ∈ ph', a ∈ ph ∨ a = p
theorem mkaL {G : Nat → Addr} : MkA G okL := ⟨fun {K F ph st H p us acc} r hH hF hm rs => by
  obtain ⟨ex, r'⟩ := r.adopt hF hm hH
  refine ⟨_, ph, _, _, rfl, r', by simp only [R]; exact ⟨p, us, rfl, upd_same, Rs.mono ex acc us rs⟩, ex, fun a o q => ?_, fun a z => .inl z⟩
  by_cases e : a = p
  · exact .inr e
  · rw [upd_ne e] at q; exact .inl ⟨o, q⟩⟩
theorem mkaC {G : Nat → Addr} : MkA G okC := ⟨fun {K F ph st H p us acc} r hH hF hm rs => by
  have ex0 : Ext F ph F (ph ++ [p]) := ⟨fun a u q => q, fun n a q => by
    rw [List.getElem?_append_left (List.getElem?_eq_some_iff.mp q).1]; exact q⟩
  obtain ⟨ex, r'⟩ := r.adoptC (c := .lst acc) hm ⟨hF, us, hH, Rs.mono ex0 acc us rs⟩
  refine ⟨F, _, _, _, rfl, r', by simp only [R]; exact ⟨p, rfl, by rw [List.getElem?_append_right (by rw [r.len]; exact Nat.le_refl _)]; simp [r.len]⟩, ex, fun a o q => .inl ⟨o, q⟩, fun a z => ?_⟩
  rcases List.mem_append.mp z with z | z
  · exact .inl z
  · simp at z; exact .inr z⟩
section
variable {X : Cx} {G : Nat → Addr} {W : WX}
theorem lc_imp {mk : List D → Store → Res D} (M : MkA G mk) {it : DenI} {g : DenG} {test : DenT} {elt : DenE} {vs : List Nat} {σ : L2.St} {H : Hp} {Q : VK} (h : rd X.K G (R X.K G) W (eLc mk it g test elt vs) σ H Q) :
    tLc (rd X.K G (WalkD X.K G) W it) (rdG X.K G vs g) (rd X.K G EqB WF test) (rd X.K G (R X.K G) WF elt) vs σ H Q := by
  obtain ⟨F, ph, env, st, r, w⟩ := h
  refine ⟨F, ph, env, st, r, w.bind fun items st1 F1 p1 J H1 e1 r1 wk w1 => fun A hA => ?_⟩
  obtain ⟨hFA, hpA⟩ := r1.s.fresh hA
  refine lc_it (Qd := fun H => Q (.ref A) H) wk (fun i H => ∃ F2 p2 st2 acc us, Ex F1 p1 H1 F2 p2 H ∧ RelS X.K G F2 p2 st2 H ∧ H A = some (.lst us) ∧ F2 A = none ∧ A ∉ p2 ∧ Rs X.K G F2 p2 acc us ∧
    want X.K G (R X.K G) W σ env Q F1 p1 H1 ((compL g test elt (wipeD env vs) (items.drop i) acc st2).bind mk))
    ⟨F1, p1, st1, [], [], ⟨Ext.refl _ _, fun a o q _ => by rw [upd_ne (ne_of_none q hA)]; exact q, fun _ z => .inl z, fun a o q => .inl ⟨o, q⟩⟩, r1.s.outside hFA hpA, upd_same, hFA, hpA, by simp only [Rs], by simpa using w1⟩ ?_ ?_ ?_
  · rintro i H _ ⟨F2, p2, st2, acc, us, ex, r2, _⟩ a o q
    exact r2.sub a o (ex.x.fz a o q)
  · rintro i x H H' hlt ⟨F2, p2, st2, acc, us, ex, r2, hH, hF2, hp2, rs, w2⟩ ⟨d, hd, y⟩
    rw [drop_cons hd] at w2
    unfold compL at w2
    -- the item is there
    have key : ∀ F3 (ex3 : Ex F2 p2 H F3 p2 H') (r3 : RelS X.K G F3 p2 st2 H') (hA3 : F3 A = none) (rx : R X.K G F3 p2 d x),
        rdG X.K G vs g x (wipe σ vs) H' fun σ2 H2 => wipe σ2 vs = wipe σ vs ∧ rd X.K G EqB WF test σ2 H2 fun b H3 =>
          if b = true then rd X.K G (R X.K G) WF elt σ2 H3 fun y H4 => ∃ acc, H4 A = some (.lst acc) ∧ acc.length < sizeLine ∧ (∃ F2 p2 st2 acc' us, Ex F1 p1 H1 F2 p2 (upd H4 A (.lst (acc ++ [y]))) ∧ RelS X.K G F2 p2 st2 (upd H4 A (.lst (acc ++ [y]))) ∧ (upd H4 A (.lst (acc ++ [y]))) A = some (.lst us) ∧ F2 A = none ∧ A ∉ p2 ∧ Rs X.K G F2 p2 acc' us ∧
            want X.K G (R X.K G) W σ env Q F1 p1 H1 ((compL g test elt (wipeD env vs) (items.drop (i + 1)) acc' st2).bind mk))
          else (∃ F2 p2 st2 acc us, Ex F1 p1 H1 F2 p2 H3 ∧ RelS X.K G F2 p2 st2 H3 ∧ H3 A = some (.lst us) ∧ F2 A = none ∧ A ∉ p2 ∧ Rs X.K G F2 p2 acc us ∧
            want X.K G (R X.K G) W σ env Q F1 p1 H1 ((compL g test elt (wipeD env vs) (items.drop (i + 1)) acc st2).bind mk)) := by
      intro F3 ex3 r3 hA3 rx
      have exA : ∀ {F' : Hp} {p' : List Addr} {H'' : Hp}, Ex F2 p2 H F' p' H'' → H'' A = some (.lst us) ∧ F' A = none ∧ A ∉ p' := fun {F' p' H''} e => by
        refine ⟨e.keep A _ hH hp2, ?_, fun z => ?_⟩
        · cases q : F' A with
          | none => rfl
          | some o =>
            rcases e.fnew A o q with ⟨u, z⟩ | z | z
            · rw [hF2] at z; cases z
            · rw [hH] at z; cases z
            · exact absurd z hp2
        · rcases e.new A z with z | z
          · exact hp2 z
          · rw [hH] at z; cases z
      have re : RelE X.K G F3 p2 (wipe σ vs) (wipeD env vs) := ((r1.e.mono ex.x).mono ex3.x).wipe vs
      refine ⟨F3, p2, wipeD env vs, st2, d, ⟨r3, re⟩, rx, ?_⟩
      split at w2
      · exact w2.elim
      · rename_i env1 st4 hg4
        rw [hg4]
        intro F4 p4 σ4 H4 ex4 r4 hw4
        refine ⟨hw4.trans (wipe_idem σ vs), F4, p4, env1, st4, r4, ?_⟩
        cases ht : test env1 st4 with
        | bad => rw [ht] at w2; exact w2.elim
        | exc xx st5 => rw [ht] at w2; exact w2.elim
        | ok b st5 =>
          rw [ht] at w2
          intro F5 p5 b' H5 ex5 r5 hb
          cases hb
          have e5 := ex3.trans (ex4.trans ex5)
          cases b with
          | false =>
            rw [if_neg (by simp)]
            obtain ⟨q1, q2, q3⟩ := exA e5
            exact ⟨F5, p5, st5, acc, us, ex.trans e5, r5.s, q1, q2, q3, Rs.mono e5.x acc us rs, w2⟩
          | true =>
            rw [if_pos rfl]
            refine ⟨F5, p5, env1, st5, r5, ?_⟩
            simp only [Res.noX, Res.bind, if_true] at w2
            cases hel : elt env1 st5 with
            | bad => rw [hel] at w2; exact w2.elim
            | exc xx st6 => rw [hel] at w2; exact w2.elim
            | ok e st6 =>
              rw [hel] at w2
              intro F6 p6 y6 H6 ex6 r6 ry
              have e6 := e5.trans ex6
              obtain ⟨q1, q2, q3⟩ := exA e6
              by_cases hz : acc.length < sizeLine
              · simp only [if_pos hz] at w2
                refine ⟨us, q1, by rw [rs.len]; exact hz, F6, p6, st6, acc ++ [e], us ++ [y6], ?_, r6.s.outside q2 q3, upd_same, q2, q3, (Rs.mono e6.x acc us rs).app (Rs.one ry), w2⟩
                have e7 := ex.trans e6
                exact ⟨e7.x, fun a o q n => by rw [upd_ne (ne_of_none q hA)]; exact e7.keep a o q n, e7.new, e7.fnew⟩
              · simp only [if_neg hz] at w2
                exact w2.elim
    rcases y with ⟨rfl, rx⟩ | ⟨T, o, rfl, hT, rfl, rx⟩
    · exact key F2 (Ex.refl _ _ _) r2 hF2 (R.mono ex.x d x rx)
    · obtain ⟨exl, rl⟩ := r2.lay (o := o) hT
      have nA : A ≠ T := ne_of_none hH hT
      refine key _ exl rl (by rw [upd_ne nA]; exact hF2) (R.mono ⟨fun a u q => ?_, ex.x.ph⟩ d _ rx)
      by_cases e : a = T
      · subst e; rw [upd_same] at q ⊢; exact q
      · rw [upd_ne e] at q ⊢; exact ex.x.fz a u q
  · rintro H ⟨F2, p2, st2, acc, us, ex, r2, hH, hF2, hp2, rs, w2⟩
    rw [List.drop_length] at w2
    obtain ⟨F', ph', d, st', e, r', rd', ext, fn, pn⟩ := M.adopt r2 hH hF2 hp2 rs
    simp only [compL, Res.bind] at w2
    rw [e] at w2
    refine w2 F' ph' _ H ⟨ex.x.trans ext, ex.keep, fun a z => ?_, fun a o q => ?_⟩ ⟨r', (r1.e.mono ex.x).mono ext⟩ rd'
    · rcases pn a z with z | z
      · exact ex.new a z
      · subst z; exact .inr hA
    · rcases fn a o q with ⟨u, z⟩ | z
      · exact ex.fnew a u z
      · subst z; exact .inr (.inl hA)
def DTs (X : Cx) (G : Nat → Addr) (ifs : List Expr) (t : DenT) : Prop := PTs X ifs (rd X.K G EqB WF t)
def tYesD : DenT := fun _ st => .ok true st
theorem dts_nil : DTs X G [] tYesD := ⟨fun p s σ H Q I ⟨F, ph, env, st, r, w⟩ => pts_nil.run p s σ H Q I (w.fin r rfl)⟩
theorem dts_one {c : Expr} {t : DenT} (h : DT X G WF c t) : DTs X G [c] t := pts_one h
theorem de_lc {mk : List D → Store → Res D} (M : MkA G mk) {elt tg iter : Expr} {ifs : List Expr} {scope : Scope} (own : List (Str × Nat)) {pos : Pos} {it : DenI} {g : DenG} {test : DenT} {fe : DenE} (hc : X.calm = true) (hN : X.N.Nodup) (hi : DI X G W tg iter it) (ok : BlkOk X.N X.env.scope scope own)
    (hg : ∀ (s : Shared) (H : Hp) (C : Addr) (cl : List (Str × Addr)) (fp : List Addr), DG (X.blk s H scope (compEnvC scope cl C X.env) fp) G (own.map Prod.snd) tg g) (ht : ∀ (s : Shared) (H : Hp) (C : Addr) (cl : List (Str × Addr)) (fp : List Addr), DTs (X.blk s H scope (compEnvC scope cl C X.env) fp) G ifs test)
    (he : ∀ (s : Shared) (H : Hp) (C : Addr) (cl : List (Str × Addr)) (fp : List Addr), DE (X.blk s H scope (compEnvC scope cl C X.env) fp) G WF elt fe) (hs : ∀ x, foldedSetIterable iter X.env x = pure x := by intro _; rfl) :
    DE X G W (.ListComp elt [⟨tg, iter, ifs, 0⟩] scope pos) (eLc mk it g test fe (own.map Prod.snd)) :=
  peImp (pe_lc (g := rdG X.K G (own.map Prod.snd) g) (tt := rd X.K G EqB WF test) (te := rd X.K G (R X.K G) WF fe) hc hN hi ok hg ht he hs) fun _ _ _ h => lc_imp M h
theorem ds_setLc (i : Nat) {mk : List D → Store → Res D} (M : MkA G mk) {y : Str} {py : Pos} {elt tg iter : Expr} {ifs : List Expr} {scope : Scope} (own : List (Str × Nat)) {pos spos : Pos} {it : DenI} {g : DenG} {test : DenT} {fe : DenE} (hc : X.calm = true) (hN : X.N.Nodup)
    (hsw : swapsWith (.ListComp elt [⟨tg, iter, ifs, 0⟩] scope pos) (some (.Name y py)) spos.line X.env = pure true) (hi : DI X G W tg iter it) (ok : BlkOk X.N X.env.scope scope own)
    (hg : ∀ (s : Shared) (H : Hp) (C : Addr) (cl : List (Str × Addr)) (fp : List Addr), DG (X.blk s H scope (compEnvC scope cl C X.env) fp) G (own.map Prod.snd) tg g) (ht : ∀ (s : Shared) (H : Hp) (C : Addr) (cl : List (Str × Addr)) (fp : List Addr), DTs (X.blk s H scope (compEnvC scope cl C X.env) fp) G ifs test)
    (he : ∀ (s : Shared) (H : Hp) (C : Addr) (cl : List (Str × Addr)) (fp : List Addr), DE (X.blk s H scope (compEnvC scope cl C X.env) fp) G WF elt fe) (hy : X.N[i]? = some y := by rfl) (hyl : X.env.scope.names.lookup y = some .local := by rfl) (hs : ∀ x, foldedSetIterable iter X.env x = pure x := by intro _; rfl) :
    DS X G W (.Assign [.Name y py] (.ListComp elt [⟨tg, iter, ifs, 0⟩] scope pos) spos) (sAsg (eLc mk it g test fe (own.map Prod.snd)) (gN i)) := by
  refine psImp (ps_setLc (g := rdG X.K G (own.map Prod.snd) g) (tt := rd X.K G EqB WF test) (te := rd X.K G (R X.K G) WF fe) hc hN hy hyl hsw hi ok hg ht he hs) fun D σ H ⟨F, ph, env, st, r, w⟩ => ?_
  refine lc_imp (W := W) M ⟨F, ph, env, st, r, wantS.bind w fun d st1 F1 p1 v H1 e1 r1 rv w1 => ?_⟩
  exact w1.fin ⟨r1.s, r1.e.set i rv⟩
end
end Den

namespace Den
open PySem PySem.Spec PyProof.Rows L2
/-! ### data without younger cells -/
mutual
def D.lo (n : Nat) : D → Bool
  | .lst ds => loS n ds
  | .tup ds => loS n ds
  | .ro ds => loS n ds
  | .dct kvs => loK n kvs
  | .ins _ fs => loF n fs
  | .cell m => decide (m < n)
  | .non => true
  | .bl _ => true
  | .int _ => true
  | .str _ => true
  | .cls _ => true
  | .ty _ => true
def loS (n : Nat) : List D → Bool
  | [] => true
  | d :: ds => D.lo n d && loS n ds
def loK (n : Nat) : List (Key × D) → Bool
  | [] => true
  | (_, d) :: ds => D.lo n d && loK n ds
def loF (n : Nat) : List (Str × D) → Bool
  | [] => true
  | (_, d) :: ds => D.lo n d && loF n ds
end
def Cell.lo (n : Nat) : Cell → Bool
  | .lst ds => loS n ds
  | .ins _ fs => loF n fs
  | .dct kvs => loK n kvs
  | .fz d => D.lo n d
section
variable {K : PySem.W.Frag} {G : Nat → Addr} {F : Hp} {ph : List Addr} {n : Nat}
mutual
theorem R.cut : ∀ (d : D) (v : V), d.lo n = true → R K G F ph d v → R K G F (ph.take n) d v
  | .non, _, _, h => by simpa only [R] using h
  | .bl _, _, _, h => by simpa only [R] using h
  | .int _, _, _, h => by simpa only [R] using h
  | .str _, _, _, h => by simpa only [R] using h
  | .cls _, _, _, h => by simpa only [R] using h
  | .ty _, _, _, h => by simpa only [R] using h
  | .lst ds, v, b, h => by
    simp only [D.lo] at b
    simp only [R] at h ⊢
    obtain ⟨a, vs, h1, h2, h3⟩ := h
    exact ⟨a, vs, h1, h2, Rs.cut' ds vs b h3⟩
  | .tup ds, v, b, h => by
    simp only [D.lo] at b
    simp only [R] at h ⊢
    obtain ⟨a, vs, h1, h2, h3⟩ := h
    exact ⟨a, vs, h1, h2, Rs.cut' ds vs b h3⟩
  | .ro ds, v, b, h => by
    simp only [D.lo] at b
    simp only [R] at h ⊢
    obtain ⟨a, vs, h1, h2, h3⟩ := h
    exact ⟨a, vs, h1, h2, Rs.cut' ds vs b h3⟩
  | .dct kvs, v, b, h => by
    simp only [D.lo] at b
    simp only [R] at h ⊢
    obtain ⟨a, vs, h1, h2, h3⟩ := h
    exact ⟨a, vs, h1, h2, Rk.cut' kvs vs b h3⟩
  | .ins c fs, v, b, h => by
    simp only [D.lo] at b
    simp only [R] at h ⊢
    obtain ⟨a, dx, vs, h1, h2, h3⟩ := h
    exact ⟨a, dx, vs, h1, h2, Rf.cut' fs vs b h3⟩
  | .cell m, v, b, h => by
    simp only [D.lo, decide_eq_true_eq] at b
    simp only [R] at h ⊢
    obtain ⟨a, h1, h2⟩ := h
    exact ⟨a, h1, by rw [List.getElem?_take_of_lt b]; exact h2⟩
theorem Rs.cut' : ∀ (ds : List D) (vs : List V), loS n ds = true → Rs K G F ph ds vs → Rs K G F (ph.take n) ds vs
  | [], vs, _, h => by simpa only [Rs] using h
  | d :: ds, vs, b, h => by
    simp only [loS, Bool.and_eq_true] at b
    simp only [Rs] at h ⊢
    obtain ⟨v, ws, h1, h2, h3⟩ := h
    exact ⟨v, ws, h1, R.cut d v b.1 h2, Rs.cut' ds ws b.2 h3⟩
theorem Rk.cut' : ∀ (ds : List (Key × D)) (vs : List (Key × V)), loK n ds = true → Rk K G F ph ds vs → Rk K G F (ph.take n) ds vs
  | [], vs, _, h => by simpa only [Rk] using h
  | (k, d) :: ds, vs, b, h => by
    simp only [loK, Bool.and_eq_true] at b
    simp only [Rk] at h ⊢
    obtain ⟨v, ws, h1, h2, h3⟩ := h
    exact ⟨v, ws, h1, R.cut d v b.1 h2, Rk.cut' ds ws b.2 h3⟩
theorem Rf.cut' : ∀ (ds : List (Str × D)) (vs : List (Str × V)), loF n ds = true → Rf K G F ph ds vs → Rf K G F (ph.take n) ds vs
  | [], vs, _, h => by simpa only [Rf] using h
  | (k, d) :: ds, vs, b, h => by
    simp only [loF, Bool.and_eq_true] at b
    simp only [Rf] at h ⊢
    obtain ⟨v, ws, h1, h2, h3⟩ := h
    exact ⟨v, ws, h1, R.cut d v b.1 h2, Rf.cut' ds ws b.2 h3⟩
end
theorem RelS.cut {st : Store} {H : Hp} (h : RelS K G F ph st H) (hb : (st.take n).all (Cell.lo n) = true) : RelS K G F (ph.take n) (st.take n) H := by
  refine ⟨h.sub, by simp [h.len], h.nd.sublist (List.take_sublist _ _), fun m c a q1 q2 => ?_⟩
  have hm : c ∈ st.take n := List.mem_of_getElem? q1
  have b := List.all_eq_true.mp hb c hm
  have lt : m < n := by
    have := (List.getElem?_eq_some_iff.mp q1).1
    rw [List.length_take] at this; omega
  rw [List.getElem?_take_of_lt lt] at q1 q2
  have c0 := h.cells m c a q1 q2
  cases c with
  | lst ds => obtain ⟨z, vs, x, r⟩ := c0; exact ⟨z, vs, x, Rs.cut' ds vs b r⟩
  | ins k fs => obtain ⟨z, dx, ws, x, r⟩ := c0; exact ⟨z, dx, ws, x, Rf.cut' fs ws b r⟩
  | dct kvs => obtain ⟨z, ws, x, r⟩ := c0; exact ⟨z, ws, x, Rk.cut' kvs ws b r⟩
  | fz d => obtain ⟨z, r⟩ := c0; exact ⟨z, R.cut d _ b r⟩
end

/-! ### what a def is worth -/
abbrev Fn := List D → Store → Res D
def outD (cut : Bool) (st : Store) (d : D) (st' : Store) : Res D :=
  if !cut || st'.length == st.length then .ok d st'
  else if d.lo st.length && (st'.take st.length).all (Cell.lo st.length) then .ok d (st'.take st.length) else .bad
def outX (st : Store) (x : Xc) (st' : Store) : Res D :=
  if st'.length == st.length then .exc x st'
  else if loF st.length x.fs && (st'.take st.length).all (Cell.lo st.length) then .exc x (st'.take st.length) else .bad
def envOf (n : Nat) (ds : List D) : Env := ds.map some ++ List.replicate (n - ds.length) none
def outR (cut : Bool) (st : Store) (r : SRes) : Res D := match r with
  | .ret d st' => outD cut st d st'
  | .next _ st' => outD cut st .non st'
  | .exc x _ st' => outX st x st'
  | _ => .bad
def fnD (cut : Bool) (n : Nat) (f : DenS) : Fn := fun ds st => outR cut st (f (envOf n ds) st)
def wantF (K : PySem.W.Frag) (G : Nat → Addr) (E : XK) (Q : VK) (F : Hp) (ph : List Addr) (H : Hp) : Res D → Prop
  | .ok d st => ∀ F' ph' v H', Ex F ph H F' ph' H' → RelS K G F' ph' st H' → R K G F' ph' d v → Q v H'
  | .exc x st => ∀ F' ph' dd H', Ex F ph H F' ph' H' → RelS K G F' ph' st H' → XOk K G F' ph' x dd → E (.ref (G x.c)) dd H'
  | .bad => False
def spD (K : PySem.W.Frag) (G : Nat → Addr) (g : Fn) : Sp := fun vs H Q E => ∃ F ph ds st, RelS K G F ph st H ∧ Rs K G F ph ds vs ∧ wantF K G E Q F ph H (g ds st)
structure FnG (P : Program) (w : World) (K : PySem.W.Frag) (mg : Str → Option Value) (base : Heap) (G : Nat → Addr) (k : Nat) (f : Addr) (fd : FuncData) (ps : List Str) (g : Fn) : Prop where
  run : ∀ (A : Around) (outer : List PySem.Env) (s : Shared) (H : Hp) (args : Args) (us : List Value) (vs : List V) (Q : VK) (E : XK), A.guards = some [] → Room k A → Env0 P w K mg base A outer s H → BindsTo s fd args (ps.zip us) → Vals vs us → vs.length = ps.length →
    spD K G g vs H Q E → codeAny (model P w) A (.call (.ref f) args) (CR (L2.CX P w) outer P w H s Q E) s
theorem ex_cut {F : Hp} {ph : List Addr} {H : Hp} {F' : Hp} {ph' : List Addr} {H' : Hp} (e : Ex F ph H F' ph' H') : Ex F ph H F' (ph'.take ph.length) H' := by
  refine ⟨⟨e.x.fz, fun n a q => ?_⟩, e.keep, fun a z => e.new a (List.mem_of_mem_take z), e.fnew⟩
  rw [List.getElem?_take_of_lt (List.getElem?_eq_some_iff.mp q).1]
  exact e.x.ph n a q
theorem outD_ok {K : PySem.W.Frag} {G : Nat → Addr} {E : XK} {Q : VK} {F : Hp} {ph : List Addr} {H : Hp} {cut : Bool} {st st' : Store} {d : D} (hl : ph.length = st.length) (w : wantF K G E Q F ph H (outD cut st d st')) :
    ∀ F' ph' v H', Ex F ph H F' ph' H' → RelS K G F' ph' st' H' → R K G F' ph' d v → Q v H' := by
  intro F' ph' v H' e r rv
  unfold outD at w
  split at w
  · exact w F' ph' v H' e r rv
  · split at w
    · rename_i hb
      rw [Bool.and_eq_true] at hb
      rw [← hl] at hb w
      exact w F' _ v H' (ex_cut e) (r.cut hb.2) (R.cut d v hb.1 rv)
    · exact w.elim
theorem outX_ok {K : PySem.W.Frag} {G : Nat → Addr} {E : XK} {Q : VK} {F : Hp} {ph : List Addr} {H : Hp} {st st' : Store} {x : Xc} (hl : ph.length = st.length) (w : wantF K G E Q F ph H (outX st x st')) :
    ∀ F' ph' dd H', Ex F ph H F' ph' H' → RelS K G F' ph' st' H' → XOk K G F' ph' x dd → E (.ref (G x.c)) dd H' := by
  intro F' ph' dd H' e r rv
  unfold outX at w
  split at w
  · exact w F' ph' dd H' e r rv
  · split at w
    · rename_i hb
      rw [Bool.and_eq_true] at hb
      rw [← hl] at hb w
      refine w F' _ dd H' (ex_cut e) (r.cut hb.2) ?_
      rcases rv with q | ⟨d, ws, q1, q2, q3⟩
      · exact .inl q
      · exact .inr ⟨d, ws, q1, q2, Rf.cut' _ _ hb.1 q3⟩
    · exact w.elim
theorem rel_start {K : PySem.W.Frag} {G : Nat → Addr} {F : Hp} {ph : List Addr} {ds : List D} {vs : List V} {N : List Str} (h : Rs K G F ph ds vs) : RelE K G F ph (start N vs) (envOf N.length ds) := by
  have hl := h.len
  refine ⟨by simp [L2.start, envOf, hl], fun i d q => ?_⟩
  unfold envOf at q
  rcases Nat.lt_or_ge i ds.length with z | z
  · rw [List.getElem?_append_left (by simpa using z), List.getElem?_map] at q
    obtain ⟨d', e1, e2⟩ := Option.map_eq_some_iff.mp q
    cases e2
    obtain ⟨v, e3, e4⟩ := h.get e1
    refine ⟨v, ?_, e4⟩
    unfold L2.start
    rw [List.getElem?_append_left (by simpa [hl] using z), List.getElem?_map, e3]
    rfl
  · rw [List.getElem?_append_right (by simpa using z), List.getElem?_replicate] at q
    split at q <;> cases q

/-- the context of a def that keeps its guards and its room -/
structure Cg (k : Nat) (X : Cx) : Prop where
  gd : X.A.guards = some []
  room : Room k X.A
  calm : X.calm = true
theorem Cg.units {k : Nat} {X : Cx} (c : Cg k X) : X.A.units + 64 < cLine := c.room.units
theorem Cg.units65 {k : Nat} {X : Cx} (c : Cg k X) : X.A.units + 65 < cLine := by have := c.room.un; omega
section
variable {P : Program} {w : World} {K : PySem.W.Frag} {mg : Str → Option Value} {base : Heap} {G : Nat → Addr}
/-- a def by its body's denotation -/
theorem Fng {x qual : Str} {st : Stmt} {f : Addr} {fd : FuncData} {N ps : List Str} {k : Nat} {cut : Bool} {den : DenS} (Fu : Fun K x qual st f fd) (S : FnScope N ps (defScope st))
    (hb : ∀ (cdv : Value) (A : Around) (outer : List PySem.Env) (s : Shared) (H : Hp) (E : XK), Cg k (cxOf (L2.CX P w) P w K mg base N qual (defScope st) f cdv A outer s H E) →
      DSs (cxOf (L2.CX P w) P w K mg base N qual (defScope st) f cdv A outer s H E) G (fun c d _ H' => E c d H') (defBody st) den) :
    FnG P w K mg base G (k + 1) f fd ps (fnD cut N.length den) := by
  refine ⟨fun A outer s H args us vs Q E hgd hr e0 hbi r hlen hsp => ?_⟩
  obtain ⟨oc, od, kV, doc, pm, an, cdv, ct, osl, rfl, lk, hcd⟩ := Fu.ex
  obtain ⟨F, ph, ds, sto, rs, rds, wf⟩ := hsp
  have kin : K.In s.heap := e0.mod.kin.keeps fun b o e => (e0.bs b o e).1
  have kinds : ∀ y ∈ ps.zip us, (defScope st).names.lookup y.1 = some .local ∨ ((defScope st).names.lookup y.1 = some .cell ∧ ((cellsFrom (s.heap.objs.size + 1) (defScope st).names []).lookup y.1).isSome = true) := by
    rintro ⟨m, u⟩ hy
    have hm := S.par m (List.of_mem_zip hy).1
    exact hm.imp id fun q => ⟨q, PySem.W.cellsFrom_some _ _ _ (.inl q)⟩
  refine codeAny_call_function hr.depth (kin _ _ lk) rfl S.co S.gen rfl (PySem.W.codeRec_of kin hcd) (hbi _ _ _ _ ?_)
  refine wpAny_newFunctionEnv_cells S.kind kinds fun env he s1 x1 => ?_
  subst he
  have lim : s.heap.NoLimit := e0.mod.nolimit.keeps fun b o e => (e0.bs b o e).1
  refine ⟨lim.keeps x1.toInCall.keep, codeAny_func ?_⟩
  have I := inv_start (CX := L2.CX P w) (E := E) S hr.hd e0 hlen r x1
  have body := hb cdv A outer s H E ⟨hgd, hr.deeper _, rfl⟩
  have run := PSs.run body [] s1 (start N vs) H { nx := fun _ H' => Q .non H', rt := Q } I ⟨F, ph, envOf N.length ds, sto, ⟨rs, rel_start rds⟩, ?_⟩
  · refine wpAny_mono run (fun fl s' hs => ?_) fun e s' hs => hs
    cases fl with
    | ret u => obtain ⟨v, σ', H', J, rv, q⟩ := hs; exact ⟨v, H', J.os, J.bare, J.base, J.hok, rv, q⟩
    | next => obtain ⟨σ', H', J, q⟩ := hs; exact ⟨.non, H', J.os, J.bare, J.base, J.hok, rfl, q⟩
    | brk => obtain ⟨_, _, _, q⟩ := hs; exact False.elim q
    | cont => obtain ⟨_, _, _, q⟩ := hs; exact False.elim q
  · unfold fnD outR at wf
    cases e : den (envOf N.length ds) sto with
    | ret d st' => rw [e] at wf; exact outD_ok rs.len wf
    | next env' st' => rw [e] at wf; exact fun F' ph' σ' H' ex r' => outD_ok rs.len wf F' ph' .non H' ex r'.s (by simp only [R])
    | exc xx env' st' => rw [e] at wf; exact fun F' ph' dd σ' H' ex r' xo => outX_ok rs.len wf F' ph' dd H' ex r'.s xo
    | brk env' st' => rw [e] at wf; exact wf.elim
    | cont env' st' => rw [e] at wf; exact wf.elim
    | bad => rw [e] at wf; exact wf.elim
end
section
variable {X : Cx} {G : Nat → Addr} {W : WX} {k : Nat} {f : Addr} {fd : FuncData} {ps : List Str} {g : Fn}
theorem run_fng {pins : List (Addr × Obj)} {σ : L2.St} {env : Env} {F : Hp} {ph : List Addr} {st : Store} {H : Hp} {s : Shared} {Q : VK} {us us' : List Value} {kw : List (Str × Value)} {vs : List V} {ds : List D} (Fn : FnG X.prog X.w X.K X.mg X.base G k f fd ps g) (gd : X.A.guards = some []) (hr : Room k X.A) (tk : Takes X W)
    (hb : BindsTo s fd ⟨us, kw⟩ (ps.zip us')) (I : L2.Inv X pins σ H s) (r : Vals vs us') (hl : vs.length = ps.length) (rel : Rel X.K G F ph σ env st H) (rds : Rs X.K G F ph ds vs) (h : want X.K G (R X.K G) W σ env Q F ph H (g ds st)) :
    wpAny (model X.prog X.w) X.A (call (.ref f) us kw) (EP X pins σ Q) X.xe s := by
  have sp : spD X.K G g vs H Q (fun c d H' => W c d σ H') := by
    refine ⟨F, ph, ds, st, rel.s, rds, ?_⟩
    cases e : g ds st with
    | ok d st' => rw [e] at h; exact fun F' ph' v H' ex r' rv => h F' ph' v H' ex ⟨r', rel.e.mono ex.x⟩ rv
    | exc xx st' => rw [e] at h; exact fun F' ph' dd H' ex r' xo => h F' ph' dd H' ex ⟨r', rel.e.mono ex.x⟩ xo
    | bad => rw [e] at h; exact h
  refine wpAny_call (codeAny_mono (Fn.run X.A X.stack s H ⟨us, kw⟩ us' vs Q _ gd hr I.env0 hb r hl sp) fun res s' hq => ?_)
  cases res with
  | error e => exact tk e s' (XE.of_call I (fun _ _ _ q => q) hq)
  | ok fl =>
    cases fl with
    | ret u => exact I.after hq
    | next => exact hq.elim
    | brk => exact hq.elim
    | cont => exact hq.elim
/-- f(e, ..) of a def of the program, all its parameters given by place -/
theorem de_call {x : Str} {e : Expr} {es : List Expr} {fa : DenA} {p pos : Pos} (Fn : FnG X.prog X.w X.K X.mg X.base G k f fd ps g) (gd : X.A.guards = some []) (hr : Room k X.A) (tk : Takes X W) (hm : X.mg x = some (.ref f)) (hk : PySem.W.keepIn X.K (.ref f) = true)
    (hb : Binds X.K fd ps []) (ha : DA X G W (e :: es) fa) (hn : ps.length = (e :: es).length := by rfl) (hg : Gl X x := by rfl) (hdb : (x == ("__debug__" : Str)) = false := by decide)
    (he : starEach (e :: es) X.env = (false, eval e X.env) :: starEach es X.env := by rfl) (hpl : (backTo pos (starEach es X.env)).any (·.1) = false := by rfl)
    (hlen : ∀ env st ds st', fa env st = .ok ds st' → ds.length = ps.length) :
    DE X G W (.Call (.Name x p) (e :: es) [] pos) (eArgs g fa) := by
  refine ⟨fun pins s σ H Q I ⟨F, ph, env, st, r, w⟩ => ?_⟩
  refine wpAny_Call_Name_kw (ld_glob I hg hm ?_ hdb)
  have key : rd X.K G (Rs X.K G) W fa σ H fun vs H1 => ∃ F1 p1 st1 ds, Rel X.K G F1 p1 σ env st1 H1 ∧ Rs X.K G F1 p1 ds vs ∧ ds.length = ps.length ∧ want X.K G (R X.K G) W σ env Q F1 p1 H1 (g ds st1) := by
    refine ⟨F, ph, env, st, r, ?_⟩
    unfold eArgs at w
    cases q : fa env st with
    | ok ds st1 => rw [q] at w; exact fun F1 p1 vs H1 e1 r1 rv => ⟨F1, p1, st1, ds, r1, rv, hlen _ _ _ _ q, want.mono e1 w⟩
    | exc xx st1 => rw [q] at w; exact w
    | bad => rw [q] at w; exact w
  refine PySem.W.callWith_K (h₀ := X.base) I.ok.mod.kin hk (thn (ha.run pos pins s σ H _ I key) fun us s1 ⟨vs, H1, I1, rv, F1, p1, st1, ds, r1, rds, hl, w1⟩ => ⟨I1.kIn, ?_⟩) he hpl
  have lv : vs.length = ps.length := by rw [rds.len]; exact hl
  have hbi := hb s1 us I1.kIn (by rw [List.append_nil, ← rv.length]; exact lv)
  rw [List.append_nil] at hbi
  exact run_fng Fn gd hr tk hbi I1 rv lv r1 rds w1
end
theorem alen_nil {env : Env} {st : Store} {ds : List D} {st' : Store} (h : aNil env st = .ok ds st') : ds.length = 0 := by
  unfold aNil at h; cases h; rfl
theorem alen_cons {f : DenE} {g : DenA} {n : Nat} (hg : ∀ env st ds st', g env st = .ok ds st' → ds.length = n) : ∀ env st ds st', aCons f g env st = .ok ds st' → ds.length = n + 1 := by
  intro env st ds st' h
  unfold aCons at h
  cases e : f env st with
  | ok d st1 =>
    rw [e] at h
    simp only [Res.bind] at h
    cases e2 : g env st1 with
    | ok es st2 =>
      rw [e2] at h
      simp only [Res.ok.injEq] at h
      rw [← h.1, List.length_cons, hg env st1 es st2 e2]
    | exc x s2 => rw [e2] at h; cases h
    | bad => rw [e2] at h; cases h
  | exc x s1 => rw [e] at h; cases h
  | bad => rw [e] at h; cases h

/-! ### the law's own end -/
theorem rs_ints {K : PySem.W.Frag} {G : Nat → Addr} {F : Hp} {ph : List Addr} : ∀ ns : List Int, Rs K G F ph (ns.map D.int) (ns.map V.int)
  | [] => by simp [Rs]
  | n :: ns => by simp only [List.map_cons, Rs, R]; exact ⟨_, _, rfl, rfl, rs_ints ns⟩
/-- nothing is frozen but what is locked at the entry -/
theorem endG {P : Program} {w : World} {K : PySem.W.Frag} {mg mb : Str → Option Value} {G : Nat → Addr} {k : Nat} {fa a : Addr} {fd : FuncData} {x : Str} {g : Fn} {s1 : Shared} {vs : List Value} {ns : List Int}
    (KX : K.In s1.heap) (hns : s1.heap.Ns mainGlobals mg) (hb : s1.heap.Ns builtinsNs mb) (hbb : ∀ y : Str, y ≠ "__name__" → mb y = bootBuiltins y) (hlim : s1.heap.NoLimit) (hg : s1.gens = #[])
    (ha : s1.heap.get? a = some { cls := .type "list", data := .seq vs.toArray }) (hi : IntsAre vs ns) (hl : ns.length ≤ sizeLine) (hr : Room k callerA)
    (Fn : ∀ base : Heap, K.In base → base.Ns mainGlobals mg → FnG P w K mg base G k fa fd [x] g) (hbi : ∀ (s : Shared) (u : Value), BindsTo s fd ⟨[u], []⟩ [(x, u)])
    (hok : g [.ro (ns.map D.int)] [] = .ok (.bl true) []) :
    codeAny (model P w) callerA (.call (.ref fa) ⟨[.ref a], []⟩) (fun r s' => r = .ok (.ret (.bool true)) ∧ OldK s1.heap s'.heap ∧ s'.os = s1.os ∧ AllBare s'.gens) s1 := by
  have rv := vals_ints hi
  have lenV := hi.length
  have go : ∀ H : Hp, Only H → SqL K H a (ns.map V.int) → HOk P w H s1.heap → (∀ b, H b ≠ none → b = a) → (H a ≠ none → K.lookup a = none) →
      codeAny (model P w) callerA (.call (.ref fa) ⟨[.ref a], []⟩) (fun r s' => r = .ok (.ret (.bool true)) ∧ OldK s1.heap s'.heap ∧ s'.os = s1.os ∧ AllBare s'.gens) s1 := by
    intro H hO hS hHk only hK
    have dictFree : ∀ {b : Addr} {o : Obj} {es : Array DictEntry} {ep : Nat}, s1.heap.get? b = some o → o.data = .dict es ep → H b = none := by
      intro b o es ep e dd
      cases q : H b with
      | none => rfl
      | some u =>
        obtain rfl := only b (by rw [q]; simp)
        rw [ha] at e; cases e
        cases dd
    have ns1 : ∀ {b : Addr} {m : Str → Option Value}, s1.heap.Ns b m → (hidT s1.heap H).Ns b m := by
      rintro b m ⟨o, es, ep, e, dd, r⟩
      exact ⟨o, es, ep, hidT_get e (dictFree e dd), dd, r⟩
    have kb : K.In (hidT s1.heap H) := by
      intro b o e
      refine hidT_get (KX b o e) ?_
      cases q : H b with
      | none => rfl
      | some u =>
        obtain rfl := only b (by rw [q]; simp)
        rw [hK (by rw [q]; simp)] at e; cases e
    have lim1 : (hidT s1.heap H).NoLimit := by
      obtain ⟨mc, h1, h2⟩ := hlim
      exact ⟨mc, ns1 h1, h2⟩
    have e0 : Env0 P w K mg (hidT s1.heap H) callerA [] s1 H :=
      ⟨rfl, ⟨kb, ns1 hns, ⟨mb, ns1 hb, hbb⟩, lim1⟩, fun b o e => of_hidT e, Nat.le_of_eq (hidT_size _ _), trivial, fun b z => (by cases z), hHk, .of_eq hg⟩
    have sp : spD K G g [.ref a] H (fun v _ => v = .bl true) (fun _ _ _ => False) := by
      refine ⟨H, [], [.ro (ns.map D.int)], [], ⟨fun _ _ q => q, rfl, List.nodup_nil, fun n c b q _ => by simp at q⟩, ?_, ?_⟩
      · simp only [Rs, R]
        exact ⟨_, _, rfl, ⟨a, _, rfl, hS, rs_ints ns⟩, rfl⟩
      · rw [hok]
        intro F' ph' v H' _ _ rb
        simpa only [R] using rb
    refine codeAny_mono ((Fn _ kb (ns1 hns)).run callerA [] s1 H ⟨[.ref a], []⟩ [.ref a] [.ref a] _ _ rfl hr e0 (hbi s1 (.ref a)) (.cons rfl .nil) rfl sp) fun r s' h => ?_
    cases r with
    | error e =>
      exfalso
      obtain ⟨_, _, _, _, _, _, _, _, _, _, _, _, z⟩ := h
      exact z
    | ok fl =>
      cases fl with
      | next => exact False.elim h
      | brk => exact False.elim h
      | cont => exact False.elim h
      | ret u =>
        obtain ⟨v, H', os, bare, un, hok', r', q⟩ := h
        have qv : v = .bl true := q
        subst qv
        cases r'
        refine ⟨rfl, OldK.of_keep fun b o e => ?_, os, bare⟩
        cases qb : H b with
        | none => exact un.keep b o e qb (fun z => by cases z) (by simp)
        | some u =>
          rcases hO b with z | ⟨ob, xs, z⟩
          · rw [qb] at z; cases z
          · obtain ⟨e1, _⟩ := hHk b _ z
            obtain ⟨e2, _⟩ := hok' b _ (un.frzs b ob _ z)
            rw [e] at e1; cases e1
            exact e2
  cases hk : K.lookup a with
  | some o =>
    have e := KX a o hk
    rw [ha] at e; cases e
    exact go (fun _ => none) (fun _ => .inl rfl) (.inr ⟨_, vs.toArray, _, hk, rfl, rfl, rfl, by rw [List.size_toArray, lenV]; exact hl, by simpa using rv⟩) (fun b u z => by cases z) (fun b z => absurd rfl z) fun z => absurd rfl z
  | none =>
    refine go (upd (fun _ => none) a (.frz { cls := .type "list", data := .seq vs.toArray } (.lst (ns.map V.int)))) (fun b => ?_) (.inl (.inr ⟨_, upd_same⟩)) (fun b u z => ?_) (fun b z => ?_) fun _ => hk
    · by_cases e : b = a
      · subst e; exact .inr ⟨_, _, upd_same⟩
      · rw [upd_ne e]; exact .inl rfl
    · by_cases e : b = a
      · subst e; rw [upd_same] at z; cases z
        exact ⟨ha, by rw [List.length_map]; exact hl, vs, _, rv, ha⟩
      · rw [upd_ne e] at z; cases z
    · by_cases e : b = a
      · exact e
      · rw [upd_ne e] at z; exact absurd rfl z
/-- the goal that k_head leaves, from the law's denotation -/
theorem walkG {l : PySem.W.OpenLaw} {n k : Nat} {q : Program} {loose : List Str} {XP : (Str → Option Value) → Heap → Prop} {YP : World → Heap → Prop} {d : DefRec} {K : Params → PySem.W.Frag} {x : Str} {g : Fn}
    (hn : l.most = some n) (hn2 : n ≤ sizeLine) (hdf : d.params.defaults = []) (hr : Room k callerA) (hY : ∀ (w : World) (h : Heap), YP w h → (K w.params).In h)
    (Fn : ∀ (w : World) (mg : Str → Option Value) (fa : Addr) (h : Heap), (K w.params).In h → h.Ns mainGlobals mg → mg d.name = some (.ref fa) →
      ∃ (G : Nat → Addr) (fd : FuncData), (∀ (s : Shared) (u : Value), BindsTo s fd ⟨[u], []⟩ [(x, u)]) ∧
        ∀ base : Heap, (K w.params).In base → base.Ns mainGlobals mg → FnG l.prog w (K w.params) mg base G k fa fd [x] g)
    (hok : ∀ ns : List Int, ns.length ≤ n → (∀ z ∈ ns, Builtin.Int.intBits z ≤ 1048576) → g [.ro (ns.map D.int)] [] = .ok (.bl true) []) :
    PySem.W.WalkO q loose XP YP l.row.toRowW d [] (fun f vs => PySem.call f vs) := by
  refine Att.attach_callB hn hdf fun w s0 s1 mg mb fa o pm cd doc a vs ns Gr Y ho hd hcd hmg hobj hints hlen hbits hg => ?_
  have KX := hY w _ Y
  obtain ⟨G, fd, hb, hF⟩ := Fn w mg fa _ KX Gr.T.g hmg
  exact endG KX Gr.T.g Gr.T.b Gr.T.builtins Gr.T.nolimit hg hobj hints (Nat.le_trans hlen hn2) hr hF hb (hok ns hlen hbits)
end Den

namespace Den
open PySem PySem.Spec PyProof.Rows L2
theorem bt_int : bootBuiltins "int" = some (.type "int") := by decide +kernel
theorem bt_str : bootBuiltins "str" = some (.type "str") := by decide +kernel
theorem bt_bool : bootBuiltins "bool" = some (.type "bool") := by decide +kernel
theorem bt_list : bootBuiltins "list" = some (.type "list") := by decide +kernel
theorem bt_tuple : bootBuiltins "tuple" = some (.type "tuple") := by decide +kernel
theorem bt_dict : bootBuiltins "dict" = some (.type "dict") := by decide +kernel
theorem bf_len : bootBuiltins "len" = some (.builtin "len") := by decide +kernel
theorem bf_abs : bootBuiltins "abs" = some (.builtin "abs") := by decide +kernel
theorem bf_max : bootBuiltins "max" = some (.builtin "max") := by decide +kernel
theorem bf_min : bootBuiltins "min" = some (.builtin "min") := by decide +kernel
theorem bf_divmod : bootBuiltins "divmod" = some (.builtin "divmod") := by decide +kernel
theorem bf_repr : bootBuiltins "repr" = some (.builtin "repr") := by decide +kernel
theorem bf_all : bootBuiltins "all" = some (.builtin "all") := by decide +kernel
theorem bf_any : bootBuiltins "any" = some (.builtin "any") := by decide +kernel
theorem bf_sum : bootBuiltins "sum" = some (.builtin "sum") := by decide +kernel
theorem bf_isinstance : bootBuiltins "isinstance" = some (.builtin "isinstance") := by decide +kernel
theorem bf_sorted : bootBuiltins "sorted" = some (.builtin "sorted") := by decide +kernel
end Den

namespace Den
open PySem PySem.Spec PyProof.Rows L2

/-! ### plain data: what it shows as -/
mutual
def pyD : D → PyData
  | .non => .none
  | .bl b => .bool b
  | .int i => .int i
  | .str x => .str x
  | .lst ds => .list (pyDs ds)
  | .ro ds => .list (pyDs ds)
  | .tup ds => .tuple (pyDs ds)
  | .dct kvs => .dict (pyDk kvs)
  | .cell _ => .none
  | .ins _ _ => .none
  | .cls _ => .none
  | .ty _ => .none
def pyDs : List D → List PyData
  | [] => []
  | d :: ds => pyD d :: pyDs ds
def pyDk : List (Key × D) → List (PyData × PyData)
  | [] => []
  | (k, d) :: ds => (keyPy k, pyD d) :: pyDk ds
end
def intFit (i : Int) : Bool := decide (i.natAbs < 10 ^ 150)
def strFit (x : Str) : Bool := x.cps.toList.all fun c => decide (c < 1114112)
def keyFit : Key → Bool
  | .inl i => intFit i
  | .inr x => strFit x
def keyMz : Key → Nat
  | .inl _ => 500
  | .inr x => x.cps.size
mutual
/-- plain through and through -/
def lf : D → Bool
  | .non => true
  | .bl _ => true
  | .int i => intFit i
  | .str x => strFit x
  | .lst ds => lfs ds
  | .tup ds => lfs ds
  | .dct kvs => lfk kvs
  | .ro _ => false
  | .cell _ => false
  | .ins _ _ => false
  | .cls _ => false
  | .ty _ => false
def lfs : List D → Bool
  | [] => true
  | d :: ds => lf d && lfs ds
def lfk : List (Key × D) → Bool
  | [] => true
  | (k, d) :: ds => keyFit k && lf d && lfk ds
end
mutual
def mz : D → Nat
  | .int _ => 500
  | .str x => x.cps.size
  | .lst ds => mzs ds
  | .tup ds => mzs ds
  | .dct kvs => mzk kvs
  | .non => 0
  | .bl _ => 0
  | .ro _ => 0
  | .cell _ => 0
  | .ins _ _ => 0
  | .cls _ => 0
  | .ty _ => 0
def mzs : List D → Nat
  | [] => 0
  | d :: ds => mz d + 1 + mzs ds
def mzk : List (Key × D) → Nat
  | [] => 0
  | (k, d) :: ds => keyMz k + mz d + 2 + mzk ds
end
theorem int_ok {i : Int} (h : intFit i = true) : (PyData.int i).showable = true ∧ (PyData.int i).leavesShort 151 = true ∧ (PyData.int i).weight ≤ 500 := by
  have h1 : i.natAbs < 10 ^ 150 := of_decide_eq_true h
  have h2 : i.natAbs < 2 ^ 499 := Nat.lt_of_lt_of_le h1 (by decide +kernel)
  have h3 : i.natAbs.log2 < 499 := by
    by_cases h0 : i.natAbs = 0
    · rw [h0]; decide
    · exact (Nat.log2_lt h0).mpr h2
  refine ⟨?_, ?_, ?_⟩
  · simp only [PyData.showable, decide_eq_true_eq]; omega
  · have := int_text_length_le10 (k := 150) (by decide) h1
    simp only [PyData.leavesShort, PyData.shown]
    refine decide_eq_true ?_
    show (Str.ofString (toString i)).length ≤ 151
    rw [PySem.ofString_length]; omega
  · simp only [PyData.weight]; split <;> omega
theorem str_ok {x : Str} (h : strFit x = true) : (PyData.str x).showable = true ∧ (PyData.str x).leavesShort 151 = true ∧ (PyData.str x).weight = x.cps.size := by
  refine ⟨by simp only [PyData.showable], ?_, by simp only [PyData.weight]⟩
  simp only [PyData.leavesShort]
  refine List.all_eq_true.mpr fun c hc => ?_
  have := of_decide_eq_true (List.all_eq_true.mp h c hc)
  exact decide_eq_true (Nat.lt_trans this (by decide))
theorem key_ok {k : Key} (h : keyFit k = true) : (keyPy k).showable = true ∧ (keyPy k).leavesShort 151 = true ∧ (keyPy k).weight ≤ keyMz k := by
  cases k with
  | inl i => exact int_ok h
  | inr x => exact ⟨(str_ok h).1, (str_ok h).2.1, Nat.le_of_eq (str_ok h).2.2⟩
mutual
theorem lf_py (cel : Nat → Option PyData) : ∀ d, lf d = true → toPyC cel d = some (pyD d) ∧ (pyD d).showable = true ∧ (pyD d).leavesShort 151 = true ∧ (pyD d).weight ≤ mz d
  | .non, _ => by simp [toPyC, pyD, PyData.showable, PyData.leavesShort, PyData.weight]
  | .bl _, _ => by simp [toPyC, pyD, PyData.showable, PyData.leavesShort, PyData.weight]
  | .int i, h => by
    simp only [lf] at h
    simp only [toPyC, pyD, mz]
    exact ⟨trivial, int_ok h⟩
  | .str x, h => by
    simp only [lf] at h
    simp only [toPyC, pyD, mz]
    exact ⟨trivial, (str_ok h).1, (str_ok h).2.1, Nat.le_of_eq (str_ok h).2.2⟩
  | .lst ds, h => by
    simp only [lf] at h
    obtain ⟨h1, h2, h3, h4⟩ := lfs_py cel ds h
    simp only [toPyC, pyD, mz, h1, Option.map_some, PyData.showable, PyData.leavesShort, PyData.weight]
    exact ⟨trivial, h2, h3, h4⟩
  | .tup ds, h => by
    simp only [lf] at h
    obtain ⟨h1, h2, h3, h4⟩ := lfs_py cel ds h
    simp only [toPyC, pyD, mz, h1, Option.map_some, PyData.showable, PyData.leavesShort, PyData.weight]
    exact ⟨trivial, h2, h3, h4⟩
  | .dct ds, h => by
    simp only [lf] at h
    obtain ⟨h1, h2, h3, h4⟩ := lfk_py cel ds h
    simp only [toPyC, pyD, mz, h1, Option.map_some, PyData.showable, PyData.leavesShort, PyData.weight]
    exact ⟨trivial, h2, h3, h4⟩
  | .ro _, h => by simp [lf] at h
  | .cell _, h => by simp [lf] at h
  | .ins _ _, h => by simp [lf] at h
  | .cls _, h => by simp [lf] at h
  | .ty _, h => by simp [lf] at h
theorem lfs_py (cel : Nat → Option PyData) : ∀ ds, lfs ds = true → toPyCs cel ds = some (pyDs ds) ∧ PyData.showableAll (pyDs ds) = true ∧ PyData.leavesShortAll 151 (pyDs ds) = true ∧ PyData.weightAll (pyDs ds) ≤ mzs ds
  | [], _ => by simp [toPyCs, pyDs, PyData.showableAll, PyData.leavesShortAll, PyData.weightAll]
  | d :: ds, h => by
    simp only [lfs, Bool.and_eq_true] at h
    obtain ⟨h1, h2, h3, h4⟩ := lf_py cel d h.1
    obtain ⟨g1, g2, g3, g4⟩ := lfs_py cel ds h.2
    simp only [toPyCs, pyDs, mzs, h1, g1, PyData.showableAll, PyData.leavesShortAll, PyData.weightAll, h2, h3, g2, g3, Bool.and_self, true_and]
    omega
theorem lfk_py (cel : Nat → Option PyData) : ∀ ds, lfk ds = true → toPyCk cel ds = some (pyDk ds) ∧ PyData.showableKv (pyDk ds) = true ∧ PyData.leavesShortKv 151 (pyDk ds) = true ∧ PyData.weightKv (pyDk ds) ≤ mzk ds
  | [], _ => by simp [toPyCk, pyDk, PyData.showableKv, PyData.leavesShortKv, PyData.weightKv]
  | (k, d) :: ds, h => by
    simp only [lfk, Bool.and_eq_true] at h
    obtain ⟨k1, k2, k3⟩ := key_ok h.1.1
    obtain ⟨h1, h2, h3, h4⟩ := lf_py cel d h.1.2
    obtain ⟨g1, g2, g3, g4⟩ := lfk_py cel ds h.2
    simp only [toPyCk, pyDk, mzk, h1, g1, PyData.showableKv, PyData.leavesShortKv, PyData.weightKv, h2, h3, g2, g3, k1, k2, Bool.and_self, true_and]
    omega
end
/-- what repr and == take -/
def fine (d : D) : Bool := lf d && decide (mz d ≤ 100000) && decide ((pyD d).depth ≤ 60)
theorem fine_lf {d : D} (h : fine d = true) : lf d = true := by
  simp only [fine, Bool.and_eq_true] at h; exact h.1.1
theorem fine_repr {d : D} (h : fine d = true) : reprOk (pyD d) = true := by
  simp only [fine, Bool.and_eq_true, decide_eq_true_eq] at h
  obtain ⟨⟨h1, h2⟩, h3⟩ := h
  obtain ⟨g1, g2, g3, g4⟩ := lf_py (fun _ => none) d h1
  simp only [reprOk, g2, Bool.and_eq_true, decide_eq_true_eq, true_and]
  refine ⟨?_, h3⟩
  have := PyData.shown_le 151 (by decide) _ g3
  rw [sizeLine_eq]
  have h5 : (151 + 2) * (pyD d).weight ≤ 153 * 100000 := Nat.mul_le_mul_left _ (Nat.le_trans g4 h2)
  omega
theorem reprD_fine {d : D} (h : fine d = true) (st : Store) : reprD [d] st = .ok (.str (pyD d).shown) st := by
  have e : toPy st d = some (pyD d) := (lf_py _ d (fine_lf h)).1
  show reprF d st = _
  simp only [reprF, e, fine_repr h, if_true]

/-! ### running -/
theorem outD_same (c : Bool) (st st' : Store) (d : D) (h : st'.length = st.length) : outD c st d st' = .ok d st' := by
  simp [outD, h]
def Res.wp {α : Type} (r : Res α) (Q : α → Store → Prop) (E : Xc → Store → Prop) : Prop := match r with
  | .ok a st => Q a st
  | .exc x st => E x st
  | .bad => False
def SRes.wp (r : SRes) (N : Env → Store → Prop) (P : SRes → Prop) : Prop := match r with
  | .next env st => N env st
  | .bad => False
  | r => P r
abbrev NX : Xc → Store → Prop := fun _ _ => False
section
variable {α β : Type} {env : Env} {st : Store} {Q : α → Store → Prop} {QD : D → Store → Prop} {E : Xc → Store → Prop} {N : Env → Store → Prop} {P : SRes → Prop}
theorem wp_ok {a : α} : (Res.ok a st).wp Q E = Q a st := id rfl
theorem wp_exc {x : Xc} : (Res.exc (α := α) x st).wp Q E = E x st := id rfl
theorem wp_bad : (Res.bad (α := α)).wp Q E = False := id rfl
theorem wp_next : (SRes.next env st).wp N P = N env st := id rfl
theorem wp_ret {d : D} : (SRes.ret d st).wp N P = P (.ret d st) := id rfl
theorem wp_sbad : SRes.bad.wp N P = False := id rfl
theorem wp_sexc {x : Xc} : (SRes.exc x env st).wp N P = P (.exc x env st) := id rfl
theorem wp_bind {r : Res α} {k : α → Store → Res β} {Q : β → Store → Prop} : (r.bind k).wp Q E = r.wp (fun a st => (k a st).wp Q E) E := by cases r <;> rfl
theorem wp_andS {r : Res α} {k : α → Store → SRes} : (r.andS env k).wp N P = r.wp (fun a st => (k a st).wp N P) (fun x st => P (.exc x env st)) := by cases r <;> rfl
theorem wp_sSeq {f g : DenS} : (sSeq f g env st).wp N P = (f env st).wp (fun env1 st1 => (g env1 st1).wp N P) P := by
  unfold sSeq; cases f env st <;> rfl
theorem wp_ite {c : Prop} [Decidable c] {a b : Res α} : (if c then a else b).wp Q E = if c then a.wp Q E else b.wp Q E := by split <;> rfl
theorem wp_ites {c : Prop} [Decidable c] {a b : SRes} : (if c then a else b).wp N P = if c then a.wp N P else b.wp N P := by split <;> rfl
theorem Res.wp_mono {r : Res α} {Q' : α → Store → Prop} (h : r.wp Q E) (i : ∀ a st, Q a st → Q' a st) : r.wp Q' E := by
  cases r with
  | ok a st => exact i _ _ h
  | exc x st => exact h
  | bad => exact h
theorem Res.wp_eq {r : Res α} {a : α} (h : r = .ok a st) (q : Q a st) : r.wp Q E := by subst h; exact q
theorem Res.of_wp {r : Res α} (h : r.wp Q NX) : ∃ a st', r = .ok a st' ∧ Q a st' := by
  cases r with
  | ok a st => exact ⟨_, _, rfl, h⟩
  | exc x st => exact h.elim
  | bad => exact h.elim
/-- a def's end -/
def outP (cut : Bool) (st : Store) (Q : D → Store → Prop) (E : Xc → Store → Prop) : SRes → Prop := fun r => (outR cut st r).wp Q E
theorem wp_fnD {cut : Bool} {n : Nat} {f : DenS} {ds : List D} : (fnD cut n f ds st).wp QD E = (f (envOf n ds) st).wp (fun _ st' => (outD cut st .non st').wp QD E) (outP cut st QD E) := by
  unfold fnD outP
  cases h : f (envOf n ds) st <;> simp only [outR, SRes.wp, Res.wp]
theorem outP_ret {cut : Bool} {d : D} {st0 : Store} : outP cut st0 QD E (.ret d st) = (outD cut st0 d st).wp QD E := id rfl
theorem outP_exc {cut : Bool} {x : Xc} {st0 : Store} : outP cut st0 QD E (.exc x env st) = (outX st0 x st).wp QD E := id rfl
theorem wp_outD_same {c : Bool} {st0 : Store} {d : D} (h : st.length = st0.length) : (outD c st0 d st).wp QD E = QD d st := by
  rw [outD_same c st0 st d h]; rfl
theorem wp_outD_keep {st0 : Store} {d : D} : (outD false st0 d st).wp QD E = QD d st := id rfl
/-! loops -/
theorem wp_for {g : DenG} {body : DenS} (I : List D → Env → Store → Prop) (step : ∀ d ds env st, I (d :: ds) env st → ∃ env1 st1, g d env st = some (env1, st1) ∧ (body env1 st1).wp (I ds) (fun r => match r with
    | .cont env2 st2 => I ds env2 st2
    | .brk env2 st2 => N env2 st2
    | r => P r)) (fin : ∀ env st, I [] env st → N env st) : ∀ items env st, I items env st → (forD g body items env st).wp N P
  | [], env, st, h => fin env st h
  | d :: ds, env, st, h => by
    obtain ⟨env1, st1, e, w⟩ := step d ds env st h
    have ih := wp_for I step fin ds
    simp only [forD, e]
    cases hb : body env1 st1 with
    | next env2 st2 => rw [hb] at w; exact ih _ _ w
    | cont env2 st2 => rw [hb] at w; exact ih _ _ w
    | brk env2 st2 => rw [hb] at w; exact w
    | ret d st => rw [hb] at w; exact w
    | exc x env st => rw [hb] at w; exact w
    | bad => rw [hb] at w; exact w.elim
theorem wp_comp {g : DenG} {test : DenT} {elt : DenE} {QL : List D → Store → Prop} (I : List D → List D → Store → Prop)
    (step : ∀ d ds acc st, I (d :: ds) acc st → ∃ env1 st1, g d env st = some (env1, st1) ∧ (test env1 st1).wp (fun b st2 => if b then (elt env1 st2).wp (fun e st3 => acc.length < sizeLine ∧ I ds (acc ++ [e]) st3) NX else I ds acc st2) NX)
    (fin : ∀ acc st, I [] acc st → QL acc st) : ∀ items acc st, I items acc st → (compL g test elt env items acc st).wp QL E
  | [], acc, st, h => fin acc st h
  | d :: ds, acc, st, h => by
    obtain ⟨env1, st1, e, w⟩ := step d ds acc st h
    have ih := wp_comp I step fin ds
    simp only [compL, e]
    cases ht : test env1 st1 with
    | ok b st2 =>
      rw [ht] at w
      simp only [Res.wp] at w
      simp only [Res.noX, Res.bind]
      cases b with
      | false => exact ih _ _ w
      | true =>
        simp only [if_true] at w ⊢
        cases he : elt env1 st2 with
        | ok e st3 =>
          rw [he] at w
          simp only [w.1, if_true]
          exact ih _ _ w.2
        | exc x st => rw [he] at w; exact w.elim
        | bad => rw [he] at w; exact w.elim
    | exc x st => rw [ht] at w; exact w.elim
    | bad => rw [ht] at w; exact w.elim
theorem compL_pure {i : Nat} {test : DenT} {elt : DenE} {t : D → Bool} {e : D → D} : ∀ items acc, (∀ d ∈ items, test (env.set i (some d)) st = .ok (t d) st) → (∀ d ∈ items, t d = true → elt (env.set i (some d)) st = .ok (e d) st) → acc.length + items.length ≤ sizeLine →
    compL (gN i) test elt env items acc st = .ok (acc ++ (items.filter t).map e) st
  | [], acc, _, _, _ => by simp [compL]
  | d :: ds, acc, ht, he, hl => by
    simp only [List.length_cons] at hl
    have h1 := ht d (List.mem_cons_self ..)
    have h2 := he d (List.mem_cons_self ..)
    simp only [compL, gN, h1, Res.noX, Res.bind]
    cases hb : t d with
    | false =>
      simp only [Bool.false_eq_true, if_false]
      rw [List.filter_cons_of_neg (by simp [hb])]
      exact compL_pure ds acc (fun x hx => ht x (List.mem_cons_of_mem _ hx)) (fun x hx => he x (List.mem_cons_of_mem _ hx)) (by omega)
    | true =>
      have h3 : acc.length < sizeLine := by omega
      simp only [if_true, h2 hb, h3]
      rw [List.filter_cons_of_pos (by simp [hb]), compL_pure ds (acc ++ [e d]) (fun x hx => ht x (List.mem_cons_of_mem _ hx)) (fun x hx => he x (List.mem_cons_of_mem _ hx)) (by simp only [List.length_append, List.length_singleton]; omega)]
      simp
end
section
variable {env : Env} {st : Store} {d : D} {i j : Int}
theorem eVar_0 : eVar 0 (some d :: env) st = .ok d st := id rfl
theorem eVar_s {n : Nat} {o : Option D} : eVar (n + 1) (o :: env) st = eVar n env st := id rfl
theorem cmp_ii {p : Int → Int → Bool} : cmpI p (.int i) (.int j) st = .ok (.bl (p i j)) st := id rfl
theorem neg_i : negD (.int i) st = .ok (.int (-i)) st := id rfl
theorem add_ii : addD (.int i) (.int j) st = .ok (.int (i + j)) st := id rfl
theorem sub_ii : subD (.int i) (.int j) st = .ok (.int (i - j)) st := id rfl
theorem mul_ii (h : mulOk i j = true) : mulD (.int i) (.int j) st = .ok (.int (i * j)) st := by simp only [mulD, h, if_true]
theorem mod_ii (h : 0 < j) : modD (.int i) (.int j) st = .ok (.int (i % j)) st := by simp only [modD, h, if_true]
theorem fdiv_ii (h : divOk j = true) : fdivD (.int i) (.int j) st = .ok (.int (i / j)) st := by simp only [fdivD, h, if_true]
theorem divmod_ii (h : divOk j = true) : divmodD [.int i, .int j] st = .ok (.tup [.int (i / j), .int (i % j)]) st := by simp only [divmodD, h, if_true]
theorem pow_ii (h : 0 ≤ j ∧ j ≤ 1000000 ∧ i.natAbs < 2 ^ 64) : powD (.int i) (.int j) st = .ok (.int (i ^ j.toNat)) st := by simp only [powD, h, if_true, and_self]
theorem mulOk_of {i j : Int} (h : i.natAbs < 2 ^ 250) (h' : j.natAbs < 2 ^ 250) : mulOk i j = true := by
  have h1 : Builtin.Int.intBits i ≤ 250 := PySem.intBits_le_iff.mpr h
  have h2 : Builtin.Int.intBits j ≤ 250 := PySem.intBits_le_iff.mpr h'
  exact decide_eq_true (by omega)
theorem divOk_pos {j : Int} (h : divOk j = true) : 0 < j := by simp only [divOk, Bool.and_eq_true, decide_eq_true_eq] at h; exact h.1
theorem divOk_of {j : Int} (h : 0 < j) (h' : j.natAbs < 2 ^ 250) : divOk j = true := by
  simp only [divOk, Bool.and_eq_true, decide_eq_true_eq]
  exact ⟨h, Nat.lt_trans ((Nat.log2_lt (by omega)).mpr h') (by decide)⟩
theorem asR_cell {n : Nat} {xs : List D} (h : st[n]? = some (.lst xs)) : asR st (.cell n) = some xs := by simp [asR, asL, h, asC]
theorem ix_cell {p : Nat} {xs : List D} (h : st[p]? = some (.lst xs)) (e : L2.atI xs i = some d) : ixD (.cell p) (.int i) st = .ok d st := by
  simp only [ixD, asR_cell h, e]
theorem ix_lst {xs : List D} (e : L2.atI xs i = some d) : ixD (.lst xs) (.int i) st = .ok d st := by
  simp only [ixD, asR, asL, e]
theorem ix_tup {xs : List D} (e : L2.atI xs i = some d) : ixD (.tup xs) (.int i) st = .ok d st := by
  simp only [ixD, e]
theorem mkL_ok {xs : List D} (h : xs.length ≤ sizeLine) : mkL xs st = .ok (.lst xs) st := by simp only [mkL, h, if_true]
theorem mkT_ok {xs : List D} (h : xs.length ≤ sizeLine) : mkT xs st = .ok (.tup xs) st := by simp only [mkT, h, if_true]
theorem mkC_ok {xs : List D} (h : xs.length ≤ sizeLine) : mkC xs st = .ok (.cell st.length) (st ++ [.lst xs]) := by simp only [mkC, h, if_true]
theorem atI_nat {α : Type} {xs : List α} {k : Int} (h0 : 0 ≤ k) (h : k < xs.length) : ∃ d, L2.atI xs k = some d ∧ d ∈ xs := by
  refine ⟨xs[k.toNat]'(by omega), ?_, List.getElem_mem _⟩
  simp only [L2.atI, L2.ixN, h0, h, if_true, Option.bind_some]
  exact List.getElem?_eq_getElem _
theorem len_lst {xs : List D} : lenD [.lst xs] st = .ok (.int xs.length) st := id rfl
theorem len_ro {xs : List D} : lenD [.ro xs] st = .ok (.int xs.length) st := id rfl
theorem len_tup {xs : List D} : lenD [.tup xs] st = .ok (.int xs.length) st := id rfl
theorem len_str {x : Str} (h : x.length ≤ sizeLine) : lenD [.str x] st = .ok (.int x.length) st := by simp only [lenD, h, if_true]
end
section
variable {env : Env} {st : Store} {Q : D → Store → Prop} {QB : Bool → Store → Prop} {QL : List D → Store → Prop} {QO : Option Int → Store → Prop} {E : Xc → Store → Prop} {N : Env → Store → Prop} {P : SRes → Prop}
theorem wp_eK {d : D} : (eK d env st).wp Q E = Q d st := id rfl
theorem wp_eVar0 {d : D} : (eVar 0 (some d :: env) st).wp Q E = Q d st := id rfl
theorem wp_eVars {n : Nat} {o : Option D} : (eVar (n + 1) (o :: env) st).wp Q E = (eVar n env st).wp Q E := id rfl
theorem wp_eBin {g : D → D → Store → Res D} {fa fb : DenE} : (eBin g fa fb env st).wp Q E = (fa env st).wp (fun d st1 => (fb env st1).wp (fun e st2 => (g d e st2).wp Q E) E) E := by
  unfold eBin; rw [wp_bind]; simp only [wp_bind]
theorem wp_eUn {g : D → Store → Res D} {fa : DenE} : (eUn g fa env st).wp Q E = (fa env st).wp (fun d st1 => (g d st1).wp Q E) E := by
  unfold eUn; rw [wp_bind]
theorem wp_eArgs {g : List D → Store → Res D} {f : DenA} : (eArgs g f env st).wp Q E = (f env st).wp (fun ds st1 => (g ds st1).wp Q E) E := by
  unfold eArgs; rw [wp_bind]
theorem wp_aNil : (aNil env st).wp QL E = QL [] st := id rfl
theorem wp_aCons {f : DenE} {g : DenA} : (aCons f g env st).wp QL E = (f env st).wp (fun d st1 => (g env st1).wp (fun ds st2 => QL (d :: ds) st2) E) E := by
  unfold aCons; rw [wp_bind]; simp only [wp_bind, wp_ok]
theorem wp_tYes : (tYesD env st).wp QB E = QB true st := id rfl
theorem wp_tOf {f : DenE} : (tOf f env st).wp QB E = (f env st).wp (fun d st1 => ∃ b, d = .bl b ∧ QB b st1) E := by
  unfold tOf; rw [wp_bind]
  congr 1; funext d st1
  cases d <;> simp [wp_ok, wp_bad]
theorem wp_tNot {t : DenT} : (tNotD t env st).wp QB E = (t env st).wp (fun b st1 => QB (!b) st1) E := by
  unfold tNotD; rw [wp_bind]; simp only [wp_ok]
theorem wp_tAnd {t t' : DenT} : (tAndD t t' env st).wp QB E = (t env st).wp (fun b st1 => if b then (t' env st1).wp QB E else QB false st1) E := by
  unfold tAndD; rw [wp_bind]; simp only [wp_ite, wp_ok]
theorem wp_tOr {t t' : DenT} : (tOrD t t' env st).wp QB E = (t env st).wp (fun b st1 => if b then QB true st1 else (t' env st1).wp QB E) E := by
  unfold tOrD; rw [wp_bind]; simp only [wp_ite, wp_ok]
theorem wp_eIf {t : DenT} {f g : DenE} : (eIf t f g env st).wp Q E = (t env st).wp (fun b st1 => if b then (f env st1).wp Q E else (g env st1).wp Q E) E := by
  unfold eIf; rw [wp_bind]; simp only [wp_ite]
theorem wp_eAnd {f g : DenE} : (eAnd f g env st).wp Q E = (f env st).wp (fun d st1 => ∃ b, d = .bl b ∧ if b then (g env st1).wp Q E else Q (.bl false) st1) E := by
  unfold eAnd; rw [wp_bind]
  congr 1; funext d st1
  cases d with
  | bl b => cases b <;> simp [wp_ok]
  | _ => simp [wp_bad]
theorem wp_eOr {f g : DenE} : (eOr f g env st).wp Q E = (f env st).wp (fun d st1 => ∃ b, d = .bl b ∧ if b then Q (.bl true) st1 else (g env st1).wp Q E) E := by
  unfold eOr; rw [wp_bind]
  congr 1; funext d st1
  cases d with
  | bl b => cases b <;> simp [wp_ok]
  | _ => simp [wp_bad]
theorem wp_eNot {f : DenE} : (eNot f env st).wp Q E = (f env st).wp (fun d st1 => ∃ b, d = .bl b ∧ Q (.bl (!b)) st1) E := by
  unfold eNot; rw [wp_bind]
  congr 1; funext d st1
  cases d <;> simp [wp_ok, wp_bad]
theorem wp_eChain {g g' : D → D → Store → Res D} {fa fb fc : DenE} : (eChain g g' fa fb fc env st).wp Q E = (fa env st).wp (fun d st1 => (fb env st1).wp (fun e st2 => (g d e st2).wp (fun z st3 => ∃ b, z = .bl b ∧ if b then (fc env st3).wp (fun c st4 => (g' e c st4).wp Q E) E else Q (.bl false) st3) E) E) E := by
  unfold eChain; rw [wp_bind]; simp only [wp_bind]
  congr 1; funext d st1; congr 1; funext e st2; congr 1; funext z st3
  cases z with
  | bl b => cases b <;> simp [wp_ok, wp_bind]
  | _ => simp [wp_bad]
theorem wp_eM {T : String} {g : D → List D → Store → Res D} {fo : DenE} {fa : DenA} : (eM T g fo fa env st).wp Q E = (fo env st).wp (fun d st1 => tyChk T st1 d = true ∧ (fa env st1).wp (fun ds st2 => (g d ds st2).wp Q E) E) E := by
  unfold eM; rw [wp_bind]
  congr 1; funext d st1
  split <;> rename_i h <;> simp [h, wp_bind, wp_bad]
theorem wp_oNone : (oNone env st).wp QO E = QO none st := id rfl
theorem wp_oSome {f : DenE} : (oSome f env st).wp QO E = (f env st).wp (fun d st1 => ∃ i, d = .int i ∧ QO (some i) st1) E := by
  unfold oSome; rw [wp_bind]
  congr 1; funext d st1
  cases d <;> simp [wp_ok, wp_bad]
theorem wp_eSl {mk : List D → Store → Res D} {fa : DenE} {fl fh : DenO} : (eSl mk fa fl fh env st).wp Q E = (fa env st).wp (fun d st1 => (fl env st1).wp (fun l st2 => (fh env st2).wp (fun h st3 => (slD mk d l h st3).wp Q E) E) E) E := by
  unfold eSl; rw [wp_bind]; simp only [wp_bind]
theorem wp_eFrz {f : DenE} : (eFrz f env st).wp Q E = (f env st).wp (fun d st1 => (frzC d st1).wp Q E) E := by unfold eFrz; rw [wp_bind]
theorem wp_eLc {mk : List D → Store → Res D} {it : DenI} {g : DenG} {t : DenT} {e : DenE} {vs : List Nat} : (eLc mk it g t e vs env st).wp Q E = (it env st).wp (fun items st1 => (compL g t e (wipeD env vs) items [] st1).wp (fun ds st2 => (mk ds st2).wp Q E) E) E := by
  unfold eLc; rw [wp_bind]; simp only [wp_bind]
theorem wp_iL {f : DenE} : (iL f env st).wp QL E = (f env st).wp (fun d st1 => ∃ ds, (d = .lst ds ∨ d = .ro ds) ∧ QL ds st1) E := by
  unfold iL; rw [wp_bind]
  congr 1; funext d st1
  cases d <;> simp [wp_ok, wp_bad]
theorem wp_iT {f : DenE} : (iT f env st).wp QL E = (f env st).wp (fun d st1 => ∃ ds, d = .tup ds ∧ QL ds st1) E := by
  unfold iT; rw [wp_bind]
  congr 1; funext d st1
  cases d <;> simp [wp_ok, wp_bad]
theorem wp_iS {f : DenE} : (iS f env st).wp QL E = (f env st).wp (fun d st1 => ∃ z, d = .str z ∧ QL (signs z) st1) E := by
  unfold iS; rw [wp_bind]
  congr 1; funext d st1
  cases d <;> simp [wp_ok, wp_bad]
theorem wp_iR1 {f : DenA} : (iR1 f env st).wp QL E = (f env st).wp (fun ds st1 => ∃ j, ds = [.int j] ∧ -(2 ^ 62) ≤ j ∧ j < 2 ^ 62 ∧ QL (rngD 0 j.toNat) st1) E := by
  unfold iR1; rw [wp_bind]
  congr 1; funext ds st1
  match ds with
  | [.int j] =>
    show (if -(2 ^ 62) ≤ j ∧ j < 2 ^ 62 then Res.ok (rngD 0 j.toNat) st1 else Res.bad).wp QL E = _
    by_cases h : -(2 ^ 62) ≤ j ∧ j < 2 ^ 62
    · rw [if_pos h, wp_ok]
      exact propext ⟨fun q => ⟨j, rfl, h.1, h.2, q⟩, fun ⟨j', e, _, _, q⟩ => by cases e; exact q⟩
    · rw [if_neg h, wp_bad]
      refine propext ⟨False.elim, fun ⟨j', e, h1, h2, _⟩ => ?_⟩
      cases e; exact h ⟨h1, h2⟩
  | [] => simp [wp_bad]
  | [.non] => simp [wp_bad]
  | [.bl _] => simp [wp_bad]
  | [.str _] => simp [wp_bad]
  | [.lst _] => simp [wp_bad]
  | [.tup _] => simp [wp_bad]
  | [.dct _] => simp [wp_bad]
  | [.ins _ _] => simp [wp_bad]
  | [.ro _] => simp [wp_bad]
  | [.cell _] => simp [wp_bad]
  | [.cls _] => simp [wp_bad]
  | [.ty _] => simp [wp_bad]
  | _ :: _ :: _ => simp [wp_bad]
/-! statements -/
def gwp (o : Option (Env × Store)) (N : Env → Store → Prop) : Prop := match o with
  | some (e, s) => N e s
  | none => False
theorem gwp_N {i : Nat} {d : D} : gwp (gN i d env st) N = N (env.set i (some d)) st := id rfl
theorem gwp_nil : gwp (gsNil [] env st) N = N env st := id rfl
theorem gwp_cons {g : DenG} {gs : DenGs} {d : D} {ds : List D} : gwp (gsCons g gs (d :: ds) env st) N = gwp (g d env st) (fun e s => gwp (gs ds e s) N) := by
  unfold gsCons
  cases h : g d env st with
  | none => simp only [h]; rfl
  | some z => obtain ⟨e, s⟩ := z; simp only [h]; rfl
theorem gwp_T {gs : DenGs} {n : Nat} {ds : List D} (h : ds.length = n) : gwp (gT gs n (.tup ds) env st) N = gwp (gs ds env st) N := by
  simp only [gT, h, if_true]
theorem gwp_sub {d : D} {fo fi : DenE} : gwp (gSubD fo fi d env st) N = (fo env st).wp (fun o st1 => (fi env st1).wp (fun i st2 => ∃ s, setD o i d st2 = some s ∧ N env s) NX) NX := by
  unfold gSubD
  cases fo env st with
  | ok o st1 =>
    simp only [Res.wp]
    cases fi env st1 with
    | ok i st2 =>
      simp only
      cases setD o i d st2 <;> simp [gwp]
    | exc x s => rfl
    | bad => rfl
  | exc x s => rfl
  | bad => rfl
theorem wp_sNext : (sNext env st).wp N P = N env st := id rfl
theorem wp_sRet {f : DenE} : (sRet f env st).wp N P = (f env st).wp (fun d st1 => P (.ret d st1)) (fun x st1 => P (.exc x env st1)) := by
  unfold sRet; rw [wp_andS]; rfl
theorem wp_sRetN : (sRetN env st).wp N P = P (.ret .non st) := id rfl
theorem wp_sExpr {f : DenE} : (sExpr f env st).wp N P = (f env st).wp (fun _ st1 => N env st1) (fun x st1 => P (.exc x env st1)) := by
  unfold sExpr; rw [wp_andS]; rfl
theorem wp_sIf {t : DenT} {f g : DenS} : (sIf t f g env st).wp N P = (t env st).wp (fun b st1 => if b then (f env st1).wp N P else (g env st1).wp N P) (fun x st1 => P (.exc x env st1)) := by
  unfold sIf; rw [wp_andS]; simp only [wp_ites]
theorem wp_sAsg {f : DenE} {g : DenG} : (sAsg f g env st).wp N P = (f env st).wp (fun d st1 => gwp (g d env st1) N) (fun x st1 => P (.exc x env st1)) := by
  unfold sAsg; rw [wp_andS]
  congr 1; funext d st1
  cases g d env st1 with
  | none => rfl
  | some z => rfl
def par2 (ds : List D) (k : D → D → Prop) : Prop := ∃ a b, ds = [a, b] ∧ k a b
theorem par2_ok {a b : D} {k : D → D → Prop} : par2 [a, b] k = k a b := propext ⟨fun ⟨a', b', e, q⟩ => by cases e; exact q, fun q => ⟨a, b, rfl, q⟩⟩
theorem wp_sPar {i j : Nat} {f : DenA} : (sPar i j f env st).wp N P = (f env st).wp (fun ds st1 => par2 ds fun a b => N ((env.set i (some a)).set j (some b)) st1) (fun x st1 => P (.exc x env st1)) := by
  unfold sPar par2; rw [wp_andS]
  congr 1; funext ds st1
  match ds with
  | [a, b] => exact propext ⟨fun q => ⟨a, b, rfl, q⟩, fun ⟨a', b', e, q⟩ => by cases e; exact q⟩
  | [] => simp [wp_sbad]
  | [a] => simp [wp_sbad]
  | _ :: _ :: _ :: _ => simp [wp_sbad]
theorem wp_sFor {it : DenI} {g : DenG} {b : DenS} : (sFor it g b env st).wp N P = (it env st).wp (fun items st1 => (forD g b items env st1).wp N P) (fun x st1 => P (.exc x env st1)) := by
  unfold sFor; rw [wp_andS]
end
section
variable {env : Env} {st : Store} {d : D} {i j : Int}
theorem le_size {n : Nat} (h : n ≤ 1000) : n ≤ sizeLine := by rw [sizeLine_eq]; omega
theorem tyChk_str {x : Str} : tyChk "str" st (.str x) = true := id rfl
theorem tyChk_cell {n : Nat} {xs : List D} (h : st[n]? = some (.lst xs)) : tyChk "list" st (.cell n) = true := by
  simp only [tyChk, asR_cell h]; rfl
theorem ix_str {z : Str} {c : Nat} (hz : z.length ≤ sizeLine) (e : L2.atI z.cps.toList i = some c) : ixD (.str z) (.int i) st = .ok (.str (SX.S [c])) st := by
  simp only [ixD, hz, if_true, e]
theorem strsOf_map : ∀ xs : List Str, strsOf (xs.map D.str) = some xs
  | [] => rfl
  | x :: xs => by simp only [List.map_cons, strsOf, strsOf_map xs, Option.map_some]
theorem add_ll {a b : List D} (h : a.length + b.length ≤ sizeLine) : addD (.lst a) (.lst b) st = .ok (.lst (a ++ b)) st := by simp only [addD, asL, h, if_true]
theorem add_ss {a b : Str} (h : a.length + b.length ≤ sizeLine) : addD (.str a) (.str b) st = .ok (.str (a ++ b)) st := by simp only [addD, h, if_true]
theorem add_tt {a b : List D} (h : a.length + b.length ≤ sizeLine) : addD (.tup a) (.tup b) st = .ok (.tup (a ++ b)) st := by simp only [addD, h, if_true]
theorem sl_str {mk : List D → Store → Res D} {z : Str} {lo hi : Option Int} (h : z.length ≤ sizeLine) : slD mk (.str z) lo hi st = .ok (.str (cutS z lo hi)) st := by simp only [slD, h, if_true]
theorem sl_tup {mk : List D → Store → Res D} {a : List D} {lo hi : Option Int} : slD mk (.tup a) lo hi st = .ok (.tup (cutD a lo hi)) st := id rfl
theorem okL_ok {a : List D} : okL a st = .ok (.lst a) st := id rfl
theorem list_tup {mk : List D → Store → Res D} {a : List D} : listD mk [.tup a] st = mk a st := id rfl
theorem max_ii : max2D [.int i, .int j] st = .ok (.int (if j > i then j else i)) st := id rfl
theorem min_ii : min2D [.int i, .int j] st = .ok (.int (if j < i then j else i)) st := id rfl
theorem abs_i : absD [.int i] st = .ok (.int (if i < 0 then -i else i)) st := id rfl
theorem join_str {a : Str} {ys : List Str} (h : (ys.map (·.length)).sum + ys.length * a.length ≤ 16777216) : joinD (.str a) [.lst (ys.map D.str)] st = .ok (.str (Txt.join a ys)) st := by
  simp only [joinD, asR, asL, strsOf_map, h, if_true]
theorem len_nodup {α : Type} [DecidableEq α] : ∀ {l m : List α}, l.Nodup → (∀ x ∈ l, x ∈ m) → l.length ≤ m.length
  | [], m, _, _ => Nat.zero_le _
  | x :: l, m, nd, h => by
    have hx : x ∈ m := h x (List.mem_cons_self ..)
    have nd' := List.nodup_cons.mp nd
    have ih := len_nodup (m := m.erase x) nd'.2 fun y hy => by
      have : y ≠ x := fun e => nd'.1 (e ▸ hy)
      exact (List.mem_erase_of_ne this).mpr (h y (List.mem_cons_of_mem _ hy))
    have h1 := List.length_erase_of_mem hx
    have h2 := List.length_pos_of_mem hx
    simp only [List.length_cons]
    omega
theorem joinL_one : ∀ cs : List Nat, TL.joinL [] (cs.map fun c => [c]) = cs
  | [] => rfl
  | [c] => rfl
  | c :: d :: r => by
    show [c] ++ ([] ++ TL.joinL [] ((d :: r).map fun c => [c])) = _
    rw [joinL_one (d :: r)]; rfl
end
section
variable {env : Env} {st : Store} {E : Xc → Store → Prop}
theorem Res.eq_of_wp {α : Type} {r : Res α} {a : α} (h : r.wp (fun d s => d = a ∧ s = st) NX) : r = .ok a st := by
  obtain ⟨d, s, e, rfl, rfl⟩ := Res.of_wp h
  exact e
theorem wp_compOn {α : Type} {i : Nat} {test : DenT} {elt : DenE} {Q : List D → Store → Prop} (ι : α → D) (t : α → Bool) (e : α → D) (xs : List α) (hl : xs.length ≤ sizeLine)
    (ht : ∀ x ∈ xs, (test (env.set i (some (ι x))) st).wp (fun b s => b = t x ∧ s = st) NX) (he : ∀ x ∈ xs, t x = true → (elt (env.set i (some (ι x))) st).wp (fun d s => d = e x ∧ s = st) NX)
    (q : Q ((xs.filter t).map e) st) : (compL (gN i) test elt env (xs.map ι) [] st).wp Q E := by
  have main : ∀ (ys : List α) (acc : List D), (∀ x ∈ ys, x ∈ xs) → acc.length + ys.length ≤ sizeLine → compL (gN i) test elt env (ys.map ι) acc st = .ok (acc ++ (ys.filter t).map e) st := by
    intro ys
    induction ys with
    | nil => intro acc _ _; simp [compL]
    | cons y ys ih =>
      intro acc hy hl
      simp only [List.length_cons] at hl
      have h1 := Res.eq_of_wp (ht y (hy y (List.mem_cons_self ..)))
      simp only [List.map_cons, compL, gN, h1, Res.noX, Res.bind]
      cases hb : t y with
      | false =>
        simp only [Bool.false_eq_true, if_false]
        rw [List.filter_cons_of_neg (by simp [hb])]
        exact ih acc (fun x hx => hy x (List.mem_cons_of_mem _ hx)) (by omega)
      | true =>
        have h2 := Res.eq_of_wp (he y (hy y (List.mem_cons_self ..)) hb)
        have h3 : acc.length < sizeLine := by omega
        simp only [if_true, h2, h3]
        rw [List.filter_cons_of_pos (by simp [hb]), ih (acc ++ [e y]) (fun x hx => hy x (List.mem_cons_of_mem _ hx)) (by simp only [List.length_append, List.length_singleton]; omega)]
        simp
  have := main xs [] (fun _ h => h) (by simpa using hl)
  rw [List.nil_append] at this
  exact Res.wp_eq this q
theorem filter_yes {α : Type} (xs : List α) : xs.filter (fun _ => true) = xs := List.filter_eq_self.mpr fun _ _ => rfl
end
theorem atI_zero {α : Type} {x : α} {xs : List α} : L2.atI (x :: xs) 0 = some x := by
  simp only [L2.atI, L2.ixN]
  rw [if_pos (by omega), if_pos (by simp only [List.length_cons]; omega)]; rfl
theorem atI_last {α : Type} {x : α} {xs : List α} : L2.atI (xs ++ [x]) (-1) = some x := by
  simp only [L2.atI, L2.ixN]
  rw [if_neg (by omega), if_pos (by simp only [List.length_append, List.length_singleton]; omega)]
  simp only [Option.bind_some, List.length_append, List.length_singleton]
  have : (-1 + ((xs.length + 1 : Nat) : Int)).toNat = xs.length := by omega
  rw [this]; simp
/-- a list of texts -/
theorem strs_shaped : ∀ {us : List Str}, (∀ x ∈ us, PyData.canLay0 (.str x) = true) → PyData.canLayAll0 (us.map .str) = true ∧ PyData.depthAll (us.map .str) = 0
  | [], _ => by simp [PyData.canLayAll0, PyData.depthAll]
  | u :: us, h => by
    obtain ⟨h1, h2⟩ := strs_shaped (us := us) fun x hx => h x (List.mem_cons_of_mem _ hx)
    simp only [List.map_cons, PyData.canLayAll0, PyData.depthAll, h1, h2, h u (List.mem_cons_self ..), PyData.depth, Bool.and_self, Nat.max_self, and_self]
theorem notIn_strs {st : Store} {used : D} {us : List Str} {x : Str} (hu : toPy st used = some (.list (us.map .str))) (hx : PyData.canLay0 (.str x) = true) (hus : ∀ x ∈ us, PyData.canLay0 (.str x) = true) : notInD (.str x) used st = .ok (.bl (!us.contains x)) st := by
  obtain ⟨h1, h2⟩ := strs_shaped hus
  have e1 : SeqAt.shaped (.str x) = true := by simp only [SeqAt.shaped, hx, PyData.depth]; rfl
  have e2 : SeqAt.shaped (.list (us.map .str)) = true := by simp only [SeqAt.shaped, PyData.canLay0, h1, PyData.depth, h2]; rfl
  have e3 : ((us.map PyData.str).any fun z => PyData.eqv z (.str x)) = us.contains x := by
    rw [List.any_map, List.contains_eq_any_beq]
    congr 1; funext y
    show (y == x) = (x == y)
    exact BEq.comm
  have e4 : inB (.str x) used st = some (us.contains x) := by
    cases used with
    | str z => simp [toPyC] at hu
    | _ => simp only [inB, hu, toPyC, e1, e2, Bool.and_self, if_true, e3]
  simp only [notInD, e4]
theorem wp_eDict1 {k : DenE} {i : Int} {env : Env} {st : Store} {Q : D → Store → Prop} {E : Xc → Store → Prop} : (eDict1 k i env st).wp Q E = (k env st).wp (fun d st1 => ∃ x, d = .str x ∧ Q (.dct [(.inr x, .int i)]) st1) E := by
  unfold eDict1; rw [wp_bind]
  congr 1; funext d st1
  cases d <;> simp [wp_ok, wp_bad]
/-! ### bounded plain data -/
def Fd (m k : Nat) (d : D) : Prop := lf d = true ∧ mz d ≤ m ∧ (pyD d).depth ≤ k
theorem Fd.fine {m k : Nat} {d : D} (h : Fd m k d) (hm : m ≤ 100000 := by decide) (hk : k ≤ 60 := by decide) : fine d = true := by
  obtain ⟨h1, h2, h3⟩ := h
  simp only [Den.fine, h1, Bool.true_and, Bool.and_eq_true, decide_eq_true_eq]
  exact ⟨by omega, by omega⟩
theorem Fd.mono {m k m' k' : Nat} {d : D} (h : Fd m k d) (hm : m ≤ m' := by decide) (hk : k ≤ k' := by decide) : Fd m' k' d := ⟨h.1, Nat.le_trans h.2.1 hm, Nat.le_trans h.2.2 hk⟩
theorem Fd.all {m k : Nat} : ∀ {ds : List D}, (∀ d ∈ ds, Fd m k d) → lfs ds = true ∧ mzs ds ≤ ds.length * (m + 1) ∧ PyData.depthAll (pyDs ds) ≤ k
  | [], _ => by simp [lfs, mzs, pyDs, PyData.depthAll]
  | d :: ds, h => by
    obtain ⟨h1, h2, h3⟩ := Fd.all (ds := ds) fun x hx => h x (List.mem_cons_of_mem _ hx)
    obtain ⟨g1, g2, g3⟩ := h d (List.mem_cons_self ..)
    simp only [lfs, mzs, pyDs, PyData.depthAll, h1, g1, List.length_cons, Bool.and_self, true_and]
    have : (ds.length + 1) * (m + 1) = ds.length * (m + 1) + (m + 1) := Nat.succ_mul _ _
    omega
theorem Fd.tup {m k n : Nat} {ds : List D} (h : ∀ d ∈ ds, Fd m k d) (hl : ds.length ≤ n) : Fd (n * (m + 1)) (k + 1) (.tup ds) := by
  obtain ⟨h1, h2, h3⟩ := Fd.all h
  have := Nat.mul_le_mul_right (m + 1) hl
  exact ⟨by simp only [lf, h1], by simp only [mz]; omega, by simp only [pyD, PyData.depth]; omega⟩
theorem Fd.lst {m k n : Nat} {ds : List D} (h : ∀ d ∈ ds, Fd m k d) (hl : ds.length ≤ n) : Fd (n * (m + 1)) (k + 1) (.lst ds) := by
  obtain ⟨h1, h2, h3⟩ := Fd.all h
  have := Nat.mul_le_mul_right (m + 1) hl
  exact ⟨by simp only [lf, h1], by simp only [mz]; omega, by simp only [pyD, PyData.depth]; omega⟩
theorem Fd.int {i : Int} (h : i.natAbs < 10 ^ 150) : Fd 500 0 (.int i) := ⟨by simp only [lf]; exact decide_eq_true h, by simp [mz], by simp [pyD, PyData.depth]⟩
/-- a text of signs below a million, so many at the most -/
def Sf (n : Nat) (z : Str) : Prop := (∀ c ∈ z.cps.toList, c < 1000000) ∧ z.cps.toList.length ≤ n
theorem Sf.fd {n : Nat} {z : Str} (h : Sf n z) : Fd n 0 (.str z) := by
  refine ⟨?_, ?_, by simp [pyD, PyData.depth]⟩
  · simp only [lf, strFit, List.all_eq_true, decide_eq_true_eq]
    exact fun c hc => Nat.lt_trans (h.1 c hc) (by decide)
  · simp only [mz]; exact h.2
theorem Sf.app {n m : Nat} {a b : Str} (ha : Sf n a) (hb : Sf m b) : Sf (n + m) (a ++ b) := by
  have e : (a ++ b).cps.toList = a.cps.toList ++ b.cps.toList := TL.tl_append a b
  refine ⟨?_, ?_⟩
  · rw [e]; intro c hc
    rcases List.mem_append.mp hc with h | h
    · exact ha.1 c h
    · exact hb.1 c h
  · rw [e, List.length_append]; have := ha.2; have := hb.2; omega
theorem Sf.cut {n : Nat} {a : Str} (ha : Sf n a) (lo hi : Option Int) : Sf n (cutS a lo hi) := by
  unfold cutS
  refine ⟨?_, ?_⟩
  · intro c hc
    exact ha.1 c (List.mem_of_mem_drop (List.mem_of_mem_take hc))
  · have := ha.2
    simp only [List.length_take, List.length_drop]; omega
theorem Sf.mono {n m : Nat} {a : Str} (h : Sf n a) (hm : n ≤ m := by decide) : Sf m a := ⟨h.1, Nat.le_trans h.2 hm⟩
theorem Sf.upper {n : Nat} {cs : List Nat} (h : ∀ c ∈ cs, c < 128) (hl : cs.length ≤ n) : Sf n (Txt.upper (SX.S cs)) := by
  rw [SX.upper_S (by simpa using h)]
  refine ⟨?_, by simpa using hl⟩
  intro c hc
  obtain ⟨c', h', rfl⟩ := List.mem_map.mp (show c ∈ cs.map PyProof.Rows.up1 from hc)
  have := h c' h'
  unfold PyProof.Rows.up1
  split <;> omega
theorem Sf.len {n : Nat} {z : Str} (h : Sf n z) (hn : n ≤ 1000 := by decide) : z.length ≤ sizeLine := le_size (Nat.le_trans h.2 hn)
theorem add_sf {n m : Nat} {st : Store} {a b : Str} (ha : Sf n a) (hb : Sf m b) (h : n + m ≤ 1000 := by decide) : addD (.str a) (.str b) st = .ok (.str (a ++ b)) st := by
  have h1 := ha.2
  have h2 := hb.2
  refine add_ss (le_size ?_)
  show a.cps.toList.length + b.cps.toList.length ≤ 1000
  omega
theorem mul_si {st : Store} {z : Str} {k : Int} (h : z.length ≤ 1000 ∧ 0 ≤ k ∧ k ≤ 1000) : mulD (.str z) (.int k) st = .ok (.str (Txt.mul z k)) st := by simp only [mulD, h, if_true, and_self]
theorem upper_s {st : Store} {z : Str} (h : z.length ≤ 5592405) : upperD (.str z) [] st = .ok (.str (Txt.upper z)) st := by simp only [upperD, h, if_true]
theorem inD_one {st : Store} {c : Nat} {z : Str} : inD (.str ⟨#[c]⟩) (.str z) st = .ok (.bl (decide (c ∈ z.cps.toList))) st := id rfl
theorem notInD_one {st : Store} {c : Nat} {z : Str} : notInD (.str ⟨#[c]⟩) (.str z) st = .ok (.bl (!decide (c ∈ z.cps.toList))) st := id rfl
theorem bools_map {α : Type} (f : α → Bool) : ∀ xs : List α, bools (xs.map fun x => D.bl (f x)) = some (xs.map f)
  | [] => rfl
  | x :: xs => by simp only [List.map_cons, bools, bools_map f xs, Option.map_some]
theorem all_bools {α : Type} {f : α → Bool} {xs : List α} {st : Store} : allD (fun bs => bs.all id) [.lst (xs.map fun x => D.bl (f x))] st = .ok (.bl (xs.all f)) st := by
  simp only [allD, asR, asL, bools_map, List.all_map]; rfl
theorem strFit_lay {x : Str} (h : strFit x = true) : PyData.canLay0 (.str x) = true := by
  have e : PyData.canLay0 (.str x) = x.cps.all fun c => decide (c < 1114112) := rfl
  rw [e, ← Array.all_toList]; exact h
theorem toPyCs_strs {cel : Nat → Option PyData} : ∀ us : List Str, toPyCs cel (us.map D.str) = some (us.map .str)
  | [] => rfl
  | u :: us => by simp only [List.map_cons, toPyCs, toPyC, toPyCs_strs us]
theorem eq_nil {st : Store} {us : List Str} (hus : ∀ x ∈ us, PyData.canLay0 (.str x) = true) : eqD (.lst (us.map .str)) (.lst []) st = .ok (.bl us.isEmpty) st := by
  obtain ⟨h1, h2⟩ := strs_shaped hus
  have e2 : SeqAt.shaped (.list (us.map .str)) = true := by simp only [SeqAt.shaped, PyData.canLay0, h1, PyData.depth, h2]; rfl
  have e3 : SeqAt.shaped (.list []) = true := rfl
  simp only [eqD, toPyC, toPyCs_strs, toPyCs, Option.map_some, eqOk, e2, e3, Bool.and_self, if_true]
  cases us <;> simp [PyData.eqv, PyData.eqvAll]
theorem ne_ii {st : Store} {i j : Int} : neD (.int i) (.int j) st = .ok (.bl (!(i == j))) st := id rfl
theorem eq_ii {st : Store} {i j : Int} : eqD (.int i) (.int j) st = .ok (.bl (i == j)) st := id rfl
theorem eq_ss {st : Store} {x y : Str} : eqD (.str x) (.str y) st = .ok (.bl (x == y)) st := id rfl
theorem filt_empty {α β : Type} (p : α → Bool) (f : α → β) : ∀ l : List α, ((l.filter fun c => !p c).map f).isEmpty = l.all p
  | [] => rfl
  | x :: l => by
    cases h : p x with
    | true => rw [List.filter_cons_of_neg (by simp [h])]; simp [h, ← filt_empty p f l]
    | false => rw [List.filter_cons_of_pos (by simp [h])]; simp [h]
end Den

namespace K11
open PySem PySem.Spec PyProof.Rows L2 Den
def topS (i : Nat) : Stmt := PySem.Challenge.pw_pourround_k11_names_bases_grains.main.body.getD i (.Pass ⟨0, 0, 0, 0⟩)
abbrev sis_whole : Stmt := topS 5
theorem scis_whole : FnScope ["thing"] ["thing"] (defScope sis_whole) := ⟨rfl, rfl, rfl, by decide +kernel, rfl, by decide +kernel, by decide +kernel⟩
abbrev sis_name : Stmt := topS 6
theorem scis_name : FnScope ["thing", "sign"] ["thing"] (defScope sis_name) := ⟨rfl, rfl, rfl, by decide +kernel, rfl, by decide +kernel, by decide +kernel⟩
abbrev sis_base : Stmt := topS 7
theorem scis_base : FnScope ["thing"] ["thing"] (defScope sis_base) := ⟨rfl, rfl, rfl, by decide +kernel, rfl, by decide +kernel, by decide +kernel⟩
abbrev sis_grains : Stmt := topS 8
theorem scis_grains : FnScope ["thing"] ["thing"] (defScope sis_grains) := ⟨rfl, rfl, rfl, by decide +kernel, rfl, by decide +kernel, by decide +kernel⟩
abbrev sis_jar : Stmt := topS 9
theorem scis_jar : FnScope ["thing", "name", "base", "grains"] ["thing"] (defScope sis_jar) := ⟨rfl, rfl, rfl, by decide +kernel, rfl, by decide +kernel, by decide +kernel⟩
abbrev s_law_pot : Stmt := topS 11
theorem sc_law_pot : FnScope ["_law_script", "_law_k", "_law_cell"] ["_law_script", "_law_k"] (defScope s_law_pot) := ⟨rfl, rfl, rfl, by decide +kernel, rfl, by decide +kernel, by decide +kernel⟩
abbrev s_law_take : Stmt := topS 12
theorem sc_law_take : FnScope ["_law_pot_here", "_law_upto", "_law_digit"] ["_law_pot_here", "_law_upto"] (defScope s_law_take) := ⟨rfl, rfl, rfl, by decide +kernel, rfl, by decide +kernel, by decide +kernel⟩
abbrev s_law_among : Stmt := topS 13
theorem sc_law_among : FnScope ["_law_pot_here", "_law_some"] ["_law_pot_here", "_law_some"] (defScope s_law_among) := ⟨rfl, rfl, rfl, by decide +kernel, rfl, by decide +kernel, by decide +kernel⟩
abbrev s_law_label : Stmt := topS 14
theorem sc_law_label : FnScope ["_law_pot_here", "_law_used", "_law_letters", "_law_length", "_law_label_here", "_law_some", "_law_k", "_law_letter", "_law_one"] ["_law_pot_here", "_law_used"] (defScope s_law_label) := ⟨rfl, rfl, rfl, by decide +kernel, rfl, by decide +kernel, by decide +kernel⟩
abbrev s_law_size : Stmt := topS 15
theorem sc_law_size : FnScope ["_law_pot_here", "_law_both"] ["_law_pot_here"] (defScope s_law_size) := ⟨rfl, rfl, rfl, by decide +kernel, rfl, by decide +kernel, by decide +kernel⟩
abbrev s_law_heap : Stmt := topS 16
theorem sc_law_heap : FnScope ["_law_pot_here", "_law_size_here", "_law_about", "_law_far"] ["_law_pot_here", "_law_size_here"] (defScope s_law_heap) := ⟨rfl, rfl, rfl, by decide +kernel, rfl, by decide +kernel, by decide +kernel⟩
abbrev s_law_row : Stmt := topS 17
theorem sc_law_row : FnScope ["_law_pot_here", "_law_upto", "_law_labels", "_law_found", "_law_k", "_law_size_here"] ["_law_pot_here", "_law_upto"] (defScope s_law_row) := ⟨rfl, rfl, rfl, by decide +kernel, rfl, by decide +kernel, by decide +kernel⟩
abbrev s_law_odd : Stmt := topS 18
theorem sc_law_odd : FnScope ["_law_pot_here", "_law_some"] ["_law_pot_here"] (defScope s_law_odd) := ⟨rfl, rfl, rfl, by decide +kernel, rfl, by decide +kernel, by decide +kernel⟩
abbrev s_law_is_label : Stmt := topS 19
theorem sc_law_is_label : FnScope ["_law_thing", "_law_sign"] ["_law_thing"] (defScope s_law_is_label) := ⟨rfl, rfl, rfl, by decide +kernel, rfl, by decide +kernel, by decide +kernel⟩
abbrev s_law_is_whole : Stmt := topS 20
theorem sc_law_is_whole : FnScope ["_law_thing", "_law_least"] ["_law_thing", "_law_least"] (defScope s_law_is_whole) := ⟨rfl, rfl, rfl, by decide +kernel, rfl, by decide +kernel, by decide +kernel⟩
abbrev s_law_is_one : Stmt := topS 21
theorem sc_law_is_one : FnScope ["_law_thing"] ["_law_thing"] (defScope s_law_is_one) := ⟨rfl, rfl, rfl, by decide +kernel, rfl, by decide +kernel, by decide +kernel⟩
abbrev s_law_edge : Stmt := topS 22
theorem sc_law_edge : FnScope ["_law_pot_here"] ["_law_pot_here"] (defScope s_law_edge) := ⟨rfl, rfl, rfl, by decide +kernel, rfl, by decide +kernel, by decide +kernel⟩
abbrev s_law_near : Stmt := topS 23
theorem sc_law_near : FnScope ["_law_pot_here", "_law_jar", "_law_label_here", "_law_size_here", "_law_heap_here", "_law_some", "_law_other", "_law_found"] ["_law_pot_here", "_law_jar"] (defScope s_law_near) := ⟨rfl, rfl, rfl, by decide +kernel, rfl, by decide +kernel, by decide +kernel⟩
abbrev s_law_are_told : Stmt := topS 24
theorem sc_law_are_told : FnScope ["_law_thing", "_law_kept", "_law_told", "_law_size_here", "_law_due"] ["_law_thing"] (defScope s_law_are_told) := ⟨rfl, rfl, rfl, by decide +kernel, rfl, by decide +kernel, by decide +kernel⟩
abbrev slaw : Stmt := topS 25
theorem sclaw : FnScope ["_law_script", "_law_k", "_law_pot_here", "_law_jar", "_law_thing"] ["_law_script"] (defScope slaw) := ⟨rfl, rfl, rfl, by decide +kernel, rfl, by decide +kernel, by decide +kernel⟩
structure Top (K : PySem.W.Frag) (mg : Str → Option Value) where
  ais_whole : Addr
  dis_whole : FuncData
  Fis_whole : Fun K "is_whole" "is_whole" sis_whole ais_whole dis_whole
  gis_whole : mg "is_whole" = some (.ref ais_whole)
  ais_name : Addr
  dis_name : FuncData
  Fis_name : Fun K "is_name" "is_name" sis_name ais_name dis_name
  gis_name : mg "is_name" = some (.ref ais_name)
  ais_base : Addr
  dis_base : FuncData
  Fis_base : Fun K "is_base" "is_base" sis_base ais_base dis_base
  gis_base : mg "is_base" = some (.ref ais_base)
  ais_grains : Addr
  dis_grains : FuncData
  Fis_grains : Fun K "is_grains" "is_grains" sis_grains ais_grains dis_grains
  gis_grains : mg "is_grains" = some (.ref ais_grains)
  ais_jar : Addr
  dis_jar : FuncData
  Fis_jar : Fun K "is_jar" "is_jar" sis_jar ais_jar dis_jar
  gis_jar : mg "is_jar" = some (.ref ais_jar)
  a_law_pot : Addr
  d_law_pot : FuncData
  F_law_pot : Fun K "_law_pot" "_law_pot" s_law_pot a_law_pot d_law_pot
  g_law_pot : mg "_law_pot" = some (.ref a_law_pot)
  a_law_take : Addr
  d_law_take : FuncData
  F_law_take : Fun K "_law_take" "_law_take" s_law_take a_law_take d_law_take
  g_law_take : mg "_law_take" = some (.ref a_law_take)
  a_law_among : Addr
  d_law_among : FuncData
  F_law_among : Fun K "_law_among" "_law_among" s_law_among a_law_among d_law_among
  g_law_among : mg "_law_among" = some (.ref a_law_among)
  a_law_label : Addr
  d_law_label : FuncData
  F_law_label : Fun K "_law_label" "_law_label" s_law_label a_law_label d_law_label
  g_law_label : mg "_law_label" = some (.ref a_law_label)
  a_law_size : Addr
  d_law_size : FuncData
  F_law_size : Fun K "_law_size" "_law_size" s_law_size a_law_size d_law_size
  g_law_size : mg "_law_size" = some (.ref a_law_size)
  a_law_heap : Addr
  d_law_heap : FuncData
  F_law_heap : Fun K "_law_heap" "_law_heap" s_law_heap a_law_heap d_law_heap
  g_law_heap : mg "_law_heap" = some (.ref a_law_heap)
  a_law_row : Addr
  d_law_row : FuncData
  F_law_row : Fun K "_law_row" "_law_row" s_law_row a_law_row d_law_row
  g_law_row : mg "_law_row" = some (.ref a_law_row)
  a_law_odd : Addr
  d_law_odd : FuncData
  F_law_odd : Fun K "_law_odd" "_law_odd" s_law_odd a_law_odd d_law_odd
  g_law_odd : mg "_law_odd" = some (.ref a_law_odd)
  a_law_is_label : Addr
  d_law_is_label : FuncData
  F_law_is_label : Fun K "_law_is_label" "_law_is_label" s_law_is_label a_law_is_label d_law_is_label
  g_law_is_label : mg "_law_is_label" = some (.ref a_law_is_label)
  a_law_is_whole : Addr
  d_law_is_whole : FuncData
  F_law_is_whole : Fun K "_law_is_whole" "_law_is_whole" s_law_is_whole a_law_is_whole d_law_is_whole
  g_law_is_whole : mg "_law_is_whole" = some (.ref a_law_is_whole)
  a_law_is_one : Addr
  d_law_is_one : FuncData
  F_law_is_one : Fun K "_law_is_one" "_law_is_one" s_law_is_one a_law_is_one d_law_is_one
  g_law_is_one : mg "_law_is_one" = some (.ref a_law_is_one)
  a_law_edge : Addr
  d_law_edge : FuncData
  F_law_edge : Fun K "_law_edge" "_law_edge" s_law_edge a_law_edge d_law_edge
  g_law_edge : mg "_law_edge" = some (.ref a_law_edge)
  a_law_near : Addr
  d_law_near : FuncData
  F_law_near : Fun K "_law_near" "_law_near" s_law_near a_law_near d_law_near
  g_law_near : mg "_law_near" = some (.ref a_law_near)
  a_law_are_told : Addr
  d_law_are_told : FuncData
  F_law_are_told : Fun K "_law_are_told" "_law_are_told" s_law_are_told a_law_are_told d_law_are_told
  g_law_are_told : mg "_law_are_told" = some (.ref a_law_are_told)
  alaw : Addr
  dlaw : FuncData
  Flaw : Fun K "law" "law" slaw alaw dlaw
  glaw : mg "law" = some (.ref alaw)
  z_abs : mg "abs" = none
  z_all : mg "all" = none
  z_bool : mg "bool" = none
  z_divmod : mg "divmod" = none
  z_int : mg "int" = none
  z_isinstance : mg "isinstance" = none
  z_len : mg "len" = none
  z_list : mg "list" = none
  z_max : mg "max" = none
  z_min : mg "min" = none
  z_range : mg "range" = none
  z_repr : mg "repr" = none
  z_str : mg "str" = none
  z_tuple : mg "tuple" = none
  c_LEAST_BASE : ∃ u, mg "LEAST_BASE" = some u ∧ RelV (.int 2) u
  c_LETTERS : ∃ u, mg "LETTERS" = some u ∧ RelV (.str "abcdefghijklmnopqrstuvwxyz") u
  c_MOST_BASE : ∃ u, mg "MOST_BASE" = some u ∧ RelV (.int 1000000) u
  c_MOST_LETTERS : ∃ u, mg "MOST_LETTERS" = some u ∧ RelV (.int 8) u
def denis_whole : Fn := fnD true 1 (
    sRet (eAnd (eArgs (isi2 (isTy "int") (isaB "int")) (aCons (eVar 0) (aCons (eK (.ty "int")) aNil))) (eNot (eArgs (isi2 (isTy "bool") (isaB "bool")) (aCons (eVar 0) (aCons (eK (.ty "bool")) aNil))))))
def denis_name : Fn := fnD true 2 (
    sSeq (sIf (tOrD (tNotD (tOf (eArgs (isi2 (isTy "str") (isaB "str")) (aCons (eVar 0) (aCons (eK (.ty "str")) aNil))))) (tNotD (tOf (eChain leD leD (eK (.int 1)) (eArgs lenD (aCons (eVar 0) aNil)) (eK (.int 8)))))) (sRet (eK (.bl false))) sNext)
    (sRet (eArgs (allD fun bs => bs.all id) (aCons (eLc okL (iS (eVar 0)) (gN 1) tYesD (eBin inD (eVar 1) (eK (.str "abcdefghijklmnopqrstuvwxyz"))) [1]) aNil))))
def denis_base : Fn := fnD true 1 (
    sRet (eAnd (eArgs denis_whole (aCons (eVar 0) aNil)) (eChain leD leD (eK (.int 2)) (eVar 0) (eK (.int 1000000)))))
def denis_grains : Fn := fnD true 1 (
    sRet (eAnd (eArgs denis_whole (aCons (eVar 0) aNil)) (eBin geD (eVar 0) (eK (.int 0)))))
def denis_jar : Fn := fnD true 4 (
    sSeq (sIf (tOrD (tNotD (tOf (eArgs (isi2 (isTy "tuple") (isaB "tuple")) (aCons (eVar 0) (aCons (eK (.ty "tuple")) aNil))))) (tOf (eBin neD (eArgs lenD (aCons (eVar 0) aNil)) (eK (.int 3))))) (sRet (eK (.bl false))) sNext)
    (sSeq (sAsg (eVar 0) (gT (gsCons (gN 1) (gsCons (gN 2) (gsCons (gN 3) gsNil))) 3))
    (sRet (eAnd (eArgs denis_name (aCons (eVar 1) aNil)) (eAnd (eArgs denis_base (aCons (eVar 2) aNil)) (eArgs denis_grains (aCons (eVar 3) aNil)))))))
def den_law_pot : Fn := fnD false 3 (
    sSeq (sAsg (eIf (tOf (eBin ltD (eVar 1) (eArgs lenD (aCons (eVar 0) aNil)))) (eArgs absD (aCons (eBin ixD (eVar 0) (eVar 1)) aNil)) (eK (.int 0))) (gN 2))
    (sRet (eArgs mkC (aCons (eArgs max2D (aCons (eK (.int 0)) (aCons (eBin subD (eVar 2) (eBin powD (eK (.int 10)) (eK (.int 18)))) aNil))) (aCons (eBin addD (eBin addD (eBin modD (eVar 2) (eK (.int 2147483563))) (eBin mulD (eK (.int 977)) (eVar 1))) (eK (.int 1))) aNil)))))
def den_law_take : Fn := fnD true 3 (
    sSeq (sIf (tOf (eBin gtD (eBin ixD (eVar 0) (eK (.int 0))) (eK (.int 0)))) (sSeq (sAsg (eArgs divmodD (aCons (eBin ixD (eVar 0) (eK (.int 0))) (aCons (eVar 1) aNil))) (gT (gsCons (gSubD (eVar 0) (eK (.int 0))) (gsCons (gN 2) gsNil)) 2))
    (sRet (eVar 2))) sNext)
    (sSeq (sAsg (eBin modD (eBin addD (eBin mulD (eBin ixD (eVar 0) (eK (.int 1))) (eK (.int 48271))) (eK (.int 12347))) (eK (.int 2147483647))) (gSubD (eVar 0) (eK (.int 1))))
    (sRet (eBin modD (eBin fdivD (eBin modD (eBin mulD (eBin ixD (eVar 0) (eK (.int 1))) (eBin ixD (eVar 0) (eK (.int 1)))) (eK (.int 2147483579))) (eK (.int 13))) (eVar 1)))))
def den_law_among : Fn := fnD true 2 (
    sRet (eBin ixD (eVar 1) (eArgs den_law_take (aCons (eVar 0) (aCons (eArgs lenD (aCons (eVar 1) aNil)) aNil)))))
def den_law_label : Fn := fnD true 9 (
    sSeq (sAsg (eK (.str "abcdefghijklmnopqrstuvwxyz")) (gN 2))
    (sSeq (sAsg (eBin ixD (eArgs mkL (aCons (eK (.int 1)) (aCons (eK (.int 1)) (aCons (eK (.int 2)) (aCons (eBin addD (eK (.int 1)) (eArgs den_law_take (aCons (eVar 0) (aCons (eK (.int 8)) aNil)))) aNil))))) (eArgs den_law_take (aCons (eVar 0) (aCons (eK (.int 4)) aNil)))) (gN 3))
    (sSeq (sAsg (eM "str" joinD (eK (.str "")) (aCons (eLc okL (iR1 (aCons (eVar 3) aNil)) (gN 6) tYesD (eBin ixD (eVar 2) (eArgs den_law_take (aCons (eVar 0) (aCons (eK (.int 26)) aNil)))) [6]) aNil)) (gN 4))
    (sSeq (sAsg (eBin addD (eArgs mkL (aCons (eVar 4) aNil)) (eLc okL (iS (eVar 2)) (gN 7) tYesD (eBin addD (eSl okL (eVar 4) oNone (oSome (eK (.int 7)))) (eVar 7)) [7])) (gN 5))
    (sRet (eBin ixD (eLc okL (iL (eVar 5)) (gN 8) (tOf (eBin notInD (eVar 8) (eVar 1))) (eVar 8) [8]) (eK (.int 0))))))))
def den_law_size : Fn := fnD true 2 (
    sSeq (sAsg (eBin mulD (eBin addD (eK (.int 2)) (eArgs den_law_take (aCons (eVar 0) (aCons (eK (.int 9)) aNil)))) (eBin addD (eK (.int 2)) (eArgs den_law_take (aCons (eVar 0) (aCons (eK (.int 9)) aNil))))) (gN 1))
    (sRet (eBin ixD (eArgs mkL (aCons (eK (.int 2)) (aCons (eBin addD (eK (.int 2)) (eArgs den_law_take (aCons (eVar 0) (aCons (eK (.int 6)) aNil)))) (aCons (eVar 1) (aCons (eBin addD (eK (.int 2)) (eArgs den_law_take (aCons (eVar 0) (aCons (eBin subD (eBin powD (eK (.int 10)) (eK (.int 6))) (eK (.int 1))) aNil)))) aNil))))) (eArgs den_law_take (aCons (eVar 0) (aCons (eK (.int 4)) aNil))))))
def den_law_heap : Fn := fnD true 4 (
    sSeq (sAsg (eArgs max2D (aCons (eK (.int 0)) (aCons (eBin subD (eBin addD (eBin mulD (eVar 1) (eArgs den_law_take (aCons (eVar 0) (aCons (eK (.int 5)) aNil)))) (eArgs den_law_take (aCons (eVar 0) (aCons (eK (.int 3)) aNil)))) (eK (.int 1))) aNil))) (gN 2))
    (sSeq (sAsg (eArgs den_law_take (aCons (eVar 0) (aCons (eBin powD (eK (.int 10)) (eK (.int 60))) aNil))) (gN 3))
    (sRet (eArgs den_law_among (aCons (eVar 0) (aCons (eArgs mkL (aCons (eK (.int 0)) (aCons (eArgs den_law_take (aCons (eVar 0) (aCons (eVar 1) aNil))) (aCons (eBin subD (eVar 1) (eK (.int 1))) (aCons (eVar 2) (aCons (eArgs den_law_take (aCons (eVar 0) (aCons (eBin mulD (eVar 1) (eK (.int 40))) aNil))) (aCons (eVar 3) aNil))))))) aNil))))))
def den_law_row : Fn := fnD true 6 (
    sSeq (sPar 2 3 (aCons (eArgs mkC aNil) (aCons (eArgs mkC aNil) aNil)))
    (sSeq (sFor (iR1 (aCons (eBin ixD (eArgs mkL (aCons (eK (.int 1)) (aCons (eK (.int 2)) (aCons (eK (.int 3)) (aCons (eBin addD (eK (.int 1)) (eArgs den_law_take (aCons (eVar 0) (aCons (eVar 1) aNil)))) aNil))))) (eArgs den_law_take (aCons (eVar 0) (aCons (eK (.int 4)) aNil)))) aNil)) (gN 4) (sSeq (sExpr (eM "list" appendD (eVar 2) (aCons (eArgs den_law_label (aCons (eVar 0) (aCons (eVar 2) aNil))) aNil)))
    (sSeq (sAsg (eArgs den_law_size (aCons (eVar 0) aNil)) (gN 5))
    (sExpr (eM "list" appendD (eVar 3) (aCons (eArgs mkT (aCons (eBin ixD (eVar 2) (eUn negD (eK (.int 1)))) (aCons (eVar 5) (aCons (eArgs den_law_heap (aCons (eVar 0) (aCons (eVar 5) aNil))) aNil)))) aNil))))))
    (sRet (eFrz (eVar 3)))))
def den_law_odd : Fn := fnD true 2 (
    sSeq (sAsg (eArgs mkL (aCons (eK .non) (aCons (eK (.bl true)) (aCons (eK (.bl false)) (aCons (eK (.int 0)) (aCons (eK (.int 1)) (aCons (eUn negD (eK (.int 1))) (aCons (eK (.int 2)) (aCons (eBin powD (eK (.int 10)) (eK (.int 6))) (aCons (eBin addD (eBin powD (eK (.int 10)) (eK (.int 6))) (eK (.int 1))) (aCons (eBin powD (eK (.int 10)) (eK (.int 59))) (aCons (eBin subD (eK (.int 0)) (eBin powD (eK (.int 10)) (eK (.int 40)))) (aCons (eK (.str "")) (aCons (eK (.str "A")) (aCons (eK (.str "a b")) (aCons (eK (.str "a1")) aNil)))))))))))))))) (gN 1))
    (sSeq (sAsg (eBin addD (eVar 1) (eArgs mkL (aCons (eK (.str "abcdefghi")) (aCons (eK (.str "-")) (aCons (eK (.str " a")) (aCons (eK (.str "a\n")) (aCons (eArgs mkL aNil) (aCons (eArgs mkL (aCons (eK (.str "a")) aNil)) (aCons (eArgs mkT aNil) (aCons (eArgs mkT (aCons (eK (.str "a")) aNil)) (aCons (eK (.dct [])) (aCons (eDict1 (eK (.str "a")) 1) (aCons (eArgs mkT (aCons (eK (.str "a")) (aCons (eK (.int 2)) aNil))) (aCons (eArgs mkT (aCons (eK (.str "a")) (aCons (eK (.int 2)) (aCons (eK (.int 3)) (aCons (eK (.int 4)) aNil))))) aNil)))))))))))))) (gN 1))
    (sRet (eArgs den_law_among (aCons (eVar 0) (aCons (eBin addD (eVar 1) (eArgs mkL (aCons (eArgs mkL (aCons (eK (.str "a")) (aCons (eK (.int 2)) (aCons (eK (.int 3)) aNil)))) (aCons (eK (.str "a")) (aCons (eArgs mkL (aCons (eK (.int 2)) aNil)) aNil))))) aNil))))))
def den_law_is_label : Fn := fnD true 2 (
    sSeq (sIf (tOrD (tNotD (tOf (eArgs (isi2 (isTy "str") (isaB "str")) (aCons (eVar 0) (aCons (eK (.ty "str")) aNil))))) (tNotD (tOf (eChain ltD ltD (eK (.int 0)) (eArgs lenD (aCons (eVar 0) aNil)) (eK (.int 9)))))) (sRet (eK (.bl false))) sNext)
    (sRet (eBin eqD (eLc okL (iS (eVar 0)) (gN 1) (tOf (eBin notInD (eVar 1) (eK (.str "abcdefghijklmnopqrstuvwxyz")))) (eVar 1) [1]) (eArgs mkL aNil))))
def den_law_is_whole : Fn := fnD true 2 (
    sRet (eAnd (eArgs (isi2 (isTy "int") (isaB "int")) (aCons (eVar 0) (aCons (eK (.ty "int")) aNil))) (eAnd (eNot (eArgs (isi2 (isTy "bool") (isaB "bool")) (aCons (eVar 0) (aCons (eK (.ty "bool")) aNil)))) (eBin geD (eVar 0) (eVar 1)))))
def den_law_is_one : Fn := fnD true 1 (
    sSeq (sIf (tOrD (tNotD (tOf (eArgs (isi2 (isTy "tuple") (isaB "tuple")) (aCons (eVar 0) (aCons (eK (.ty "tuple")) aNil))))) (tOrD (tOf (eBin neD (eArgs lenD (aCons (eVar 0) aNil)) (eK (.int 3)))) (tNotD (tOf (eArgs den_law_is_label (aCons (eBin ixD (eVar 0) (eK (.int 0))) aNil)))))) (sRet (eK (.bl false))) sNext)
    (sRet (eAnd (eArgs den_law_is_whole (aCons (eBin ixD (eVar 0) (eK (.int 1))) (aCons (eK (.int 2)) aNil))) (eAnd (eBin ltD (eBin ixD (eVar 0) (eK (.int 1))) (eBin addD (eBin powD (eK (.int 10)) (eK (.int 6))) (eK (.int 1)))) (eArgs den_law_is_whole (aCons (eBin ixD (eVar 0) (eK (.int 2))) (aCons (eK (.int 0)) aNil)))))))
def den_law_edge : Fn := fnD true 1 (
    sRet (eArgs den_law_among (aCons (eVar 0) (aCons (eArgs mkL (aCons (eK (.int 1)) (aCons (eK (.int 2)) (aCons (eK (.int 0)) (aCons (eUn negD (eK (.int 1))) (aCons (eBin powD (eK (.int 10)) (eK (.int 6))) (aCons (eBin addD (eBin powD (eK (.int 10)) (eK (.int 6))) (eK (.int 1))) (aCons (eK (.bl true)) (aCons (eK (.bl false)) (aCons (eBin powD (eK (.int 10)) (eK (.int 59))) (aCons (eBin subD (eK (.int 0)) (eK (.int 2))) (aCons (eK .non) (aCons (eK (.str "2")) aNil))))))))))))) aNil))))
def den_law_near : Fn := fnD true 8 (
    sSeq (sAsg (eVar 1) (gT (gsCons (gN 2) (gsCons (gN 3) (gsCons (gN 4) gsNil))) 3))
    (sSeq (sAsg (eArgs mkL (aCons (eBin addD (eVar 2) (eBin mulD (eK (.str "a")) (eK (.int 8)))) (aCons (eSl okL (eVar 2) (oSome (eK (.int 1))) oNone) (aCons (eM "str" upperD (eVar 2) aNil) (aCons (eBin addD (eVar 2) (eK (.str " "))) (aCons (eBin addD (eK (.str "1")) (eVar 2)) (aCons (eArgs mkT (aCons (eVar 2) aNil)) (aCons (eArgs mkL (aCons (eVar 2) aNil)) (aCons (eBin addD (eVar 2) (eVar 2)) aNil))))))))) (gN 5))
    (sSeq (sAsg (eArgs den_law_among (aCons (eVar 0) (aCons (eBin addD (eVar 5) (eArgs mkL (aCons (eBin addD (eVar 2) (eK (.str "-"))) (aCons (eBin addD (eSl okL (eVar 2) oNone (oSome (eK (.int 1)))) (eK (.str "_"))) (aCons (eArgs den_law_odd (aCons (eVar 0) aNil)) aNil))))) aNil))) (gN 6))
    (sSeq (sAsg (eArgs mkL (aCons (eArgs mkT (aCons (eVar 6) (aCons (eVar 3) (aCons (eVar 4) aNil)))) (aCons (eArgs mkT (aCons (eVar 2) (aCons (eArgs den_law_edge (aCons (eVar 0) aNil)) (aCons (eVar 4) aNil)))) (aCons (eArgs mkT (aCons (eVar 2) (aCons (eVar 3) (aCons (eArgs den_law_edge (aCons (eVar 0) aNil)) aNil)))) (aCons (eArgs (listD okL) (aCons (eVar 1) aNil)) (aCons (eSl okL (eVar 1) oNone (oSome (eK (.int 2)))) aNil)))))) (gN 7))
    (sSeq (sAsg (eBin addD (eVar 7) (eArgs mkL (aCons (eSl okL (eVar 1) (oSome (eK (.int 1))) oNone) (aCons (eBin addD (eVar 1) (eArgs mkT (aCons (eK (.int 0)) aNil))) (aCons (eArgs mkT (aCons (eVar 1) aNil)) (aCons (eArgs mkT (aCons (eVar 3) (aCons (eVar 2) (aCons (eVar 4) aNil)))) (aCons (eArgs mkT (aCons (eVar 2) (aCons (eVar 4) (aCons (eVar 3) aNil)))) (aCons (eVar 1) (aCons (eVar 6) aNil))))))))) (gN 7))
    (sRet (eBin addD (eVar 7) (eArgs mkL (aCons (eArgs den_law_edge (aCons (eVar 0) aNil)) (aCons (eArgs den_law_odd (aCons (eVar 0) aNil)) aNil))))))))))
def den_law_are_told : Fn := fnD true 5 (
    sSeq (sAsg (eArgs reprD (aCons (eVar 0) aNil)) (gN 1))
    (sSeq (sAsg (eArgs mkL (aCons (eArgs denis_name (aCons (eVar 0) aNil)) (aCons (eArgs denis_base (aCons (eVar 0) aNil)) (aCons (eArgs denis_grains (aCons (eVar 0) aNil)) (aCons (eArgs denis_jar (aCons (eVar 0) aNil)) aNil))))) (gN 2))
    (sSeq (sAsg (eAnd (eArgs den_law_is_whole (aCons (eVar 0) (aCons (eK (.int 2)) aNil))) (eBin ltD (eVar 0) (eBin addD (eBin powD (eK (.int 10)) (eK (.int 6))) (eK (.int 1))))) (gN 3))
    (sSeq (sAsg (eArgs mkL (aCons (eArgs den_law_is_label (aCons (eVar 0) aNil)) (aCons (eVar 3) (aCons (eArgs den_law_is_whole (aCons (eVar 0) (aCons (eK (.int 0)) aNil))) (aCons (eArgs den_law_is_one (aCons (eVar 0) aNil)) aNil))))) (gN 4))
    (sRet (eAnd (eBin eqD (eArgs reprD (aCons (eVar 2) aNil)) (eArgs reprD (aCons (eVar 4) aNil))) (eBin eqD (eArgs reprD (aCons (eVar 0) aNil)) (eVar 1))))))))
def denlaw : Fn := fnD true 5 (
    sSeq (sFor (iR1 (aCons (eArgs max2D (aCons (eK (.int 1)) (aCons (eArgs min2D (aCons (eK (.int 8)) (aCons (eArgs lenD (aCons (eVar 0) aNil)) aNil))) aNil))) aNil)) (gN 1) (sSeq (sAsg (eArgs den_law_pot (aCons (eVar 0) (aCons (eVar 1) aNil))) (gN 2))
    (sFor (iL (eArgs den_law_row (aCons (eVar 2) (aCons (eK (.int 12)) aNil)))) (gN 3) (sIf (tNotD (tOf (eArgs (allD fun bs => bs.all id) (aCons (eLc okL (iL (eBin addD (eArgs (listD okL) (aCons (eVar 3) aNil)) (eArgs den_law_near (aCons (eVar 2) (aCons (eVar 3) aNil))))) (gN 4) tYesD (eArgs den_law_are_told (aCons (eVar 4) aNil)) [4]) aNil)))) (sRet (eK (.bl false))) sNext))))
    (sRet (eBin eqD (eArgs reprD (aCons (eK (.int 1000000)) aNil)) (eK (.str "1000000")))))
section
variable {P : Program} {w : World} {K : PySem.W.Frag} {mg : Str → Option Value} {base : Heap} {G : Nat → Addr}
theorem biis_whole (T : Top K mg) : Binds K T.dis_whole ["thing"] [] := T.Fis_whole.binds fun _ _ _ _ _ _ us hl => match us, hl with | [_], _ => rfl
theorem okis_whole (T : Top K mg) : FnG P w K mg base G 1 T.ais_whole T.dis_whole ["thing"] denis_whole := Fng T.Fis_whole scis_whole fun cdv A outer s H E cg => dss_one (ds_ret (de_and (de_callB cd_isiTy T.z_isinstance bf_isinstance (da_cons (de_var 0) (da_cons (de_bty T.z_int bt_int) da_nil))) (de_one (de_not (de_callB cd_isiTy T.z_isinstance bf_isinstance (da_cons (de_var 0) (da_cons (de_bty T.z_bool bt_bool) da_nil)))))))
theorem biis_name (T : Top K mg) : Binds K T.dis_name ["thing"] [] := T.Fis_name.binds fun _ _ _ _ _ _ us hl => match us, hl with | [_], _ => rfl
theorem okis_name (T : Top K mg) : FnG P w K mg base G 1 T.ais_name T.dis_name ["thing"] denis_name := Fng T.Fis_name scis_name fun cdv A outer s H E cg => dss_cons (ds_if (dt_w (dw_or (dt_not (dt_val (de_callB cd_isiTy T.z_isinstance bf_isinstance (da_cons (de_var 0) (da_cons (de_bty T.z_str bt_str) da_nil))))) (dw_or1 (dt_not (dt_chain od_le od_le de_int (de_callB cd_len T.z_len bf_len (da_cons (de_var 0) da_nil)) (de_glob T.c_MOST_LETTERS.choose_spec.1 T.c_MOST_LETTERS.choose_spec.2 rfl)))))) (dss_one (ds_ret de_bl)) dss_nil)
    (dss_one (ds_ret (de_callB (cd_all rfl) T.z_all bf_all (da_cons (de_lc mkaL [("sign", 1)] rfl scis_name.nd (di_str (de_var 0)) (blkOk_by (own := [("sign", 1)]) (N := ["thing", "sign"]) (sc := defScope sis_name) (by decide +kernel)) (fun _ _ _ _ _ => dg_name (ws := [1]) 1 scis_name.nd) (fun _ _ _ _ _ => dts_nil) (fun _ _ _ _ _ => de_cmp (od_in cg.units65) (de_var 1) (de_glob T.c_LETTERS.choose_spec.1 T.c_LETTERS.choose_spec.2 rfl))) da_nil))))
theorem biis_base (T : Top K mg) : Binds K T.dis_base ["thing"] [] := T.Fis_base.binds fun _ _ _ _ _ _ us hl => match us, hl with | [_], _ => rfl
theorem okis_base (T : Top K mg) : FnG P w K mg base G 2 T.ais_base T.dis_base ["thing"] denis_base := Fng T.Fis_base scis_base fun cdv A outer s H E cg => dss_one (ds_ret (de_and (de_call (okis_whole T) cg.gd (cg.room.mono (by decide)) (takes_of rfl rfl rfl rfl) T.gis_whole T.Fis_whole.kp (biis_whole T) (da_cons (de_var 0) da_nil) (hlen := (alen_cons (fun _ _ _ _ => alen_nil)))) (de_one (de_chain od_le od_le (de_glob T.c_LEAST_BASE.choose_spec.1 T.c_LEAST_BASE.choose_spec.2 rfl) (de_var 0) (de_glob T.c_MOST_BASE.choose_spec.1 T.c_MOST_BASE.choose_spec.2 rfl)))))
theorem biis_grains (T : Top K mg) : Binds K T.dis_grains ["thing"] [] := T.Fis_grains.binds fun _ _ _ _ _ _ us hl => match us, hl with | [_], _ => rfl
theorem okis_grains (T : Top K mg) : FnG P w K mg base G 2 T.ais_grains T.dis_grains ["thing"] denis_grains := Fng T.Fis_grains scis_grains fun cdv A outer s H E cg => dss_one (ds_ret (de_and (de_call (okis_whole T) cg.gd (cg.room.mono (by decide)) (takes_of rfl rfl rfl rfl) T.gis_whole T.Fis_whole.kp (biis_whole T) (da_cons (de_var 0) da_nil) (hlen := (alen_cons (fun _ _ _ _ => alen_nil)))) (de_one (de_cmp od_ge (de_var 0) de_int))))
theorem biis_jar (T : Top K mg) : Binds K T.dis_jar ["thing"] [] := T.Fis_jar.binds fun _ _ _ _ _ _ us hl => match us, hl with | [_], _ => rfl
theorem okis_jar (T : Top K mg) : FnG P w K mg base G 3 T.ais_jar T.dis_jar ["thing"] denis_jar := Fng T.Fis_jar scis_jar fun cdv A outer s H E cg => dss_cons (ds_if (dt_w (dw_or (dt_not (dt_val (de_callB cd_isiTy T.z_isinstance bf_isinstance (da_cons (de_var 0) (da_cons (de_bty T.z_tuple bt_tuple) da_nil))))) (dw_or1 (dt_cmp (od_ne cg.units) (de_callB cd_len T.z_len bf_len (da_cons (de_var 0) da_nil)) de_int)))) (dss_one (ds_ret de_bl)) dss_nil)
    (dss_cons (ds_asg (de_var 0) (dg_tup rfl (dgs_cons (dg_name (ws := [1, 2, 3]) 1 scis_jar.nd) (dgs_cons (dg_name (ws := [1, 2, 3]) 2 scis_jar.nd) (dgs_cons (dg_name (ws := [1, 2, 3]) 3 scis_jar.nd) dgs_nil)))))
    (dss_one (ds_ret (de_and (de_call (okis_name T) cg.gd (cg.room.mono (by decide)) (takes_of rfl rfl rfl rfl) T.gis_name T.Fis_name.kp (biis_name T) (da_cons (de_var 1) da_nil) (hlen := (alen_cons (fun _ _ _ _ => alen_nil)))) (de_and (de_call (okis_base T) cg.gd (cg.room.mono (by decide)) (takes_of rfl rfl rfl rfl) T.gis_base T.Fis_base.kp (biis_base T) (da_cons (de_var 2) da_nil) (hlen := (alen_cons (fun _ _ _ _ => alen_nil)))) (de_one (de_call (okis_grains T) cg.gd (cg.room.mono (by decide)) (takes_of rfl rfl rfl rfl) T.gis_grains T.Fis_grains.kp (biis_grains T) (da_cons (de_var 3) da_nil) (hlen := (alen_cons (fun _ _ _ _ => alen_nil))))))))))
theorem bi_law_pot (T : Top K mg) : Binds K T.d_law_pot ["_law_script", "_law_k"] [] := T.F_law_pot.binds fun _ _ _ _ _ _ us hl => match us, hl with | [_, _], _ => rfl
theorem ok_law_pot (T : Top K mg) : FnG P w K mg base G 1 T.a_law_pot T.d_law_pot ["_law_script", "_law_k"] den_law_pot := Fng T.F_law_pot sc_law_pot fun cdv A outer s H E cg => dss_cons (ds_asg (de_if (dt_cmp od_lt (de_var 1) (de_callB cd_len T.z_len bf_len (da_cons (de_var 0) da_nil))) (de_callB cd_abs T.z_abs bf_abs (da_cons (de_ix (de_var 0) (de_var 1)) da_nil)) de_int) (dg_name (ws := [2]) 2 sc_law_pot.nd))
    (dss_one (ds_ret (de_lstC (da_cons (de_callB (cd_max2 rfl) T.z_max bf_max (da_cons de_int (da_cons (de_bin od_sub (de_var 2) (de_bin od_pow de_int de_int)) da_nil))) (da_cons (de_bin od_add (de_bin od_add (de_bin od_mod (de_var 2) de_int) (de_bin od_mul de_int (de_var 1))) de_int) da_nil)))))
theorem bi_law_take (T : Top K mg) : Binds K T.d_law_take ["_law_pot_here", "_law_upto"] [] := T.F_law_take.binds fun _ _ _ _ _ _ us hl => match us, hl with | [_, _], _ => rfl
theorem ok_law_take (T : Top K mg) : FnG P w K mg base G 1 T.a_law_take T.d_law_take ["_law_pot_here", "_law_upto"] den_law_take := Fng T.F_law_take sc_law_take fun cdv A outer s H E cg => dss_cons (ds_if (dt_cmp od_gt (de_ix (de_var 0) de_int) de_int) (dss_cons (ds_asg (de_callB cd_divmod T.z_divmod bf_divmod (da_cons (de_ix (de_var 0) de_int) (da_cons (de_var 1) da_nil))) (dg_tup rfl (dgs_cons (dg_sub (ws := [2]) (de_var 0) de_int) (dgs_cons (dg_name (ws := [2]) 2 sc_law_take.nd) dgs_nil))))
    (dss_one (ds_ret (de_var 2)))) dss_nil)
    (dss_cons (ds_asg (de_bin od_mod (de_bin od_add (de_bin od_mul (de_ix (de_var 0) de_int) de_int) de_int) de_int) (dg_sub (ws := []) (de_var 0) de_int))
    (dss_one (ds_ret (de_bin od_mod (de_bin od_fdiv (de_bin od_mod (de_bin od_mul (de_ix (de_var 0) de_int) (de_ix (de_var 0) de_int)) de_int) de_int) (de_var 1)))))
theorem bi_law_among (T : Top K mg) : Binds K T.d_law_among ["_law_pot_here", "_law_some"] [] := T.F_law_among.binds fun _ _ _ _ _ _ us hl => match us, hl with | [_, _], _ => rfl
theorem ok_law_among (T : Top K mg) : FnG P w K mg base G 2 T.a_law_among T.d_law_among ["_law_pot_here", "_law_some"] den_law_among := Fng T.F_law_among sc_law_among fun cdv A outer s H E cg => dss_one (ds_ret (de_ix (de_var 1) (de_call (ok_law_take T) cg.gd (cg.room.mono (by decide)) (takes_of rfl rfl rfl rfl) T.g_law_take T.F_law_take.kp (bi_law_take T) (da_cons (de_var 0) (da_cons (de_callB cd_len T.z_len bf_len (da_cons (de_var 1) da_nil)) da_nil)) (hlen := (alen_cons ((alen_cons (fun _ _ _ _ => alen_nil))))))))
theorem bi_law_label (T : Top K mg) : Binds K T.d_law_label ["_law_pot_here", "_law_used"] [] := T.F_law_label.binds fun _ _ _ _ _ _ us hl => match us, hl with | [_, _], _ => rfl
theorem ok_law_label (T : Top K mg) : FnG P w K mg base G 2 T.a_law_label T.d_law_label ["_law_pot_here", "_law_used"] den_law_label := Fng T.F_law_label sc_law_label fun cdv A outer s H E cg => dss_cons (ds_asg de_str (dg_name (ws := [2]) 2 sc_law_label.nd))
    (dss_cons (ds_asg (de_ix (de_lst (da_cons de_int (da_cons de_int (da_cons de_int (da_cons (de_bin od_add de_int (de_call (ok_law_take T) cg.gd (cg.room.mono (by decide)) (takes_of rfl rfl rfl rfl) T.g_law_take T.F_law_take.kp (bi_law_take T) (da_cons (de_var 0) (da_cons de_int da_nil)) (hlen := (alen_cons ((alen_cons (fun _ _ _ _ => alen_nil))))))) da_nil))))) (de_call (ok_law_take T) cg.gd (cg.room.mono (by decide)) (takes_of rfl rfl rfl rfl) T.g_law_take T.F_law_take.kp (bi_law_take T) (da_cons (de_var 0) (da_cons de_int da_nil)) (hlen := (alen_cons ((alen_cons (fun _ _ _ _ => alen_nil))))))) (dg_name (ws := [3]) 3 sc_law_label.nd))
    (dss_cons (ds_asg (de_bm md_join de_str (da_cons (de_lc mkaL [("_law_k", 6)] rfl sc_law_label.nd (di_range1 T.z_range (da_cons (de_var 3) da_nil)) (blkOk_by (own := [("_law_k", 6)]) (N := ["_law_pot_here", "_law_used", "_law_letters", "_law_length", "_law_label_here", "_law_some", "_law_k", "_law_letter", "_law_one"]) (sc := defScope s_law_label) (by decide +kernel)) (fun _ _ _ _ _ => dg_name (ws := [6]) 6 sc_law_label.nd) (fun _ _ _ _ _ => dts_nil) (fun _ _ _ _ _ => de_ix (de_var 2) (de_call (ok_law_take T) cg.gd (cg.room.mono (by decide)) takes0 T.g_law_take T.F_law_take.kp (bi_law_take T) (da_cons (de_var 0) (da_cons de_int da_nil)) (hlen := (alen_cons ((alen_cons (fun _ _ _ _ => alen_nil)))))))) da_nil) PySem.F.plainAttrs_str PySem.F.slot_str_join PySem.F.type_str_join) (dg_name (ws := [4]) 4 sc_law_label.nd))
    (dss_cons (ds_asg (de_bin od_add (de_lst (da_cons (de_var 4) da_nil)) (de_lc mkaL [("_law_letter", 7)] rfl sc_law_label.nd (di_str (de_var 2)) (blkOk_by (own := [("_law_letter", 7)]) (N := ["_law_pot_here", "_law_used", "_law_letters", "_law_length", "_law_label_here", "_law_some", "_law_k", "_law_letter", "_law_one"]) (sc := defScope s_law_label) (by decide +kernel)) (fun _ _ _ _ _ => dg_name (ws := [7]) 7 sc_law_label.nd) (fun _ _ _ _ _ => dts_nil) (fun _ _ _ _ _ => de_bin od_add (de_slice mk1L (de_var 4) do_none (do_some de_int)) (de_var 7)))) (dg_name (ws := [5]) 5 sc_law_label.nd))
    (dss_one (ds_ret (de_ix (de_lc mkaL [("_law_one", 8)] rfl sc_law_label.nd (di_list (de_var 5)) (blkOk_by (own := [("_law_one", 8)]) (N := ["_law_pot_here", "_law_used", "_law_letters", "_law_length", "_law_label_here", "_law_some", "_law_k", "_law_letter", "_law_one"]) (sc := defScope s_law_label) (by decide +kernel)) (fun _ _ _ _ _ => dg_name (ws := [8]) 8 sc_law_label.nd) (fun _ _ _ _ _ => dts_one (dt_cmp (od_notIn cg.units65) (de_var 8) (de_var 1))) (fun _ _ _ _ _ => de_var 8)) de_int))))))
theorem bi_law_size (T : Top K mg) : Binds K T.d_law_size ["_law_pot_here"] [] := T.F_law_size.binds fun _ _ _ _ _ _ us hl => match us, hl with | [_], _ => rfl
theorem ok_law_size (T : Top K mg) : FnG P w K mg base G 2 T.a_law_size T.d_law_size ["_law_pot_here"] den_law_size := Fng T.F_law_size sc_law_size fun cdv A outer s H E cg => dss_cons (ds_asg (de_bin od_mul (de_bin od_add de_int (de_call (ok_law_take T) cg.gd (cg.room.mono (by decide)) (takes_of rfl rfl rfl rfl) T.g_law_take T.F_law_take.kp (bi_law_take T) (da_cons (de_var 0) (da_cons de_int da_nil)) (hlen := (alen_cons ((alen_cons (fun _ _ _ _ => alen_nil))))))) (de_bin od_add de_int (de_call (ok_law_take T) cg.gd (cg.room.mono (by decide)) (takes_of rfl rfl rfl rfl) T.g_law_take T.F_law_take.kp (bi_law_take T) (da_cons (de_var 0) (da_cons de_int da_nil)) (hlen := (alen_cons ((alen_cons (fun _ _ _ _ => alen_nil)))))))) (dg_name (ws := [1]) 1 sc_law_size.nd))
    (dss_one (ds_ret (de_ix (de_lst (da_cons de_int (da_cons (de_bin od_add de_int (de_call (ok_law_take T) cg.gd (cg.room.mono (by decide)) (takes_of rfl rfl rfl rfl) T.g_law_take T.F_law_take.kp (bi_law_take T) (da_cons (de_var 0) (da_cons de_int da_nil)) (hlen := (alen_cons ((alen_cons (fun _ _ _ _ => alen_nil))))))) (da_cons (de_var 1) (da_cons (de_bin od_add de_int (de_call (ok_law_take T) cg.gd (cg.room.mono (by decide)) (takes_of rfl rfl rfl rfl) T.g_law_take T.F_law_take.kp (bi_law_take T) (da_cons (de_var 0) (da_cons (de_bin od_sub (de_bin od_pow de_int de_int) de_int) da_nil)) (hlen := (alen_cons ((alen_cons (fun _ _ _ _ => alen_nil))))))) da_nil))))) (de_call (ok_law_take T) cg.gd (cg.room.mono (by decide)) (takes_of rfl rfl rfl rfl) T.g_law_take T.F_law_take.kp (bi_law_take T) (da_cons (de_var 0) (da_cons de_int da_nil)) (hlen := (alen_cons ((alen_cons (fun _ _ _ _ => alen_nil)))))))))
theorem bi_law_heap (T : Top K mg) : Binds K T.d_law_heap ["_law_pot_here", "_law_size_here"] [] := T.F_law_heap.binds fun _ _ _ _ _ _ us hl => match us, hl with | [_, _], _ => rfl
theorem ok_law_heap (T : Top K mg) : FnG P w K mg base G 3 T.a_law_heap T.d_law_heap ["_law_pot_here", "_law_size_here"] den_law_heap := Fng T.F_law_heap sc_law_heap fun cdv A outer s H E cg => dss_cons (ds_asg (de_callB (cd_max2 rfl) T.z_max bf_max (da_cons de_int (da_cons (de_bin od_sub (de_bin od_add (de_bin od_mul (de_var 1) (de_call (ok_law_take T) cg.gd (cg.room.mono (by decide)) (takes_of rfl rfl rfl rfl) T.g_law_take T.F_law_take.kp (bi_law_take T) (da_cons (de_var 0) (da_cons de_int da_nil)) (hlen := (alen_cons ((alen_cons (fun _ _ _ _ => alen_nil))))))) (de_call (ok_law_take T) cg.gd (cg.room.mono (by decide)) (takes_of rfl rfl rfl rfl) T.g_law_take T.F_law_take.kp (bi_law_take T) (da_cons (de_var 0) (da_cons de_int da_nil)) (hlen := (alen_cons ((alen_cons (fun _ _ _ _ => alen_nil))))))) de_int) da_nil))) (dg_name (ws := [2]) 2 sc_law_heap.nd))
    (dss_cons (ds_asg (de_call (ok_law_take T) cg.gd (cg.room.mono (by decide)) (takes_of rfl rfl rfl rfl) T.g_law_take T.F_law_take.kp (bi_law_take T) (da_cons (de_var 0) (da_cons (de_bin od_pow de_int de_int) da_nil)) (hlen := (alen_cons ((alen_cons (fun _ _ _ _ => alen_nil)))))) (dg_name (ws := [3]) 3 sc_law_heap.nd))
    (dss_one (ds_ret (de_call (ok_law_among T) cg.gd (cg.room.mono (by decide)) (takes_of rfl rfl rfl rfl) T.g_law_among T.F_law_among.kp (bi_law_among T) (da_cons (de_var 0) (da_cons (de_lst (da_cons de_int (da_cons (de_call (ok_law_take T) cg.gd (cg.room.mono (by decide)) (takes_of rfl rfl rfl rfl) T.g_law_take T.F_law_take.kp (bi_law_take T) (da_cons (de_var 0) (da_cons (de_var 1) da_nil)) (hlen := (alen_cons ((alen_cons (fun _ _ _ _ => alen_nil)))))) (da_cons (de_bin od_sub (de_var 1) de_int) (da_cons (de_var 2) (da_cons (de_call (ok_law_take T) cg.gd (cg.room.mono (by decide)) (takes_of rfl rfl rfl rfl) T.g_law_take T.F_law_take.kp (bi_law_take T) (da_cons (de_var 0) (da_cons (de_bin od_mul (de_var 1) de_int) da_nil)) (hlen := (alen_cons ((alen_cons (fun _ _ _ _ => alen_nil)))))) (da_cons (de_var 3) da_nil))))))) da_nil)) (hlen := (alen_cons ((alen_cons (fun _ _ _ _ => alen_nil)))))))))
theorem bi_law_row (T : Top K mg) : Binds K T.d_law_row ["_law_pot_here", "_law_upto"] [] := T.F_law_row.binds fun _ _ _ _ _ _ us hl => match us, hl with | [_, _], _ => rfl
theorem ok_law_row (T : Top K mg) : FnG P w K mg base G 4 T.a_law_row T.d_law_row ["_law_pot_here", "_law_upto"] den_law_row := Fng T.F_law_row sc_law_row fun cdv A outer s H E cg => dss_cons (ds_par (i := 2) (j := 3) rfl sc_law_row.nd (da_cons (de_lstC da_nil) (da_cons (de_lstC da_nil) da_nil)))
    (dss_cons (ds_for (passes_of rfl) rfl (di_range1 T.z_range (da_cons (de_ix (de_lst (da_cons de_int (da_cons de_int (da_cons de_int (da_cons (de_bin od_add de_int (de_call (ok_law_take T) cg.gd (cg.room.mono (by decide)) (takes_of rfl rfl rfl rfl) T.g_law_take T.F_law_take.kp (bi_law_take T) (da_cons (de_var 0) (da_cons (de_var 1) da_nil)) (hlen := (alen_cons ((alen_cons (fun _ _ _ _ => alen_nil))))))) da_nil))))) (de_call (ok_law_take T) cg.gd (cg.room.mono (by decide)) (takes_of rfl rfl rfl rfl) T.g_law_take T.F_law_take.kp (bi_law_take T) (da_cons (de_var 0) (da_cons de_int da_nil)) (hlen := (alen_cons ((alen_cons (fun _ _ _ _ => alen_nil))))))) da_nil)) (dg_name (ws := [4]) 4 sc_law_row.nd) (dss_cons (ds_expr (de_bm md_append (de_var 2) (da_cons (de_call (ok_law_label T) cg.gd (cg.room.mono (by decide)) (takes_of rfl rfl rfl rfl) T.g_law_label T.F_law_label.kp (bi_law_label T) (da_cons (de_var 0) (da_cons (de_var 2) da_nil)) (hlen := (alen_cons ((alen_cons (fun _ _ _ _ => alen_nil)))))) da_nil) PySem.F.plainAttrs_list PySem.F.slot_list_append PySem.F.type_list_append))
    (dss_cons (ds_asg (de_call (ok_law_size T) cg.gd (cg.room.mono (by decide)) (takes_of rfl rfl rfl rfl) T.g_law_size T.F_law_size.kp (bi_law_size T) (da_cons (de_var 0) da_nil) (hlen := (alen_cons (fun _ _ _ _ => alen_nil)))) (dg_name (ws := [5]) 5 sc_law_row.nd))
    (dss_one (ds_expr (de_bm md_append (de_var 3) (da_cons (de_tup (da_cons (de_ix (de_var 2) (de_un od_neg de_int)) (da_cons (de_var 5) (da_cons (de_call (ok_law_heap T) cg.gd (cg.room.mono (by decide)) (takes_of rfl rfl rfl rfl) T.g_law_heap T.F_law_heap.kp (bi_law_heap T) (da_cons (de_var 0) (da_cons (de_var 5) da_nil)) (hlen := (alen_cons ((alen_cons (fun _ _ _ _ => alen_nil)))))) da_nil)))) da_nil) PySem.F.plainAttrs_list PySem.F.slot_list_append PySem.F.type_list_append))))))
    (dss_one (ds_ret (de_frz (de_var 3)))))
theorem bi_law_odd (T : Top K mg) : Binds K T.d_law_odd ["_law_pot_here"] [] := T.F_law_odd.binds fun _ _ _ _ _ _ us hl => match us, hl with | [_], _ => rfl
theorem ok_law_odd (T : Top K mg) : FnG P w K mg base G 3 T.a_law_odd T.d_law_odd ["_law_pot_here"] den_law_odd := Fng T.F_law_odd sc_law_odd fun cdv A outer s H E cg => dss_cons (ds_asg (de_lst (da_cons de_non (da_cons de_bl (da_cons de_bl (da_cons de_int (da_cons de_int (da_cons (de_un od_neg de_int) (da_cons de_int (da_cons (de_bin od_pow de_int de_int) (da_cons (de_bin od_add (de_bin od_pow de_int de_int) de_int) (da_cons (de_bin od_pow de_int de_int) (da_cons (de_bin od_sub de_int (de_bin od_pow de_int de_int)) (da_cons de_str (da_cons de_str (da_cons de_str (da_cons de_str da_nil)))))))))))))))) (dg_name (ws := [1]) 1 sc_law_odd.nd))
    (dss_cons (ds_asg (de_bin od_add (de_var 1) (de_lst (da_cons de_str (da_cons de_str (da_cons de_str (da_cons de_str (da_cons (de_lst da_nil) (da_cons (de_lst (da_cons de_str da_nil)) (da_cons (de_tup da_nil) (da_cons (de_tup (da_cons de_str da_nil)) (da_cons de_dict0 (da_cons de_dict1K (da_cons (de_tup (da_cons de_str (da_cons de_int da_nil))) (da_cons (de_tup (da_cons de_str (da_cons de_int (da_cons de_int (da_cons de_int da_nil))))) da_nil)))))))))))))) (dg_name (ws := [1]) 1 sc_law_odd.nd))
    (dss_one (ds_ret (de_call (ok_law_among T) cg.gd (cg.room.mono (by decide)) (takes_of rfl rfl rfl rfl) T.g_law_among T.F_law_among.kp (bi_law_among T) (da_cons (de_var 0) (da_cons (de_bin od_add (de_var 1) (de_lst (da_cons (de_lst (da_cons de_str (da_cons de_int (da_cons de_int da_nil)))) (da_cons de_str (da_cons (de_lst (da_cons de_int da_nil)) da_nil))))) da_nil)) (hlen := (alen_cons ((alen_cons (fun _ _ _ _ => alen_nil)))))))))
theorem bi_law_is_label (T : Top K mg) : Binds K T.d_law_is_label ["_law_thing"] [] := T.F_law_is_label.binds fun _ _ _ _ _ _ us hl => match us, hl with | [_], _ => rfl
theorem ok_law_is_label (T : Top K mg) : FnG P w K mg base G 1 T.a_law_is_label T.d_law_is_label ["_law_thing"] den_law_is_label := Fng T.F_law_is_label sc_law_is_label fun cdv A outer s H E cg => dss_cons (ds_if (dt_w (dw_or (dt_not (dt_val (de_callB cd_isiTy T.z_isinstance bf_isinstance (da_cons (de_var 0) (da_cons (de_bty T.z_str bt_str) da_nil))))) (dw_or1 (dt_not (dt_chain od_lt od_lt de_int (de_callB cd_len T.z_len bf_len (da_cons (de_var 0) da_nil)) de_int))))) (dss_one (ds_ret de_bl)) dss_nil)
    (dss_one (ds_ret (de_cmp (od_eq cg.units) (de_lc mkaL [("_law_sign", 1)] rfl sc_law_is_label.nd (di_str (de_var 0)) (blkOk_by (own := [("_law_sign", 1)]) (N := ["_law_thing", "_law_sign"]) (sc := defScope s_law_is_label) (by decide +kernel)) (fun _ _ _ _ _ => dg_name (ws := [1]) 1 sc_law_is_label.nd) (fun _ _ _ _ _ => dts_one (dt_cmp (od_notIn cg.units65) (de_var 1) de_str)) (fun _ _ _ _ _ => de_var 1)) (de_lst da_nil))))
theorem bi_law_is_whole (T : Top K mg) : Binds K T.d_law_is_whole ["_law_thing", "_law_least"] [] := T.F_law_is_whole.binds fun _ _ _ _ _ _ us hl => match us, hl with | [_, _], _ => rfl
theorem ok_law_is_whole (T : Top K mg) : FnG P w K mg base G 1 T.a_law_is_whole T.d_law_is_whole ["_law_thing", "_law_least"] den_law_is_whole := Fng T.F_law_is_whole sc_law_is_whole fun cdv A outer s H E cg => dss_one (ds_ret (de_and (de_callB cd_isiTy T.z_isinstance bf_isinstance (da_cons (de_var 0) (da_cons (de_bty T.z_int bt_int) da_nil))) (de_and (de_not (de_callB cd_isiTy T.z_isinstance bf_isinstance (da_cons (de_var 0) (da_cons (de_bty T.z_bool bt_bool) da_nil)))) (de_one (de_cmp od_ge (de_var 0) (de_var 1))))))
theorem bi_law_is_one (T : Top K mg) : Binds K T.d_law_is_one ["_law_thing"] [] := T.F_law_is_one.binds fun _ _ _ _ _ _ us hl => match us, hl with | [_], _ => rfl
theorem ok_law_is_one (T : Top K mg) : FnG P w K mg base G 2 T.a_law_is_one T.d_law_is_one ["_law_thing"] den_law_is_one := Fng T.F_law_is_one sc_law_is_one fun cdv A outer s H E cg => dss_cons (ds_if (dt_w (dw_or (dt_not (dt_val (de_callB cd_isiTy T.z_isinstance bf_isinstance (da_cons (de_var 0) (da_cons (de_bty T.z_tuple bt_tuple) da_nil))))) (dw_or (dt_cmp (od_ne cg.units) (de_callB cd_len T.z_len bf_len (da_cons (de_var 0) da_nil)) de_int) (dw_or1 (dt_not (dt_val (de_call (ok_law_is_label T) cg.gd (cg.room.mono (by decide)) (takes_of rfl rfl rfl rfl) T.g_law_is_label T.F_law_is_label.kp (bi_law_is_label T) (da_cons (de_ix (de_var 0) de_int) da_nil) (hlen := (alen_cons (fun _ _ _ _ => alen_nil)))))))))) (dss_one (ds_ret de_bl)) dss_nil)
    (dss_one (ds_ret (de_and (de_call (ok_law_is_whole T) cg.gd (cg.room.mono (by decide)) (takes_of rfl rfl rfl rfl) T.g_law_is_whole T.F_law_is_whole.kp (bi_law_is_whole T) (da_cons (de_ix (de_var 0) de_int) (da_cons de_int da_nil)) (hlen := (alen_cons ((alen_cons (fun _ _ _ _ => alen_nil)))))) (de_and (de_cmp od_lt (de_ix (de_var 0) de_int) (de_bin od_add (de_bin od_pow de_int de_int) de_int)) (de_one (de_call (ok_law_is_whole T) cg.gd (cg.room.mono (by decide)) (takes_of rfl rfl rfl rfl) T.g_law_is_whole T.F_law_is_whole.kp (bi_law_is_whole T) (da_cons (de_ix (de_var 0) de_int) (da_cons de_int da_nil)) (hlen := (alen_cons ((alen_cons (fun _ _ _ _ => alen_nil)))))))))))
theorem bi_law_edge (T : Top K mg) : Binds K T.d_law_edge ["_law_pot_here"] [] := T.F_law_edge.binds fun _ _ _ _ _ _ us hl => match us, hl with | [_], _ => rfl
theorem ok_law_edge (T : Top K mg) : FnG P w K mg base G 3 T.a_law_edge T.d_law_edge ["_law_pot_here"] den_law_edge := Fng T.F_law_edge sc_law_edge fun cdv A outer s H E cg => dss_one (ds_ret (de_call (ok_law_among T) cg.gd (cg.room.mono (by decide)) (takes_of rfl rfl rfl rfl) T.g_law_among T.F_law_among.kp (bi_law_among T) (da_cons (de_var 0) (da_cons (de_lst (da_cons de_int (da_cons de_int (da_cons de_int (da_cons (de_un od_neg de_int) (da_cons (de_bin od_pow de_int de_int) (da_cons (de_bin od_add (de_bin od_pow de_int de_int) de_int) (da_cons de_bl (da_cons de_bl (da_cons (de_bin od_pow de_int de_int) (da_cons (de_bin od_sub de_int de_int) (da_cons de_non (da_cons de_str da_nil))))))))))))) da_nil)) (hlen := (alen_cons ((alen_cons (fun _ _ _ _ => alen_nil)))))))
theorem bi_law_near (T : Top K mg) : Binds K T.d_law_near ["_law_pot_here", "_law_jar"] [] := T.F_law_near.binds fun _ _ _ _ _ _ us hl => match us, hl with | [_, _], _ => rfl
theorem ok_law_near (T : Top K mg) : FnG P w K mg base G 4 T.a_law_near T.d_law_near ["_law_pot_here", "_law_jar"] den_law_near := Fng T.F_law_near sc_law_near fun cdv A outer s H E cg => dss_cons (ds_asg (de_var 1) (dg_tup rfl (dgs_cons (dg_name (ws := [2, 3, 4]) 2 sc_law_near.nd) (dgs_cons (dg_name (ws := [2, 3, 4]) 3 sc_law_near.nd) (dgs_cons (dg_name (ws := [2, 3, 4]) 4 sc_law_near.nd) dgs_nil)))))
    (dss_cons (ds_asg (de_lst (da_cons (de_bin od_add (de_var 2) (de_bin od_mul de_str de_int)) (da_cons (de_slice mk1L (de_var 2) (do_some de_int) do_none) (da_cons (de_bm0 md_upper (de_var 2) PySem.F.plainAttrs_str PySem.F.slot_str_upper PySem.F.type_str_upper) (da_cons (de_bin od_add (de_var 2) de_str) (da_cons (de_bin od_add de_str (de_var 2)) (da_cons (de_tup (da_cons (de_var 2) da_nil)) (da_cons (de_lst (da_cons (de_var 2) da_nil)) (da_cons (de_bin od_add (de_var 2) (de_var 2)) da_nil))))))))) (dg_name (ws := [5]) 5 sc_law_near.nd))
    (dss_cons (ds_asg (de_call (ok_law_among T) cg.gd (cg.room.mono (by decide)) (takes_of rfl rfl rfl rfl) T.g_law_among T.F_law_among.kp (bi_law_among T) (da_cons (de_var 0) (da_cons (de_bin od_add (de_var 5) (de_lst (da_cons (de_bin od_add (de_var 2) de_str) (da_cons (de_bin od_add (de_slice mk1L (de_var 2) do_none (do_some de_int)) de_str) (da_cons (de_call (ok_law_odd T) cg.gd (cg.room.mono (by decide)) (takes_of rfl rfl rfl rfl) T.g_law_odd T.F_law_odd.kp (bi_law_odd T) (da_cons (de_var 0) da_nil) (hlen := (alen_cons (fun _ _ _ _ => alen_nil)))) da_nil))))) da_nil)) (hlen := (alen_cons ((alen_cons (fun _ _ _ _ => alen_nil)))))) (dg_name (ws := [6]) 6 sc_law_near.nd))
    (dss_cons (ds_asg (de_lst (da_cons (de_tup (da_cons (de_var 6) (da_cons (de_var 3) (da_cons (de_var 4) da_nil)))) (da_cons (de_tup (da_cons (de_var 2) (da_cons (de_call (ok_law_edge T) cg.gd (cg.room.mono (by decide)) (takes_of rfl rfl rfl rfl) T.g_law_edge T.F_law_edge.kp (bi_law_edge T) (da_cons (de_var 0) da_nil) (hlen := (alen_cons (fun _ _ _ _ => alen_nil)))) (da_cons (de_var 4) da_nil)))) (da_cons (de_tup (da_cons (de_var 2) (da_cons (de_var 3) (da_cons (de_call (ok_law_edge T) cg.gd (cg.room.mono (by decide)) (takes_of rfl rfl rfl rfl) T.g_law_edge T.F_law_edge.kp (bi_law_edge T) (da_cons (de_var 0) da_nil) (hlen := (alen_cons (fun _ _ _ _ => alen_nil)))) da_nil)))) (da_cons (de_callT (cd_list mk1L) T.z_list bt_list (da_cons (de_var 1) da_nil)) (da_cons (de_slice mk1L (de_var 1) do_none (do_some de_int)) da_nil)))))) (dg_name (ws := [7]) 7 sc_law_near.nd))
    (dss_cons (ds_asg (de_bin od_add (de_var 7) (de_lst (da_cons (de_slice mk1L (de_var 1) (do_some de_int) do_none) (da_cons (de_bin od_add (de_var 1) (de_tup (da_cons de_int da_nil))) (da_cons (de_tup (da_cons (de_var 1) da_nil)) (da_cons (de_tup (da_cons (de_var 3) (da_cons (de_var 2) (da_cons (de_var 4) da_nil)))) (da_cons (de_tup (da_cons (de_var 2) (da_cons (de_var 4) (da_cons (de_var 3) da_nil)))) (da_cons (de_var 1) (da_cons (de_var 6) da_nil))))))))) (dg_name (ws := [7]) 7 sc_law_near.nd))
    (dss_one (ds_ret (de_bin od_add (de_var 7) (de_lst (da_cons (de_call (ok_law_edge T) cg.gd (cg.room.mono (by decide)) (takes_of rfl rfl rfl rfl) T.g_law_edge T.F_law_edge.kp (bi_law_edge T) (da_cons (de_var 0) da_nil) (hlen := (alen_cons (fun _ _ _ _ => alen_nil)))) (da_cons (de_call (ok_law_odd T) cg.gd (cg.room.mono (by decide)) (takes_of rfl rfl rfl rfl) T.g_law_odd T.F_law_odd.kp (bi_law_odd T) (da_cons (de_var 0) da_nil) (hlen := (alen_cons (fun _ _ _ _ => alen_nil)))) da_nil))))))))))
theorem bi_law_are_told (T : Top K mg) : Binds K T.d_law_are_told ["_law_thing"] [] := T.F_law_are_told.binds fun _ _ _ _ _ _ us hl => match us, hl with | [_], _ => rfl
theorem ok_law_are_told (T : Top K mg) : FnG P w K mg base G 4 T.a_law_are_told T.d_law_are_told ["_law_thing"] den_law_are_told := Fng T.F_law_are_told sc_law_are_told fun cdv A outer s H E cg => dss_cons (ds_asg (de_callB (cd_repr cg.gd cg.units) T.z_repr bf_repr (da_cons (de_var 0) da_nil)) (dg_name (ws := [1]) 1 sc_law_are_told.nd))
    (dss_cons (ds_asg (de_lst (da_cons (de_call (okis_name T) cg.gd (cg.room.mono (by decide)) (takes_of rfl rfl rfl rfl) T.gis_name T.Fis_name.kp (biis_name T) (da_cons (de_var 0) da_nil) (hlen := (alen_cons (fun _ _ _ _ => alen_nil)))) (da_cons (de_call (okis_base T) cg.gd (cg.room.mono (by decide)) (takes_of rfl rfl rfl rfl) T.gis_base T.Fis_base.kp (biis_base T) (da_cons (de_var 0) da_nil) (hlen := (alen_cons (fun _ _ _ _ => alen_nil)))) (da_cons (de_call (okis_grains T) cg.gd (cg.room.mono (by decide)) (takes_of rfl rfl rfl rfl) T.gis_grains T.Fis_grains.kp (biis_grains T) (da_cons (de_var 0) da_nil) (hlen := (alen_cons (fun _ _ _ _ => alen_nil)))) (da_cons (de_call (okis_jar T) cg.gd (cg.room.mono (by decide)) (takes_of rfl rfl rfl rfl) T.gis_jar T.Fis_jar.kp (biis_jar T) (da_cons (de_var 0) da_nil) (hlen := (alen_cons (fun _ _ _ _ => alen_nil)))) da_nil))))) (dg_name (ws := [2]) 2 sc_law_are_told.nd))
    (dss_cons (ds_asg (de_and (de_call (ok_law_is_whole T) cg.gd (cg.room.mono (by decide)) (takes_of rfl rfl rfl rfl) T.g_law_is_whole T.F_law_is_whole.kp (bi_law_is_whole T) (da_cons (de_var 0) (da_cons de_int da_nil)) (hlen := (alen_cons ((alen_cons (fun _ _ _ _ => alen_nil)))))) (de_one (de_cmp od_lt (de_var 0) (de_bin od_add (de_bin od_pow de_int de_int) de_int)))) (dg_name (ws := [3]) 3 sc_law_are_told.nd))
    (dss_cons (ds_asg (de_lst (da_cons (de_call (ok_law_is_label T) cg.gd (cg.room.mono (by decide)) (takes_of rfl rfl rfl rfl) T.g_law_is_label T.F_law_is_label.kp (bi_law_is_label T) (da_cons (de_var 0) da_nil) (hlen := (alen_cons (fun _ _ _ _ => alen_nil)))) (da_cons (de_var 3) (da_cons (de_call (ok_law_is_whole T) cg.gd (cg.room.mono (by decide)) (takes_of rfl rfl rfl rfl) T.g_law_is_whole T.F_law_is_whole.kp (bi_law_is_whole T) (da_cons (de_var 0) (da_cons de_int da_nil)) (hlen := (alen_cons ((alen_cons (fun _ _ _ _ => alen_nil)))))) (da_cons (de_call (ok_law_is_one T) cg.gd (cg.room.mono (by decide)) (takes_of rfl rfl rfl rfl) T.g_law_is_one T.F_law_is_one.kp (bi_law_is_one T) (da_cons (de_var 0) da_nil) (hlen := (alen_cons (fun _ _ _ _ => alen_nil)))) da_nil))))) (dg_name (ws := [4]) 4 sc_law_are_told.nd))
    (dss_one (ds_ret (de_and (de_cmp (od_eq cg.units) (de_callB (cd_repr cg.gd cg.units) T.z_repr bf_repr (da_cons (de_var 2) da_nil)) (de_callB (cd_repr cg.gd cg.units) T.z_repr bf_repr (da_cons (de_var 4) da_nil))) (de_one (de_cmp (od_eq cg.units) (de_callB (cd_repr cg.gd cg.units) T.z_repr bf_repr (da_cons (de_var 0) da_nil)) (de_var 1)))))))))
theorem bilaw (T : Top K mg) : Binds K T.dlaw ["_law_script"] [] := T.Flaw.binds fun _ _ _ _ _ _ us hl => match us, hl with | [_], _ => rfl
theorem oklaw (T : Top K mg) : FnG P w K mg base G 5 T.alaw T.dlaw ["_law_script"] denlaw := Fng T.Flaw sclaw fun cdv A outer s H E cg => dss_cons (ds_for (passes_of rfl) rfl (di_range1 T.z_range (da_cons (de_callB (cd_max2 rfl) T.z_max bf_max (da_cons de_int (da_cons (de_callB (cd_min2 rfl) T.z_min bf_min (da_cons de_int (da_cons (de_callB cd_len T.z_len bf_len (da_cons (de_var 0) da_nil)) da_nil))) da_nil))) da_nil)) (dg_name (ws := [1]) 1 sclaw.nd) (dss_cons (ds_asg (de_call (ok_law_pot T) cg.gd (cg.room.mono (by decide)) (takes_of rfl rfl rfl rfl) T.g_law_pot T.F_law_pot.kp (bi_law_pot T) (da_cons (de_var 0) (da_cons (de_var 1) da_nil)) (hlen := (alen_cons ((alen_cons (fun _ _ _ _ => alen_nil)))))) (dg_name (ws := [2]) 2 sclaw.nd))
    (dss_one (ds_for (passes_of rfl) rfl (di_list (de_call (ok_law_row T) cg.gd (cg.room.mono (by decide)) (takes_of rfl rfl rfl rfl) T.g_law_row T.F_law_row.kp (bi_law_row T) (da_cons (de_var 2) (da_cons de_int da_nil)) (hlen := (alen_cons ((alen_cons (fun _ _ _ _ => alen_nil))))))) (dg_name (ws := [3]) 3 sclaw.nd) (dss_one (ds_if (dt_not (dt_val (de_callB (cd_all rfl) T.z_all bf_all (da_cons (de_lc mkaL [("_law_thing", 4)] rfl sclaw.nd (di_list (de_bin od_add (de_callT (cd_list mk1L) T.z_list bt_list (da_cons (de_var 3) da_nil)) (de_call (ok_law_near T) cg.gd (cg.room.mono (by decide)) (takes_of rfl rfl rfl rfl) T.g_law_near T.F_law_near.kp (bi_law_near T) (da_cons (de_var 2) (da_cons (de_var 3) da_nil)) (hlen := (alen_cons ((alen_cons (fun _ _ _ _ => alen_nil)))))))) (blkOk_by (own := [("_law_thing", 4)]) (N := ["_law_script", "_law_k", "_law_pot_here", "_law_jar", "_law_thing"]) (sc := defScope slaw) (by decide +kernel)) (fun _ _ _ _ _ => dg_name (ws := [4]) 4 sclaw.nd) (fun _ _ _ _ _ => dts_nil) (fun _ _ _ _ _ => de_call (ok_law_are_told T) cg.gd (cg.room.mono (by decide)) takes0 T.g_law_are_told T.F_law_are_told.kp (bi_law_are_told T) (da_cons (de_var 4) da_nil) (hlen := (alen_cons (fun _ _ _ _ => alen_nil))))) da_nil)))) (dss_one (ds_ret de_bl)) dss_nil))))))
    (dss_one (ds_ret (de_cmp (od_eq cg.units) (de_callB (cd_repr cg.gd cg.units) T.z_repr bf_repr (da_cons (de_glob T.c_MOST_BASE.choose_spec.1 T.c_MOST_BASE.choose_spec.2 rfl) da_nil)) de_str)))
end
theorem all_mk {l : PySem.W.OpenLaw} {w : World} {K : PySem.W.Frag} {h : Heap} {mg : Str → Option Value} {fa : Addr} (X : K.In h) (Gn : h.Ns mainGlobals mg) (hfa : mg "law" = some (.ref fa))
    {f0 : Addr} {od0 an0 : Option Addr} {sl0 : Array (Option Value)} {oc0 kV0 dc0 pm0 cd0 ct0 : Value}
    (a0 : PySem.W.nsIn K mainGlobals "is_whole" = some (some (.ref f0))) (l0 : K.lookup f0 = some ⟨oc0, od0, .func (PySem.W.fnOf "is_whole" "is_whole" (defArgs sis_whole) (defBody sis_whole) (defScope sis_whole) .none kV0 dc0 pm0 an0 cd0 ct0), sl0⟩) (c0 : PySem.W.codeIn K cd0 "is_whole" = true) (k0 : PySem.W.keepIn K (.ref f0) = true)
    {f1 : Addr} {od1 an1 : Option Addr} {sl1 : Array (Option Value)} {oc1 kV1 dc1 pm1 cd1 ct1 : Value}
    (a1 : PySem.W.nsIn K mainGlobals "is_name" = some (some (.ref f1))) (l1 : K.lookup f1 = some ⟨oc1, od1, .func (PySem.W.fnOf "is_name" "is_name" (defArgs sis_name) (defBody sis_name) (defScope sis_name) .none kV1 dc1 pm1 an1 cd1 ct1), sl1⟩) (c1 : PySem.W.codeIn K cd1 "is_name" = true) (k1 : PySem.W.keepIn K (.ref f1) = true)
    {f2 : Addr} {od2 an2 : Option Addr} {sl2 : Array (Option Value)} {oc2 kV2 dc2 pm2 cd2 ct2 : Value}
    (a2 : PySem.W.nsIn K mainGlobals "is_base" = some (some (.ref f2))) (l2 : K.lookup f2 = some ⟨oc2, od2, .func (PySem.W.fnOf "is_base" "is_base" (defArgs sis_base) (defBody sis_base) (defScope sis_base) .none kV2 dc2 pm2 an2 cd2 ct2), sl2⟩) (c2 : PySem.W.codeIn K cd2 "is_base" = true) (k2 : PySem.W.keepIn K (.ref f2) = true)
    {f3 : Addr} {od3 an3 : Option Addr} {sl3 : Array (Option Value)} {oc3 kV3 dc3 pm3 cd3 ct3 : Value}
    (a3 : PySem.W.nsIn K mainGlobals "is_grains" = some (some (.ref f3))) (l3 : K.lookup f3 = some ⟨oc3, od3, .func (PySem.W.fnOf "is_grains" "is_grains" (defArgs sis_grains) (defBody sis_grains) (defScope sis_grains) .none kV3 dc3 pm3 an3 cd3 ct3), sl3⟩) (c3 : PySem.W.codeIn K cd3 "is_grains" = true) (k3 : PySem.W.keepIn K (.ref f3) = true)
    {f4 : Addr} {od4 an4 : Option Addr} {sl4 : Array (Option Value)} {oc4 kV4 dc4 pm4 cd4 ct4 : Value}
    (a4 : PySem.W.nsIn K mainGlobals "is_jar" = some (some (.ref f4))) (l4 : K.lookup f4 = some ⟨oc4, od4, .func (PySem.W.fnOf "is_jar" "is_jar" (defArgs sis_jar) (defBody sis_jar) (defScope sis_jar) .none kV4 dc4 pm4 an4 cd4 ct4), sl4⟩) (c4 : PySem.W.codeIn K cd4 "is_jar" = true) (k4 : PySem.W.keepIn K (.ref f4) = true)
    {f5 : Addr} {od5 an5 : Option Addr} {sl5 : Array (Option Value)} {oc5 kV5 dc5 pm5 cd5 ct5 : Value}
    (a5 : PySem.W.nsIn K mainGlobals "_law_pot" = some (some (.ref f5))) (l5 : K.lookup f5 = some ⟨oc5, od5, .func (PySem.W.fnOf "_law_pot" "_law_pot" (defArgs s_law_pot) (defBody s_law_pot) (defScope s_law_pot) .none kV5 dc5 pm5 an5 cd5 ct5), sl5⟩) (c5 : PySem.W.codeIn K cd5 "_law_pot" = true) (k5 : PySem.W.keepIn K (.ref f5) = true)
    {f6 : Addr} {od6 an6 : Option Addr} {sl6 : Array (Option Value)} {oc6 kV6 dc6 pm6 cd6 ct6 : Value}
    (a6 : PySem.W.nsIn K mainGlobals "_law_take" = some (some (.ref f6))) (l6 : K.lookup f6 = some ⟨oc6, od6, .func (PySem.W.fnOf "_law_take" "_law_take" (defArgs s_law_take) (defBody s_law_take) (defScope s_law_take) .none kV6 dc6 pm6 an6 cd6 ct6), sl6⟩) (c6 : PySem.W.codeIn K cd6 "_law_take" = true) (k6 : PySem.W.keepIn K (.ref f6) = true)
    {f7 : Addr} {od7 an7 : Option Addr} {sl7 : Array (Option Value)} {oc7 kV7 dc7 pm7 cd7 ct7 : Value}
    (a7 : PySem.W.nsIn K mainGlobals "_law_among" = some (some (.ref f7))) (l7 : K.lookup f7 = some ⟨oc7, od7, .func (PySem.W.fnOf "_law_among" "_law_among" (defArgs s_law_among) (defBody s_law_among) (defScope s_law_among) .none kV7 dc7 pm7 an7 cd7 ct7), sl7⟩) (c7 : PySem.W.codeIn K cd7 "_law_among" = true) (k7 : PySem.W.keepIn K (.ref f7) = true)
    {f8 : Addr} {od8 an8 : Option Addr} {sl8 : Array (Option Value)} {oc8 kV8 dc8 pm8 cd8 ct8 : Value}
    (a8 : PySem.W.nsIn K mainGlobals "_law_label" = some (some (.ref f8))) (l8 : K.lookup f8 = some ⟨oc8, od8, .func (PySem.W.fnOf "_law_label" "_law_label" (defArgs s_law_label) (defBody s_law_label) (defScope s_law_label) .none kV8 dc8 pm8 an8 cd8 ct8), sl8⟩) (c8 : PySem.W.codeIn K cd8 "_law_label" = true) (k8 : PySem.W.keepIn K (.ref f8) = true)
    {f9 : Addr} {od9 an9 : Option Addr} {sl9 : Array (Option Value)} {oc9 kV9 dc9 pm9 cd9 ct9 : Value}
    (a9 : PySem.W.nsIn K mainGlobals "_law_size" = some (some (.ref f9))) (l9 : K.lookup f9 = some ⟨oc9, od9, .func (PySem.W.fnOf "_law_size" "_law_size" (defArgs s_law_size) (defBody s_law_size) (defScope s_law_size) .none kV9 dc9 pm9 an9 cd9 ct9), sl9⟩) (c9 : PySem.W.codeIn K cd9 "_law_size" = true) (k9 : PySem.W.keepIn K (.ref f9) = true)
    {f10 : Addr} {od10 an10 : Option Addr} {sl10 : Array (Option Value)} {oc10 kV10 dc10 pm10 cd10 ct10 : Value}
    (a10 : PySem.W.nsIn K mainGlobals "_law_heap" = some (some (.ref f10))) (l10 : K.lookup f10 = some ⟨oc10, od10, .func (PySem.W.fnOf "_law_heap" "_law_heap" (defArgs s_law_heap) (defBody s_law_heap) (defScope s_law_heap) .none kV10 dc10 pm10 an10 cd10 ct10), sl10⟩) (c10 : PySem.W.codeIn K cd10 "_law_heap" = true) (k10 : PySem.W.keepIn K (.ref f10) = true)
    {f11 : Addr} {od11 an11 : Option Addr} {sl11 : Array (Option Value)} {oc11 kV11 dc11 pm11 cd11 ct11 : Value}
    (a11 : PySem.W.nsIn K mainGlobals "_law_row" = some (some (.ref f11))) (l11 : K.lookup f11 = some ⟨oc11, od11, .func (PySem.W.fnOf "_law_row" "_law_row" (defArgs s_law_row) (defBody s_law_row) (defScope s_law_row) .none kV11 dc11 pm11 an11 cd11 ct11), sl11⟩) (c11 : PySem.W.codeIn K cd11 "_law_row" = true) (k11 : PySem.W.keepIn K (.ref f11) = true)
    {f12 : Addr} {od12 an12 : Option Addr} {sl12 : Array (Option Value)} {oc12 kV12 dc12 pm12 cd12 ct12 : Value}
    (a12 : PySem.W.nsIn K mainGlobals "_law_odd" = some (some (.ref f12))) (l12 : K.lookup f12 = some ⟨oc12, od12, .func (PySem.W.fnOf "_law_odd" "_law_odd" (defArgs s_law_odd) (defBody s_law_odd) (defScope s_law_odd) .none kV12 dc12 pm12 an12 cd12 ct12), sl12⟩) (c12 : PySem.W.codeIn K cd12 "_law_odd" = true) (k12 : PySem.W.keepIn K (.ref f12) = true)
    {f13 : Addr} {od13 an13 : Option Addr} {sl13 : Array (Option Value)} {oc13 kV13 dc13 pm13 cd13 ct13 : Value}
    (a13 : PySem.W.nsIn K mainGlobals "_law_is_label" = some (some (.ref f13))) (l13 : K.lookup f13 = some ⟨oc13, od13, .func (PySem.W.fnOf "_law_is_label" "_law_is_label" (defArgs s_law_is_label) (defBody s_law_is_label) (defScope s_law_is_label) .none kV13 dc13 pm13 an13 cd13 ct13), sl13⟩) (c13 : PySem.W.codeIn K cd13 "_law_is_label" = true) (k13 : PySem.W.keepIn K (.ref f13) = true)
    {f14 : Addr} {od14 an14 : Option Addr} {sl14 : Array (Option Value)} {oc14 kV14 dc14 pm14 cd14 ct14 : Value}
    (a14 : PySem.W.nsIn K mainGlobals "_law_is_whole" = some (some (.ref f14))) (l14 : K.lookup f14 = some ⟨oc14, od14, .func (PySem.W.fnOf "_law_is_whole" "_law_is_whole" (defArgs s_law_is_whole) (defBody s_law_is_whole) (defScope s_law_is_whole) .none kV14 dc14 pm14 an14 cd14 ct14), sl14⟩) (c14 : PySem.W.codeIn K cd14 "_law_is_whole" = true) (k14 : PySem.W.keepIn K (.ref f14) = true)
    {f15 : Addr} {od15 an15 : Option Addr} {sl15 : Array (Option Value)} {oc15 kV15 dc15 pm15 cd15 ct15 : Value}
    (a15 : PySem.W.nsIn K mainGlobals "_law_is_one" = some (some (.ref f15))) (l15 : K.lookup f15 = some ⟨oc15, od15, .func (PySem.W.fnOf "_law_is_one" "_law_is_one" (defArgs s_law_is_one) (defBody s_law_is_one) (defScope s_law_is_one) .none kV15 dc15 pm15 an15 cd15 ct15), sl15⟩) (c15 : PySem.W.codeIn K cd15 "_law_is_one" = true) (k15 : PySem.W.keepIn K (.ref f15) = true)
    {f16 : Addr} {od16 an16 : Option Addr} {sl16 : Array (Option Value)} {oc16 kV16 dc16 pm16 cd16 ct16 : Value}
    (a16 : PySem.W.nsIn K mainGlobals "_law_edge" = some (some (.ref f16))) (l16 : K.lookup f16 = some ⟨oc16, od16, .func (PySem.W.fnOf "_law_edge" "_law_edge" (defArgs s_law_edge) (defBody s_law_edge) (defScope s_law_edge) .none kV16 dc16 pm16 an16 cd16 ct16), sl16⟩) (c16 : PySem.W.codeIn K cd16 "_law_edge" = true) (k16 : PySem.W.keepIn K (.ref f16) = true)
    {f17 : Addr} {od17 an17 : Option Addr} {sl17 : Array (Option Value)} {oc17 kV17 dc17 pm17 cd17 ct17 : Value}
    (a17 : PySem.W.nsIn K mainGlobals "_law_near" = some (some (.ref f17))) (l17 : K.lookup f17 = some ⟨oc17, od17, .func (PySem.W.fnOf "_law_near" "_law_near" (defArgs s_law_near) (defBody s_law_near) (defScope s_law_near) .none kV17 dc17 pm17 an17 cd17 ct17), sl17⟩) (c17 : PySem.W.codeIn K cd17 "_law_near" = true) (k17 : PySem.W.keepIn K (.ref f17) = true)
    {f18 : Addr} {od18 an18 : Option Addr} {sl18 : Array (Option Value)} {oc18 kV18 dc18 pm18 cd18 ct18 : Value}
    (a18 : PySem.W.nsIn K mainGlobals "_law_are_told" = some (some (.ref f18))) (l18 : K.lookup f18 = some ⟨oc18, od18, .func (PySem.W.fnOf "_law_are_told" "_law_are_told" (defArgs s_law_are_told) (defBody s_law_are_told) (defScope s_law_are_told) .none kV18 dc18 pm18 an18 cd18 ct18), sl18⟩) (c18 : PySem.W.codeIn K cd18 "_law_are_told" = true) (k18 : PySem.W.keepIn K (.ref f18) = true)
    {f19 : Addr} {od19 an19 : Option Addr} {sl19 : Array (Option Value)} {oc19 kV19 dc19 pm19 cd19 ct19 : Value}
    (a19 : PySem.W.nsIn K mainGlobals "law" = some (some (.ref f19))) (l19 : K.lookup f19 = some ⟨oc19, od19, .func (PySem.W.fnOf "law" "law" (defArgs slaw) (defBody slaw) (defScope slaw) .none kV19 dc19 pm19 an19 cd19 ct19), sl19⟩) (c19 : PySem.W.codeIn K cd19 "law" = true) (k19 : PySem.W.keepIn K (.ref f19) = true)
    (z0 : PySem.W.nsIn K mainGlobals "abs" = some none)
    (z1 : PySem.W.nsIn K mainGlobals "all" = some none)
    (z2 : PySem.W.nsIn K mainGlobals "bool" = some none)
    (z3 : PySem.W.nsIn K mainGlobals "divmod" = some none)
    (z4 : PySem.W.nsIn K mainGlobals "int" = some none)
    (z5 : PySem.W.nsIn K mainGlobals "isinstance" = some none)
    (z6 : PySem.W.nsIn K mainGlobals "len" = some none)
    (z7 : PySem.W.nsIn K mainGlobals "list" = some none)
    (z8 : PySem.W.nsIn K mainGlobals "max" = some none)
    (z9 : PySem.W.nsIn K mainGlobals "min" = some none)
    (z10 : PySem.W.nsIn K mainGlobals "range" = some none)
    (z11 : PySem.W.nsIn K mainGlobals "repr" = some none)
    (z12 : PySem.W.nsIn K mainGlobals "str" = some none)
    (z13 : PySem.W.nsIn K mainGlobals "tuple" = some none)
    {t0 : Tok} (x0 : PySem.W.nsIn K mainGlobals "LEAST_BASE" = some (some (.int 2 t0)))
    {t1 : Tok} (x1 : PySem.W.nsIn K mainGlobals "LETTERS" = some (some (.str "abcdefghijklmnopqrstuvwxyz" t1)))
    {t2 : Tok} (x2 : PySem.W.nsIn K mainGlobals "MOST_BASE" = some (some (.int 1000000 t2)))
    {t3 : Tok} (x3 : PySem.W.nsIn K mainGlobals "MOST_LETTERS" = some (some (.int 8 t3)))
    : ∃ (G : Nat → Addr) (fd : FuncData), (∀ (s : Shared) (u : Value), BindsTo s fd ⟨[u], []⟩ [("_law_script", u)]) ∧ ∀ base : Heap, K.In base → base.Ns mainGlobals mg → FnG l.prog w K mg base G 5 fa fd ["_law_script"] denlaw := by
  have e : fa = f19 := by
    have q := Option.some.inj (hfa.symm.trans (PySem.W.mg_of X Gn a19))
    injection q
  have T : {T : Top K mg // T.alaw = f19 ∧ T.dlaw = PySem.W.fnOf "law" "law" (defArgs slaw) (defBody slaw) (defScope slaw) .none kV19 dc19 pm19 an19 cd19 ct19} := ⟨⟨f0, _, (fun_mk (st := sis_whole) l0 c0 k0), (PySem.W.mg_of X Gn a0), f1, _, (fun_mk (st := sis_name) l1 c1 k1), (PySem.W.mg_of X Gn a1), f2, _, (fun_mk (st := sis_base) l2 c2 k2), (PySem.W.mg_of X Gn a2), f3, _, (fun_mk (st := sis_grains) l3 c3 k3), (PySem.W.mg_of X Gn a3), f4, _, (fun_mk (st := sis_jar) l4 c4 k4), (PySem.W.mg_of X Gn a4), f5, _, (fun_mk (st := s_law_pot) l5 c5 k5), (PySem.W.mg_of X Gn a5), f6, _, (fun_mk (st := s_law_take) l6 c6 k6), (PySem.W.mg_of X Gn a6), f7, _, (fun_mk (st := s_law_among) l7 c7 k7), (PySem.W.mg_of X Gn a7), f8, _, (fun_mk (st := s_law_label) l8 c8 k8), (PySem.W.mg_of X Gn a8), f9, _, (fun_mk (st := s_law_size) l9 c9 k9), (PySem.W.mg_of X Gn a9), f10, _, (fun_mk (st := s_law_heap) l10 c10 k10), (PySem.W.mg_of X Gn a10), f11, _, (fun_mk (st := s_law_row) l11 c11 k11), (PySem.W.mg_of X Gn a11), f12, _, (fun_mk (st := s_law_odd) l12 c12 k12), (PySem.W.mg_of X Gn a12), f13, _, (fun_mk (st := s_law_is_label) l13 c13 k13), (PySem.W.mg_of X Gn a13), f14, _, (fun_mk (st := s_law_is_whole) l14 c14 k14), (PySem.W.mg_of X Gn a14), f15, _, (fun_mk (st := s_law_is_one) l15 c15 k15), (PySem.W.mg_of X Gn a15), f16, _, (fun_mk (st := s_law_edge) l16 c16 k16), (PySem.W.mg_of X Gn a16), f17, _, (fun_mk (st := s_law_near) l17 c17 k17), (PySem.W.mg_of X Gn a17), f18, _, (fun_mk (st := s_law_are_told) l18 c18 k18), (PySem.W.mg_of X Gn a18), f19, _, (fun_mk (st := slaw) l19 c19 k19), (PySem.W.mg_of X Gn a19), (PySem.W.mg_none_of X Gn z0), (PySem.W.mg_none_of X Gn z1), (PySem.W.mg_none_of X Gn z2), (PySem.W.mg_none_of X Gn z3), (PySem.W.mg_none_of X Gn z4), (PySem.W.mg_none_of X Gn z5), (PySem.W.mg_none_of X Gn z6), (PySem.W.mg_none_of X Gn z7), (PySem.W.mg_none_of X Gn z8), (PySem.W.mg_none_of X Gn z9), (PySem.W.mg_none_of X Gn z10), (PySem.W.mg_none_of X Gn z11), (PySem.W.mg_none_of X Gn z12), (PySem.W.mg_none_of X Gn z13), ⟨_, PySem.W.mg_of X Gn x0, ⟨_, rfl⟩⟩, ⟨_, PySem.W.mg_of X Gn x1, ⟨_, rfl⟩⟩, ⟨_, PySem.W.mg_of X Gn x2, ⟨_, rfl⟩⟩, ⟨_, PySem.W.mg_of X Gn x3, ⟨_, rfl⟩⟩⟩, rfl, rfl⟩
  obtain ⟨T, e1, e2⟩ := T
  exact ⟨fun _ => 0, PySem.W.fnOf "law" "law" (defArgs slaw) (defBody slaw) (defScope slaw) .none kV19 dc19 pm19 an19 cd19 ct19, fun s v => .of_eq rfl, fun base _ _ => by rw [e, ← e1, ← e2]; exact oklaw T⟩
end K11

namespace K11
open PySem PySem.Spec PyProof.Rows L2 Den
/-! ### the pot -/
def pc (a b : Int) : Cell := .lst [.int a, .int b]
def Gd (a b : Int) : Prop := 0 ≤ a ∧ 0 ≤ b ∧ b < 2 ^ 33
theorem set_pc0 {C : Store} {p : Nat} {a b : Int} {v : Int} (hp : p < C.length) : setD (.cell p) (.int 0) (.int v) (C.set p (pc a b)) = some (C.set p (pc v b)) := by
  have e : (C.set p (pc a b))[p]? = some (.lst [.int a, .int b]) := by simp [hp, pc]
  simp only [setD, lstCell, e]
  show some ((C.set p (pc a b)).set p (.lst [.int v, .int b])) = _
  rw [List.set_set]; rfl
theorem set_pc1 {C : Store} {p : Nat} {a b : Int} {v : Int} (hp : p < C.length) : setD (.cell p) (.int 1) (.int v) (C.set p (pc a b)) = some (C.set p (pc a v)) := by
  have e : (C.set p (pc a b))[p]? = some (.lst [.int a, .int b]) := by simp [hp, pc]
  simp only [setD, lstCell, e]
  show some ((C.set p (pc a b)).set p (.lst [.int a, .int v])) = _
  rw [List.set_set]; rfl
theorem take_wp {C : Store} {p : Nat} {a b n : Int} {Q : D → Store → Prop} {E : Xc → Store → Prop} (hp : p < C.length) (g : Gd a b) (hn : divOk n = true)
    (nx : ∀ k a' b', 0 ≤ k → k < n → Gd a' b' → Q (.int k) (C.set p (pc a' b'))) : (den_law_take [.cell p, .int n] (C.set p (pc a b))).wp Q E := by
  obtain ⟨g1, g2, g3⟩ := g
  have hn0 := divOk_pos hn
  unfold den_law_take
  have hlen : ∀ c, (C.set p c).length = C.length := fun c => List.length_set
  have hout : ∀ c c' d, (outD true (C.set p c) d (C.set p c')).wp Q E = Q d (C.set p c') := fun c c' d => wp_outD_same (by rw [hlen, hlen])
  have i0 : ∀ a b, ixD (.cell p) (.int 0) (C.set p (pc a b)) = .ok (.int a) (C.set p (pc a b)) := fun a b => ix_cell (xs := [.int a, .int b]) (by simp [hp, pc]) rfl
  have i1 : ∀ a b, ixD (.cell p) (.int 1) (C.set p (pc a b)) = .ok (.int b) (C.set p (pc a b)) := fun a b => ix_cell (xs := [.int a, .int b]) (by simp [hp, pc]) rfl
  have m1 : mulOk b 48271 = true := mulOk_of (by omega) (by decide)
  try simp only [Den.envOf, List.map_cons, List.map_nil, List.length_cons, List.length_nil, List.replicate, List.cons_append, List.nil_append, List.append_nil, Nat.reduceAdd, Nat.reduceSub, Nat.zero_add, Nat.add_zero, wp_sSeq, wp_fnD, wp_ok, wp_next, wp_ret, wp_ite, wp_ites, outP_ret, wp_sIf, wp_sRet, wp_sRetN, wp_sAsg, wp_sExpr, wp_sNext, wp_sFor, wp_sPar, par2_ok, wp_tOf, wp_tOr, wp_tAnd, wp_tNot, wp_tYes, wp_eBin, wp_eVar0, wp_eVars, wp_eK, wp_eUn, wp_eArgs, wp_aCons, wp_aNil, wp_eAnd, wp_eOr, wp_eNot, wp_eIf, wp_eChain, wp_eSl, wp_eM, wp_oSome, wp_oNone, wp_eFrz, wp_eLc, wp_iL, wp_iT, wp_iS, wp_iR1, gwp_N, gwp_nil, gwp_cons, gwp_T, gwp_sub, List.set_cons_zero, List.set_cons_succ, Bool.not_true, Bool.not_false, Bool.false_eq_true, if_true, if_false, cmp_ii, neg_i, add_ii, sub_ii, decide_eq_true_eq, Nat.reduceLeDiff, Nat.reduceEqDiff, D.bl.injEq, D.int.injEq, D.str.injEq, D.tup.injEq, D.lst.injEq, exists_eq_left', exists_eq_left, true_and, and_true, Option.some.injEq, List.cons.injEq, eq_self, reduceCtorEq, or_false, false_or, false_and, and_false, and_self, mkL_ok, mkT_ok, mkC_ok, le_size, wipeD, len_lst, len_ro, len_tup, Den.len_str, okL_ok, tyChk_str, Den.sl_tup, list_tup, max_ii, min_ii, abs_i, i0]
  split
  · try simp only [Den.envOf, List.map_cons, List.map_nil, List.length_cons, List.length_nil, List.replicate, List.cons_append, List.nil_append, List.append_nil, Nat.reduceAdd, Nat.reduceSub, Nat.zero_add, Nat.add_zero, wp_sSeq, wp_fnD, wp_ok, wp_next, wp_ret, wp_ite, wp_ites, outP_ret, wp_sIf, wp_sRet, wp_sRetN, wp_sAsg, wp_sExpr, wp_sNext, wp_sFor, wp_sPar, par2_ok, wp_tOf, wp_tOr, wp_tAnd, wp_tNot, wp_tYes, wp_eBin, wp_eVar0, wp_eVars, wp_eK, wp_eUn, wp_eArgs, wp_aCons, wp_aNil, wp_eAnd, wp_eOr, wp_eNot, wp_eIf, wp_eChain, wp_eSl, wp_eM, wp_oSome, wp_oNone, wp_eFrz, wp_eLc, wp_iL, wp_iT, wp_iS, wp_iR1, gwp_N, gwp_nil, gwp_cons, gwp_T, gwp_sub, List.set_cons_zero, List.set_cons_succ, Bool.not_true, Bool.not_false, Bool.false_eq_true, if_true, if_false, cmp_ii, neg_i, add_ii, sub_ii, decide_eq_true_eq, Nat.reduceLeDiff, Nat.reduceEqDiff, D.bl.injEq, D.int.injEq, D.str.injEq, D.tup.injEq, D.lst.injEq, exists_eq_left', exists_eq_left, true_and, and_true, Option.some.injEq, List.cons.injEq, eq_self, reduceCtorEq, or_false, false_or, false_and, and_false, and_self, mkL_ok, mkT_ok, mkC_ok, le_size, wipeD, len_lst, len_ro, len_tup, Den.len_str, okL_ok, tyChk_str, Den.sl_tup, list_tup, max_ii, min_ii, abs_i, divmod_ii hn, set_pc0 hp, hout]
    exact nx _ _ _ (Int.emod_nonneg _ (by omega)) (Int.emod_lt_of_pos _ hn0) ⟨Int.ediv_nonneg g1 (by omega), g2, g3⟩
  · have hb0 : 0 ≤ (b * 48271 + 12347) % 2147483647 := Int.emod_nonneg _ (by decide)
    have hb1 : (b * 48271 + 12347) % 2147483647 < 2147483647 := Int.emod_lt_of_pos _ (by decide)
    have m2 : mulOk ((b * 48271 + 12347) % 2147483647) ((b * 48271 + 12347) % 2147483647) = true := mulOk_of (by omega) (by omega)
    try simp only [Den.envOf, List.map_cons, List.map_nil, List.length_cons, List.length_nil, List.replicate, List.cons_append, List.nil_append, List.append_nil, Nat.reduceAdd, Nat.reduceSub, Nat.zero_add, Nat.add_zero, wp_sSeq, wp_fnD, wp_ok, wp_next, wp_ret, wp_ite, wp_ites, outP_ret, wp_sIf, wp_sRet, wp_sRetN, wp_sAsg, wp_sExpr, wp_sNext, wp_sFor, wp_sPar, par2_ok, wp_tOf, wp_tOr, wp_tAnd, wp_tNot, wp_tYes, wp_eBin, wp_eVar0, wp_eVars, wp_eK, wp_eUn, wp_eArgs, wp_aCons, wp_aNil, wp_eAnd, wp_eOr, wp_eNot, wp_eIf, wp_eChain, wp_eSl, wp_eM, wp_oSome, wp_oNone, wp_eFrz, wp_eLc, wp_iL, wp_iT, wp_iS, wp_iR1, gwp_N, gwp_nil, gwp_cons, gwp_T, gwp_sub, List.set_cons_zero, List.set_cons_succ, Bool.not_true, Bool.not_false, Bool.false_eq_true, if_true, if_false, cmp_ii, neg_i, add_ii, sub_ii, decide_eq_true_eq, Nat.reduceLeDiff, Nat.reduceEqDiff, D.bl.injEq, D.int.injEq, D.str.injEq, D.tup.injEq, D.lst.injEq, exists_eq_left', exists_eq_left, true_and, and_true, Option.some.injEq, List.cons.injEq, eq_self, reduceCtorEq, or_false, false_or, false_and, and_false, and_self, mkL_ok, mkT_ok, mkC_ok, le_size, wipeD, len_lst, len_ro, len_tup, Den.len_str, okL_ok, tyChk_str, Den.sl_tup, list_tup, max_ii, min_ii, abs_i, i1, mul_ii m1, mod_ii (show (0 : Int) < 2147483647 by decide), set_pc1 hp]
    try simp only [Den.envOf, List.map_cons, List.map_nil, List.length_cons, List.length_nil, List.replicate, List.cons_append, List.nil_append, List.append_nil, Nat.reduceAdd, Nat.reduceSub, Nat.zero_add, Nat.add_zero, wp_sSeq, wp_fnD, wp_ok, wp_next, wp_ret, wp_ite, wp_ites, outP_ret, wp_sIf, wp_sRet, wp_sRetN, wp_sAsg, wp_sExpr, wp_sNext, wp_sFor, wp_sPar, par2_ok, wp_tOf, wp_tOr, wp_tAnd, wp_tNot, wp_tYes, wp_eBin, wp_eVar0, wp_eVars, wp_eK, wp_eUn, wp_eArgs, wp_aCons, wp_aNil, wp_eAnd, wp_eOr, wp_eNot, wp_eIf, wp_eChain, wp_eSl, wp_eM, wp_oSome, wp_oNone, wp_eFrz, wp_eLc, wp_iL, wp_iT, wp_iS, wp_iR1, gwp_N, gwp_nil, gwp_cons, gwp_T, gwp_sub, List.set_cons_zero, List.set_cons_succ, Bool.not_true, Bool.not_false, Bool.false_eq_true, if_true, if_false, cmp_ii, neg_i, add_ii, sub_ii, decide_eq_true_eq, Nat.reduceLeDiff, Nat.reduceEqDiff, D.bl.injEq, D.int.injEq, D.str.injEq, D.tup.injEq, D.lst.injEq, exists_eq_left', exists_eq_left, true_and, and_true, Option.some.injEq, List.cons.injEq, eq_self, reduceCtorEq, or_false, false_or, false_and, and_false, and_self, mkL_ok, mkT_ok, mkC_ok, le_size, wipeD, len_lst, len_ro, len_tup, Den.len_str, okL_ok, tyChk_str, Den.sl_tup, list_tup, max_ii, min_ii, abs_i, i1, mul_ii m2, mod_ii (show (0 : Int) < 2147483579 by decide), fdiv_ii (show divOk 13 = true by decide), mod_ii hn0, hout]
    exact nx _ _ _ (Int.emod_nonneg _ (by omega)) (Int.emod_lt_of_pos _ hn0) ⟨g1, hb0, by omega⟩
theorem among_wp {C : Store} {p : Nat} {a b : Int} {xs : List D} {Q : D → Store → Prop} {E : Xc → Store → Prop} (hp : p < C.length) (g : Gd a b) (h0 : xs ≠ []) (h1 : xs.length ≤ 1000)
    (nx : ∀ d a' b', d ∈ xs → Gd a' b' → Q d (C.set p (pc a' b'))) : (den_law_among [.cell p, .lst xs] (C.set p (pc a b))).wp Q E := by
  unfold den_law_among
  have hx : 0 < xs.length := List.length_pos_iff.mpr h0
  have hlen : ∀ c, (C.set p c).length = C.length := fun c => List.length_set
  have hout : ∀ c c' d, (outD true (C.set p c) d (C.set p c')).wp Q E = Q d (C.set p c') := fun c c' d => wp_outD_same (by rw [hlen, hlen])
  try simp only [Den.envOf, List.map_cons, List.map_nil, List.length_cons, List.length_nil, List.replicate, List.cons_append, List.nil_append, List.append_nil, Nat.reduceAdd, Nat.reduceSub, Nat.zero_add, Nat.add_zero, wp_sSeq, wp_fnD, wp_ok, wp_next, wp_ret, wp_ite, wp_ites, outP_ret, wp_sIf, wp_sRet, wp_sRetN, wp_sAsg, wp_sExpr, wp_sNext, wp_sFor, wp_sPar, par2_ok, wp_tOf, wp_tOr, wp_tAnd, wp_tNot, wp_tYes, wp_eBin, wp_eVar0, wp_eVars, wp_eK, wp_eUn, wp_eArgs, wp_aCons, wp_aNil, wp_eAnd, wp_eOr, wp_eNot, wp_eIf, wp_eChain, wp_eSl, wp_eM, wp_oSome, wp_oNone, wp_eFrz, wp_eLc, wp_iL, wp_iT, wp_iS, wp_iR1, gwp_N, gwp_nil, gwp_cons, gwp_T, gwp_sub, List.set_cons_zero, List.set_cons_succ, Bool.not_true, Bool.not_false, Bool.false_eq_true, if_true, if_false, cmp_ii, neg_i, add_ii, sub_ii, decide_eq_true_eq, Nat.reduceLeDiff, Nat.reduceEqDiff, D.bl.injEq, D.int.injEq, D.str.injEq, D.tup.injEq, D.lst.injEq, exists_eq_left', exists_eq_left, true_and, and_true, Option.some.injEq, List.cons.injEq, eq_self, reduceCtorEq, or_false, false_or, false_and, and_false, and_self, mkL_ok, mkT_ok, mkC_ok, le_size, wipeD, len_lst, len_ro, len_tup, Den.len_str, okL_ok, tyChk_str, Den.sl_tup, list_tup, max_ii, min_ii, abs_i, len_lst]
  refine take_wp hp g (divOk_of (by omega) (by simp; exact Nat.lt_of_le_of_lt h1 (by decide))) fun k a' b' k0 k1 g' => ?_
  obtain ⟨d, e, m⟩ := atI_nat (xs := xs) k0 k1
  try simp only [Den.envOf, List.map_cons, List.map_nil, List.length_cons, List.length_nil, List.replicate, List.cons_append, List.nil_append, List.append_nil, Nat.reduceAdd, Nat.reduceSub, Nat.zero_add, Nat.add_zero, wp_sSeq, wp_fnD, wp_ok, wp_next, wp_ret, wp_ite, wp_ites, outP_ret, wp_sIf, wp_sRet, wp_sRetN, wp_sAsg, wp_sExpr, wp_sNext, wp_sFor, wp_sPar, par2_ok, wp_tOf, wp_tOr, wp_tAnd, wp_tNot, wp_tYes, wp_eBin, wp_eVar0, wp_eVars, wp_eK, wp_eUn, wp_eArgs, wp_aCons, wp_aNil, wp_eAnd, wp_eOr, wp_eNot, wp_eIf, wp_eChain, wp_eSl, wp_eM, wp_oSome, wp_oNone, wp_eFrz, wp_eLc, wp_iL, wp_iT, wp_iS, wp_iR1, gwp_N, gwp_nil, gwp_cons, gwp_T, gwp_sub, List.set_cons_zero, List.set_cons_succ, Bool.not_true, Bool.not_false, Bool.false_eq_true, if_true, if_false, cmp_ii, neg_i, add_ii, sub_ii, decide_eq_true_eq, Nat.reduceLeDiff, Nat.reduceEqDiff, D.bl.injEq, D.int.injEq, D.str.injEq, D.tup.injEq, D.lst.injEq, exists_eq_left', exists_eq_left, true_and, and_true, Option.some.injEq, List.cons.injEq, eq_self, reduceCtorEq, or_false, false_or, false_and, and_false, and_self, mkL_ok, mkT_ok, mkC_ok, le_size, wipeD, len_lst, len_ro, len_tup, Den.len_str, okL_ok, tyChk_str, Den.sl_tup, list_tup, max_ii, min_ii, abs_i, ix_lst e, hout]
  exact nx _ _ _ m g'
/-! ### names -/
def Lb (x : Str) : Prop := ∃ cs : List Nat, x = SX.S cs ∧ 1 ≤ cs.length ∧ cs.length ≤ 8 ∧ ∀ c ∈ cs, 97 ≤ c ∧ c ≤ 122
abbrev az : Str := "abcdefghijklmnopqrstuvwxyz"
theorem az_list : az.cps.toList = (List.range 26).map (· + 97) := by decide +kernel
theorem az_mem {c : Nat} : c ∈ az.cps.toList ↔ 97 ≤ c ∧ c ≤ 122 := by
  rw [az_list, List.mem_map]
  constructor
  · rintro ⟨i, hi, rfl⟩; have := List.mem_range.mp hi; omega
  · intro h; exact ⟨c - 97, List.mem_range.mpr (by omega), by omega⟩
theorem az_len : az.length = 26 := by decide +kernel
theorem cutS_to {cs : List Nat} {n : Nat} : cutS (SX.S cs) none (some (n : Int)) = SX.S (cs.take n) := by
  rw [C8.cutS_slice, SX.slice_to (by omega)]; simp
theorem Lb.lay {x : Str} (h : Lb x) : PyData.canLay0 (.str x) = true := by
  obtain ⟨cs, rfl, _, _, h⟩ := h
  simp only [PyData.canLay0, PyData.strOk, List.all_toArray, List.all_eq_true, decide_eq_true_eq]
  intro c hc
  have := h c hc
  omega
theorem lab_in {C : Store} {p : Nat} {a b : Int} {us : List Str} {used : D} {x : Str} (hu : toPy (C.set p (pc a b)) used = some (.list (us.map .str))) (hx : Lb x) (hus : ∀ x ∈ us, Lb x) :
    notInD (.str x) used (C.set p (pc a b)) = .ok (.bl (!us.contains x)) (C.set p (pc a b)) :=
  notIn_strs hu hx.lay fun x h => (hus x h).lay
theorem label_wp {C : Store} {p : Nat} {a b : Int} {us : List Str} {used : D} {Q : D → Store → Prop} {E : Xc → Store → Prop} (hp : p < C.length) (g : Gd a b)
    (hu : ∀ a b, toPy (C.set p (pc a b)) used = some (.list (us.map .str))) (hl : us.length ≤ 25) (hus : ∀ x ∈ us, Lb x)
    (nx : ∀ x a' b', Lb x → x ∉ us → Gd a' b' → Q (.str x) (C.set p (pc a' b'))) : (den_law_label [.cell p, used] (C.set p (pc a b))).wp Q E := by
  unfold den_law_label
  have hlen : ∀ c, (C.set p c).length = C.length := fun c => List.length_set
  have hout : ∀ c c' d, (outD true (C.set p c) d (C.set p c')).wp Q E = Q d (C.set p c') := fun c c' d => wp_outD_same (by rw [hlen, hlen])
  try simp only [Den.envOf, List.map_cons, List.map_nil, List.length_cons, List.length_nil, List.replicate, List.cons_append, List.nil_append, List.append_nil, Nat.reduceAdd, Nat.reduceSub, Nat.zero_add, Nat.add_zero, wp_sSeq, wp_fnD, wp_ok, wp_next, wp_ret, wp_ite, wp_ites, outP_ret, wp_sIf, wp_sRet, wp_sRetN, wp_sAsg, wp_sExpr, wp_sNext, wp_sFor, wp_sPar, par2_ok, wp_tOf, wp_tOr, wp_tAnd, wp_tNot, wp_tYes, wp_eBin, wp_eVar0, wp_eVars, wp_eK, wp_eUn, wp_eArgs, wp_aCons, wp_aNil, wp_eAnd, wp_eOr, wp_eNot, wp_eIf, wp_eChain, wp_eSl, wp_eM, wp_oSome, wp_oNone, wp_eFrz, wp_eLc, wp_iL, wp_iT, wp_iS, wp_iR1, gwp_N, gwp_nil, gwp_cons, gwp_T, gwp_sub, List.set_cons_zero, List.set_cons_succ, Bool.not_true, Bool.not_false, Bool.false_eq_true, if_true, if_false, cmp_ii, neg_i, add_ii, sub_ii, decide_eq_true_eq, Nat.reduceLeDiff, Nat.reduceEqDiff, D.bl.injEq, D.int.injEq, D.str.injEq, D.tup.injEq, D.lst.injEq, exists_eq_left', exists_eq_left, true_and, and_true, Option.some.injEq, List.cons.injEq, eq_self, reduceCtorEq, or_false, false_or, false_and, and_false, and_self, mkL_ok, mkT_ok, mkC_ok, le_size, wipeD, len_lst, len_ro, len_tup, Den.len_str, okL_ok, tyChk_str, Den.sl_tup, list_tup, max_ii, min_ii, abs_i]
  refine take_wp hp g (by decide) fun k8 a b k80 k81 g => ?_
  try simp only [Den.envOf, List.map_cons, List.map_nil, List.length_cons, List.length_nil, List.replicate, List.cons_append, List.nil_append, List.append_nil, Nat.reduceAdd, Nat.reduceSub, Nat.zero_add, Nat.add_zero, wp_sSeq, wp_fnD, wp_ok, wp_next, wp_ret, wp_ite, wp_ites, outP_ret, wp_sIf, wp_sRet, wp_sRetN, wp_sAsg, wp_sExpr, wp_sNext, wp_sFor, wp_sPar, par2_ok, wp_tOf, wp_tOr, wp_tAnd, wp_tNot, wp_tYes, wp_eBin, wp_eVar0, wp_eVars, wp_eK, wp_eUn, wp_eArgs, wp_aCons, wp_aNil, wp_eAnd, wp_eOr, wp_eNot, wp_eIf, wp_eChain, wp_eSl, wp_eM, wp_oSome, wp_oNone, wp_eFrz, wp_eLc, wp_iL, wp_iT, wp_iS, wp_iR1, gwp_N, gwp_nil, gwp_cons, gwp_T, gwp_sub, List.set_cons_zero, List.set_cons_succ, Bool.not_true, Bool.not_false, Bool.false_eq_true, if_true, if_false, cmp_ii, neg_i, add_ii, sub_ii, decide_eq_true_eq, Nat.reduceLeDiff, Nat.reduceEqDiff, D.bl.injEq, D.int.injEq, D.str.injEq, D.tup.injEq, D.lst.injEq, exists_eq_left', exists_eq_left, true_and, and_true, Option.some.injEq, List.cons.injEq, eq_self, reduceCtorEq, or_false, false_or, false_and, and_false, and_self, mkL_ok, mkT_ok, mkC_ok, le_size, wipeD, len_lst, len_ro, len_tup, Den.len_str, okL_ok, tyChk_str, Den.sl_tup, list_tup, max_ii, min_ii, abs_i]
  refine take_wp hp g (by decide) fun k4 a b k40 k41 g => ?_
  obtain ⟨d, e, m⟩ := atI_nat (xs := [D.int 1, .int 1, .int 2, .int (1 + k8)]) k40 k41
  obtain ⟨n, rfl, n1, n2⟩ : ∃ n : Int, d = .int n ∧ 1 ≤ n ∧ n ≤ 8 := by
    simp only [List.mem_cons, List.not_mem_nil, or_false] at m
    rcases m with rfl | rfl | rfl | rfl
    · exact ⟨1, rfl, by omega, by omega⟩
    · exact ⟨1, rfl, by omega, by omega⟩
    · exact ⟨2, rfl, by omega, by omega⟩
    · exact ⟨1 + k8, rfl, by omega, by omega⟩
  try simp only [Den.envOf, List.map_cons, List.map_nil, List.length_cons, List.length_nil, List.replicate, List.cons_append, List.nil_append, List.append_nil, Nat.reduceAdd, Nat.reduceSub, Nat.zero_add, Nat.add_zero, wp_sSeq, wp_fnD, wp_ok, wp_next, wp_ret, wp_ite, wp_ites, outP_ret, wp_sIf, wp_sRet, wp_sRetN, wp_sAsg, wp_sExpr, wp_sNext, wp_sFor, wp_sPar, par2_ok, wp_tOf, wp_tOr, wp_tAnd, wp_tNot, wp_tYes, wp_eBin, wp_eVar0, wp_eVars, wp_eK, wp_eUn, wp_eArgs, wp_aCons, wp_aNil, wp_eAnd, wp_eOr, wp_eNot, wp_eIf, wp_eChain, wp_eSl, wp_eM, wp_oSome, wp_oNone, wp_eFrz, wp_eLc, wp_iL, wp_iT, wp_iS, wp_iR1, gwp_N, gwp_nil, gwp_cons, gwp_T, gwp_sub, List.set_cons_zero, List.set_cons_succ, Bool.not_true, Bool.not_false, Bool.false_eq_true, if_true, if_false, cmp_ii, neg_i, add_ii, sub_ii, decide_eq_true_eq, Nat.reduceLeDiff, Nat.reduceEqDiff, D.bl.injEq, D.int.injEq, D.str.injEq, D.tup.injEq, D.lst.injEq, exists_eq_left', exists_eq_left, true_and, and_true, Option.some.injEq, List.cons.injEq, eq_self, reduceCtorEq, or_false, false_or, false_and, and_false, and_self, mkL_ok, mkT_ok, mkC_ok, le_size, wipeD, len_lst, len_ro, len_tup, Den.len_str, okL_ok, tyChk_str, Den.sl_tup, list_tup, max_ii, min_ii, abs_i, ix_lst e]
  refine ⟨by omega, by omega, ?_⟩
  refine wp_comp (fun items acc st => ∃ a b cs, acc = (cs.map fun c => SX.S [c]).map D.str ∧ (∀ c ∈ cs, 97 ≤ c ∧ c ≤ 122) ∧ cs.length + items.length = n.toNat ∧ Gd a b ∧ st = C.set p (pc a b)) ?_ ?_ _ _ _ ⟨a, b, [], rfl, by simp, by simp [rngD], g, rfl⟩
  · rintro d ds acc st ⟨a, b, cs, rfl, h1, h2, g, rfl⟩
    refine ⟨_, _, rfl, ?_⟩
    try simp only [Den.envOf, List.map_cons, List.map_nil, List.length_cons, List.length_nil, List.replicate, List.cons_append, List.nil_append, List.append_nil, Nat.reduceAdd, Nat.reduceSub, Nat.zero_add, Nat.add_zero, wp_sSeq, wp_fnD, wp_ok, wp_next, wp_ret, wp_ite, wp_ites, outP_ret, wp_sIf, wp_sRet, wp_sRetN, wp_sAsg, wp_sExpr, wp_sNext, wp_sFor, wp_sPar, par2_ok, wp_tOf, wp_tOr, wp_tAnd, wp_tNot, wp_tYes, wp_eBin, wp_eVar0, wp_eVars, wp_eK, wp_eUn, wp_eArgs, wp_aCons, wp_aNil, wp_eAnd, wp_eOr, wp_eNot, wp_eIf, wp_eChain, wp_eSl, wp_eM, wp_oSome, wp_oNone, wp_eFrz, wp_eLc, wp_iL, wp_iT, wp_iS, wp_iR1, gwp_N, gwp_nil, gwp_cons, gwp_T, gwp_sub, List.set_cons_zero, List.set_cons_succ, Bool.not_true, Bool.not_false, Bool.false_eq_true, if_true, if_false, cmp_ii, neg_i, add_ii, sub_ii, decide_eq_true_eq, Nat.reduceLeDiff, Nat.reduceEqDiff, D.bl.injEq, D.int.injEq, D.str.injEq, D.tup.injEq, D.lst.injEq, exists_eq_left', exists_eq_left, true_and, and_true, Option.some.injEq, List.cons.injEq, eq_self, reduceCtorEq, or_false, false_or, false_and, and_false, and_self, mkL_ok, mkT_ok, mkC_ok, le_size, wipeD, len_lst, len_ro, len_tup, Den.len_str, okL_ok, tyChk_str, Den.sl_tup, list_tup, max_ii, min_ii, abs_i]
    refine take_wp hp g (by decide) fun k a' b' k0 k1 g' => ?_
    obtain ⟨c, e, m⟩ := atI_nat (xs := az.cps.toList) k0 (by rw [show az.cps.toList.length = 26 from by decide +kernel]; exact k1)
    simp only [List.length_cons] at h2
    try simp only [Den.envOf, List.map_cons, List.map_nil, List.length_cons, List.length_nil, List.replicate, List.cons_append, List.nil_append, List.append_nil, Nat.reduceAdd, Nat.reduceSub, Nat.zero_add, Nat.add_zero, wp_sSeq, wp_fnD, wp_ok, wp_next, wp_ret, wp_ite, wp_ites, outP_ret, wp_sIf, wp_sRet, wp_sRetN, wp_sAsg, wp_sExpr, wp_sNext, wp_sFor, wp_sPar, par2_ok, wp_tOf, wp_tOr, wp_tAnd, wp_tNot, wp_tYes, wp_eBin, wp_eVar0, wp_eVars, wp_eK, wp_eUn, wp_eArgs, wp_aCons, wp_aNil, wp_eAnd, wp_eOr, wp_eNot, wp_eIf, wp_eChain, wp_eSl, wp_eM, wp_oSome, wp_oNone, wp_eFrz, wp_eLc, wp_iL, wp_iT, wp_iS, wp_iR1, gwp_N, gwp_nil, gwp_cons, gwp_T, gwp_sub, List.set_cons_zero, List.set_cons_succ, Bool.not_true, Bool.not_false, Bool.false_eq_true, if_true, if_false, cmp_ii, neg_i, add_ii, sub_ii, decide_eq_true_eq, Nat.reduceLeDiff, Nat.reduceEqDiff, D.bl.injEq, D.int.injEq, D.str.injEq, D.tup.injEq, D.lst.injEq, exists_eq_left', exists_eq_left, true_and, and_true, Option.some.injEq, List.cons.injEq, eq_self, reduceCtorEq, or_false, false_or, false_and, and_false, and_self, mkL_ok, mkT_ok, mkC_ok, le_size, wipeD, len_lst, len_ro, len_tup, Den.len_str, okL_ok, tyChk_str, Den.sl_tup, list_tup, max_ii, min_ii, abs_i, ix_str (z := az) (le_size (by rw [az_len]; decide)) e]
    refine ⟨le_size (by simp; omega), a', b', cs ++ [c], by simp, ?_, by simp; omega, g', rfl⟩
    intro c' hc'
    rcases List.mem_append.mp hc' with h | h
    · exact h1 _ h
    · rw [List.mem_singleton.mp h]; exact az_mem.mp m
  rintro acc st ⟨a, b, cs, rfl, h1, h2, g, rfl⟩
  simp only [List.length_nil, Nat.add_zero] at h2
  have hj : Txt.join "" (cs.map fun c => SX.S [c]) = SX.S cs := by
    have := SX.join_S [] (cs.map fun c => [c])
    rw [joinL_one, List.map_map] at this
    exact this
  have hjl : ((cs.map fun c => SX.S [c]).map (·.length)).sum + (cs.map fun c => SX.S [c]).length * (Str.length "") ≤ 16777216 := by
    have e0 : Str.length "" = 0 := rfl
    have : ((cs.map fun c => SX.S [c]).map (·.length)) = List.replicate cs.length 1 := by
      rw [List.map_map]; exact List.map_eq_replicate_iff.mpr fun c _ => rfl
    rw [this, e0]
    simp; omega
  have c1 : 1 ≤ cs.length := by omega
  have c8 : cs.length ≤ 8 := by omega
  try simp only [Den.envOf, List.map_cons, List.map_nil, List.length_cons, List.length_nil, List.replicate, List.cons_append, List.nil_append, List.append_nil, Nat.reduceAdd, Nat.reduceSub, Nat.zero_add, Nat.add_zero, wp_sSeq, wp_fnD, wp_ok, wp_next, wp_ret, wp_ite, wp_ites, outP_ret, wp_sIf, wp_sRet, wp_sRetN, wp_sAsg, wp_sExpr, wp_sNext, wp_sFor, wp_sPar, par2_ok, wp_tOf, wp_tOr, wp_tAnd, wp_tNot, wp_tYes, wp_eBin, wp_eVar0, wp_eVars, wp_eK, wp_eUn, wp_eArgs, wp_aCons, wp_aNil, wp_eAnd, wp_eOr, wp_eNot, wp_eIf, wp_eChain, wp_eSl, wp_eM, wp_oSome, wp_oNone, wp_eFrz, wp_eLc, wp_iL, wp_iT, wp_iS, wp_iR1, gwp_N, gwp_nil, gwp_cons, gwp_T, gwp_sub, List.set_cons_zero, List.set_cons_succ, Bool.not_true, Bool.not_false, Bool.false_eq_true, if_true, if_false, cmp_ii, neg_i, add_ii, sub_ii, decide_eq_true_eq, Nat.reduceLeDiff, Nat.reduceEqDiff, D.bl.injEq, D.int.injEq, D.str.injEq, D.tup.injEq, D.lst.injEq, exists_eq_left', exists_eq_left, true_and, and_true, Option.some.injEq, List.cons.injEq, eq_self, reduceCtorEq, or_false, false_or, false_and, and_false, and_self, mkL_ok, mkT_ok, mkC_ok, le_size, wipeD, len_lst, len_ro, len_tup, Den.len_str, okL_ok, tyChk_str, Den.sl_tup, list_tup, max_ii, min_ii, abs_i, join_str hjl, hj]
  refine wp_compOn (fun c => .str ⟨#[c]⟩) (fun _ => true) (fun c => .str (SX.S (cs.take 7 ++ [c]))) az.cps.toList (le_size (by decide +kernel)) (fun c _ => ?_) (fun c _ _ => ?_) ?_
  · try simp only [Den.envOf, List.map_cons, List.map_nil, List.length_cons, List.length_nil, List.replicate, List.cons_append, List.nil_append, List.append_nil, Nat.reduceAdd, Nat.reduceSub, Nat.zero_add, Nat.add_zero, wp_sSeq, wp_fnD, wp_ok, wp_next, wp_ret, wp_ite, wp_ites, outP_ret, wp_sIf, wp_sRet, wp_sRetN, wp_sAsg, wp_sExpr, wp_sNext, wp_sFor, wp_sPar, par2_ok, wp_tOf, wp_tOr, wp_tAnd, wp_tNot, wp_tYes, wp_eBin, wp_eVar0, wp_eVars, wp_eK, wp_eUn, wp_eArgs, wp_aCons, wp_aNil, wp_eAnd, wp_eOr, wp_eNot, wp_eIf, wp_eChain, wp_eSl, wp_eM, wp_oSome, wp_oNone, wp_eFrz, wp_eLc, wp_iL, wp_iT, wp_iS, wp_iR1, gwp_N, gwp_nil, gwp_cons, gwp_T, gwp_sub, List.set_cons_zero, List.set_cons_succ, Bool.not_true, Bool.not_false, Bool.false_eq_true, if_true, if_false, cmp_ii, neg_i, add_ii, sub_ii, decide_eq_true_eq, Nat.reduceLeDiff, Nat.reduceEqDiff, D.bl.injEq, D.int.injEq, D.str.injEq, D.tup.injEq, D.lst.injEq, exists_eq_left', exists_eq_left, true_and, and_true, Option.some.injEq, List.cons.injEq, eq_self, reduceCtorEq, or_false, false_or, false_and, and_false, and_self, mkL_ok, mkT_ok, mkC_ok, le_size, wipeD, len_lst, len_ro, len_tup, Den.len_str, okL_ok, tyChk_str, Den.sl_tup, list_tup, max_ii, min_ii, abs_i]
  · have e7 : cutS (SX.S cs) none (some 7) = SX.S (cs.take 7) := cutS_to (n := 7)
    have e8 : (SX.S (cs.take 7) ++ ⟨#[c]⟩ : Str) = SX.S (cs.take 7 ++ [c]) := SX.S_cat _ _
    try simp only [Den.envOf, List.map_cons, List.map_nil, List.length_cons, List.length_nil, List.replicate, List.cons_append, List.nil_append, List.append_nil, Nat.reduceAdd, Nat.reduceSub, Nat.zero_add, Nat.add_zero, wp_sSeq, wp_fnD, wp_ok, wp_next, wp_ret, wp_ite, wp_ites, outP_ret, wp_sIf, wp_sRet, wp_sRetN, wp_sAsg, wp_sExpr, wp_sNext, wp_sFor, wp_sPar, par2_ok, wp_tOf, wp_tOr, wp_tAnd, wp_tNot, wp_tYes, wp_eBin, wp_eVar0, wp_eVars, wp_eK, wp_eUn, wp_eArgs, wp_aCons, wp_aNil, wp_eAnd, wp_eOr, wp_eNot, wp_eIf, wp_eChain, wp_eSl, wp_eM, wp_oSome, wp_oNone, wp_eFrz, wp_eLc, wp_iL, wp_iT, wp_iS, wp_iR1, gwp_N, gwp_nil, gwp_cons, gwp_T, gwp_sub, List.set_cons_zero, List.set_cons_succ, Bool.not_true, Bool.not_false, Bool.false_eq_true, if_true, if_false, cmp_ii, neg_i, add_ii, sub_ii, decide_eq_true_eq, Nat.reduceLeDiff, Nat.reduceEqDiff, D.bl.injEq, D.int.injEq, D.str.injEq, D.tup.injEq, D.lst.injEq, exists_eq_left', exists_eq_left, true_and, and_true, Option.some.injEq, List.cons.injEq, eq_self, reduceCtorEq, or_false, false_or, false_and, and_false, and_self, mkL_ok, mkT_ok, mkC_ok, le_size, wipeD, len_lst, len_ro, len_tup, Den.len_str, okL_ok, tyChk_str, Den.sl_tup, list_tup, max_ii, min_ii, abs_i, sl_str (z := SX.S cs) (le_size (by rw [SX.S_len]; omega)), e7, add_ss (a := SX.S (cs.take 7)) (b := ⟨#[c]⟩) (le_size (by rw [SX.S_len, List.length_take]; show _ + 1 ≤ 1000; omega)), e8]
  rw [filter_yes]
  have hcand : az.cps.toList.map (fun c => D.str (SX.S (cs.take 7 ++ [c]))) = (az.cps.toList.map fun c => SX.S (cs.take 7 ++ [c])).map D.str := by rw [List.map_map]; rfl
  rw [hcand]
  generalize hcd : (az.cps.toList.map fun c => SX.S (cs.take 7 ++ [c])) = cand
  have hcl : cand.length = 26 := by rw [← hcd, List.length_map]; decide +kernel
  try simp only [Den.envOf, List.map_cons, List.map_nil, List.length_cons, List.length_nil, List.replicate, List.cons_append, List.nil_append, List.append_nil, Nat.reduceAdd, Nat.reduceSub, Nat.zero_add, Nat.add_zero, wp_sSeq, wp_fnD, wp_ok, wp_next, wp_ret, wp_ite, wp_ites, outP_ret, wp_sIf, wp_sRet, wp_sRetN, wp_sAsg, wp_sExpr, wp_sNext, wp_sFor, wp_sPar, par2_ok, wp_tOf, wp_tOr, wp_tAnd, wp_tNot, wp_tYes, wp_eBin, wp_eVar0, wp_eVars, wp_eK, wp_eUn, wp_eArgs, wp_aCons, wp_aNil, wp_eAnd, wp_eOr, wp_eNot, wp_eIf, wp_eChain, wp_eSl, wp_eM, wp_oSome, wp_oNone, wp_eFrz, wp_eLc, wp_iL, wp_iT, wp_iS, wp_iR1, gwp_N, gwp_nil, gwp_cons, gwp_T, gwp_sub, List.set_cons_zero, List.set_cons_succ, Bool.not_true, Bool.not_false, Bool.false_eq_true, if_true, if_false, cmp_ii, neg_i, add_ii, sub_ii, decide_eq_true_eq, Nat.reduceLeDiff, Nat.reduceEqDiff, D.bl.injEq, D.int.injEq, D.str.injEq, D.tup.injEq, D.lst.injEq, exists_eq_left', exists_eq_left, true_and, and_true, Option.some.injEq, List.cons.injEq, eq_self, reduceCtorEq, or_false, false_or, false_and, and_false, and_self, mkL_ok, mkT_ok, mkC_ok, le_size, wipeD, len_lst, len_ro, len_tup, Den.len_str, okL_ok, tyChk_str, Den.sl_tup, list_tup, max_ii, min_ii, abs_i, add_ll (a := [D.str (SX.S cs)]) (b := cand.map D.str) (le_size (by simp [hcl]))]
  have hall : D.str (SX.S cs) :: cand.map D.str = (SX.S cs :: cand).map D.str := rfl
  rw [hall]
  have hLb : ∀ x ∈ SX.S cs :: cand, Lb x := by
    intro x hx
    rcases List.mem_cons.mp hx with rfl | hx
    · exact ⟨cs, rfl, c1, c8, h1⟩
    · rw [← hcd] at hx
      obtain ⟨c, hc, rfl⟩ := List.mem_map.mp hx
      refine ⟨_, rfl, by simp, by simp; omega, fun c' hc' => ?_⟩
      rcases List.mem_append.mp hc' with h | h
      · exact h1 _ (List.mem_of_mem_take h)
      · rw [List.mem_singleton.mp h]; exact az_mem.mp hc
  refine wp_compOn D.str (fun x => !us.contains x) D.str (SX.S cs :: cand) (le_size (by simp [hcl])) (fun x hx => ?_) (fun x _ _ => ?_) ?_
  · try simp only [Den.envOf, List.map_cons, List.map_nil, List.length_cons, List.length_nil, List.replicate, List.cons_append, List.nil_append, List.append_nil, Nat.reduceAdd, Nat.reduceSub, Nat.zero_add, Nat.add_zero, wp_sSeq, wp_fnD, wp_ok, wp_next, wp_ret, wp_ite, wp_ites, outP_ret, wp_sIf, wp_sRet, wp_sRetN, wp_sAsg, wp_sExpr, wp_sNext, wp_sFor, wp_sPar, par2_ok, wp_tOf, wp_tOr, wp_tAnd, wp_tNot, wp_tYes, wp_eBin, wp_eVar0, wp_eVars, wp_eK, wp_eUn, wp_eArgs, wp_aCons, wp_aNil, wp_eAnd, wp_eOr, wp_eNot, wp_eIf, wp_eChain, wp_eSl, wp_eM, wp_oSome, wp_oNone, wp_eFrz, wp_eLc, wp_iL, wp_iT, wp_iS, wp_iR1, gwp_N, gwp_nil, gwp_cons, gwp_T, gwp_sub, List.set_cons_zero, List.set_cons_succ, Bool.not_true, Bool.not_false, Bool.false_eq_true, if_true, if_false, cmp_ii, neg_i, add_ii, sub_ii, decide_eq_true_eq, Nat.reduceLeDiff, Nat.reduceEqDiff, D.bl.injEq, D.int.injEq, D.str.injEq, D.tup.injEq, D.lst.injEq, exists_eq_left', exists_eq_left, true_and, and_true, Option.some.injEq, List.cons.injEq, eq_self, reduceCtorEq, or_false, false_or, false_and, and_false, and_self, mkL_ok, mkT_ok, mkC_ok, le_size, wipeD, len_lst, len_ro, len_tup, Den.len_str, okL_ok, tyChk_str, Den.sl_tup, list_tup, max_ii, min_ii, abs_i, lab_in (hu a b) (hLb x hx) hus]
  · try simp only [Den.envOf, List.map_cons, List.map_nil, List.length_cons, List.length_nil, List.replicate, List.cons_append, List.nil_append, List.append_nil, Nat.reduceAdd, Nat.reduceSub, Nat.zero_add, Nat.add_zero, wp_sSeq, wp_fnD, wp_ok, wp_next, wp_ret, wp_ite, wp_ites, outP_ret, wp_sIf, wp_sRet, wp_sRetN, wp_sAsg, wp_sExpr, wp_sNext, wp_sFor, wp_sPar, par2_ok, wp_tOf, wp_tOr, wp_tAnd, wp_tNot, wp_tYes, wp_eBin, wp_eVar0, wp_eVars, wp_eK, wp_eUn, wp_eArgs, wp_aCons, wp_aNil, wp_eAnd, wp_eOr, wp_eNot, wp_eIf, wp_eChain, wp_eSl, wp_eM, wp_oSome, wp_oNone, wp_eFrz, wp_eLc, wp_iL, wp_iT, wp_iS, wp_iR1, gwp_N, gwp_nil, gwp_cons, gwp_T, gwp_sub, List.set_cons_zero, List.set_cons_succ, Bool.not_true, Bool.not_false, Bool.false_eq_true, if_true, if_false, cmp_ii, neg_i, add_ii, sub_ii, decide_eq_true_eq, Nat.reduceLeDiff, Nat.reduceEqDiff, D.bl.injEq, D.int.injEq, D.str.injEq, D.tup.injEq, D.lst.injEq, exists_eq_left', exists_eq_left, true_and, and_true, Option.some.injEq, List.cons.injEq, eq_self, reduceCtorEq, or_false, false_or, false_and, and_false, and_self, mkL_ok, mkT_ok, mkC_ok, le_size, wipeD, len_lst, len_ro, len_tup, Den.len_str, okL_ok, tyChk_str, Den.sl_tup, list_tup, max_ii, min_ii, abs_i]
  have hpig : ∃ x ∈ cand, x ∉ us := by
    refine Classical.byContradiction fun hn => ?_
    have hs : ∀ x ∈ cand, x ∈ us := fun x hx => Classical.byContradiction fun h => hn ⟨x, hx, h⟩
    have nd : cand.Nodup := by
      rw [← hcd]
      have nz : az.cps.toList.Nodup := by decide +kernel
      refine List.pairwise_map.mpr (List.Pairwise.imp (fun {a b} hab e => hab ?_) nz)
      have := SX.S_inj e
      simpa using this
    have := len_nodup nd hs
    omega
  cases hf : (SX.S cs :: cand).filter (fun x => !us.contains x) with
  | nil =>
    obtain ⟨x, hx, hn⟩ := hpig
    have := List.filter_eq_nil_iff.mp hf x (List.mem_cons_of_mem _ hx)
    simp [hn] at this
  | cons x r =>
    have hx : x ∈ (SX.S cs :: cand).filter (fun x => !us.contains x) := by rw [hf]; exact List.mem_cons_self ..
    obtain ⟨hx1, hx2⟩ := List.mem_filter.mp hx
    try simp only [Den.envOf, List.map_cons, List.map_nil, List.length_cons, List.length_nil, List.replicate, List.cons_append, List.nil_append, List.append_nil, Nat.reduceAdd, Nat.reduceSub, Nat.zero_add, Nat.add_zero, wp_sSeq, wp_fnD, wp_ok, wp_next, wp_ret, wp_ite, wp_ites, outP_ret, wp_sIf, wp_sRet, wp_sRetN, wp_sAsg, wp_sExpr, wp_sNext, wp_sFor, wp_sPar, par2_ok, wp_tOf, wp_tOr, wp_tAnd, wp_tNot, wp_tYes, wp_eBin, wp_eVar0, wp_eVars, wp_eK, wp_eUn, wp_eArgs, wp_aCons, wp_aNil, wp_eAnd, wp_eOr, wp_eNot, wp_eIf, wp_eChain, wp_eSl, wp_eM, wp_oSome, wp_oNone, wp_eFrz, wp_eLc, wp_iL, wp_iT, wp_iS, wp_iR1, gwp_N, gwp_nil, gwp_cons, gwp_T, gwp_sub, List.set_cons_zero, List.set_cons_succ, Bool.not_true, Bool.not_false, Bool.false_eq_true, if_true, if_false, cmp_ii, neg_i, add_ii, sub_ii, decide_eq_true_eq, Nat.reduceLeDiff, Nat.reduceEqDiff, D.bl.injEq, D.int.injEq, D.str.injEq, D.tup.injEq, D.lst.injEq, exists_eq_left', exists_eq_left, true_and, and_true, Option.some.injEq, List.cons.injEq, eq_self, reduceCtorEq, or_false, false_or, false_and, and_false, and_self, mkL_ok, mkT_ok, mkC_ok, le_size, wipeD, len_lst, len_ro, len_tup, Den.len_str, okL_ok, tyChk_str, Den.sl_tup, list_tup, max_ii, min_ii, abs_i, ix_lst (xs := D.str x :: r.map D.str) (i := 0) (d := .str x) atI_zero, hout]
    exact nx x a b (hLb x hx1) (by simpa using hx2) g
/-! ### bases, grains, rows -/
theorem size_wp {C : Store} {p : Nat} {a b : Int} {Q : D → Store → Prop} {E : Xc → Store → Prop} (hp : p < C.length) (g : Gd a b)
    (nx : ∀ s a' b', 2 ≤ s → s ≤ 1000000 → Gd a' b' → Q (.int s) (C.set p (pc a' b'))) : (den_law_size [.cell p] (C.set p (pc a b))).wp Q E := by
  unfold den_law_size
  have hlen : ∀ c, (C.set p c).length = C.length := fun c => List.length_set
  have hout : ∀ c c' d, (outD true (C.set p c) d (C.set p c')).wp Q E = Q d (C.set p c') := fun c c' d => wp_outD_same (by rw [hlen, hlen])
  try simp only [Den.envOf, List.map_cons, List.map_nil, List.length_cons, List.length_nil, List.replicate, List.cons_append, List.nil_append, List.append_nil, Nat.reduceAdd, Nat.reduceSub, Nat.zero_add, Nat.add_zero, wp_sSeq, wp_fnD, wp_ok, wp_next, wp_ret, wp_ite, wp_ites, outP_ret, wp_sIf, wp_sRet, wp_sRetN, wp_sAsg, wp_sExpr, wp_sNext, wp_sFor, wp_sPar, par2_ok, wp_tOf, wp_tOr, wp_tAnd, wp_tNot, wp_tYes, wp_eBin, wp_eVar0, wp_eVars, wp_eK, wp_eUn, wp_eArgs, wp_aCons, wp_aNil, wp_eAnd, wp_eOr, wp_eNot, wp_eIf, wp_eChain, wp_eSl, wp_eM, wp_oSome, wp_oNone, wp_eFrz, wp_eLc, wp_iL, wp_iT, wp_iS, wp_iR1, gwp_N, gwp_nil, gwp_cons, gwp_T, gwp_sub, List.set_cons_zero, List.set_cons_succ, Bool.not_true, Bool.not_false, Bool.false_eq_true, if_true, if_false, cmp_ii, neg_i, add_ii, sub_ii, decide_eq_true_eq, Nat.reduceLeDiff, Nat.reduceEqDiff, D.bl.injEq, D.int.injEq, D.str.injEq, D.tup.injEq, D.lst.injEq, exists_eq_left', exists_eq_left, true_and, and_true, Option.some.injEq, List.cons.injEq, eq_self, reduceCtorEq, or_false, false_or, false_and, and_false, and_self, mkL_ok, mkT_ok, mkC_ok, le_size, wipeD, len_lst, len_ro, len_tup, Den.len_str, okL_ok, tyChk_str, Den.sl_tup, list_tup, max_ii, min_ii, abs_i]
  refine take_wp hp g (by decide) fun k1 a b k10 k11 g => ?_
  try simp only [Den.envOf, List.map_cons, List.map_nil, List.length_cons, List.length_nil, List.replicate, List.cons_append, List.nil_append, List.append_nil, Nat.reduceAdd, Nat.reduceSub, Nat.zero_add, Nat.add_zero, wp_sSeq, wp_fnD, wp_ok, wp_next, wp_ret, wp_ite, wp_ites, outP_ret, wp_sIf, wp_sRet, wp_sRetN, wp_sAsg, wp_sExpr, wp_sNext, wp_sFor, wp_sPar, par2_ok, wp_tOf, wp_tOr, wp_tAnd, wp_tNot, wp_tYes, wp_eBin, wp_eVar0, wp_eVars, wp_eK, wp_eUn, wp_eArgs, wp_aCons, wp_aNil, wp_eAnd, wp_eOr, wp_eNot, wp_eIf, wp_eChain, wp_eSl, wp_eM, wp_oSome, wp_oNone, wp_eFrz, wp_eLc, wp_iL, wp_iT, wp_iS, wp_iR1, gwp_N, gwp_nil, gwp_cons, gwp_T, gwp_sub, List.set_cons_zero, List.set_cons_succ, Bool.not_true, Bool.not_false, Bool.false_eq_true, if_true, if_false, cmp_ii, neg_i, add_ii, sub_ii, decide_eq_true_eq, Nat.reduceLeDiff, Nat.reduceEqDiff, D.bl.injEq, D.int.injEq, D.str.injEq, D.tup.injEq, D.lst.injEq, exists_eq_left', exists_eq_left, true_and, and_true, Option.some.injEq, List.cons.injEq, eq_self, reduceCtorEq, or_false, false_or, false_and, and_false, and_self, mkL_ok, mkT_ok, mkC_ok, le_size, wipeD, len_lst, len_ro, len_tup, Den.len_str, okL_ok, tyChk_str, Den.sl_tup, list_tup, max_ii, min_ii, abs_i]
  refine take_wp hp g (by decide) fun k2 a b k20 k21 g => ?_
  try simp only [Den.envOf, List.map_cons, List.map_nil, List.length_cons, List.length_nil, List.replicate, List.cons_append, List.nil_append, List.append_nil, Nat.reduceAdd, Nat.reduceSub, Nat.zero_add, Nat.add_zero, wp_sSeq, wp_fnD, wp_ok, wp_next, wp_ret, wp_ite, wp_ites, outP_ret, wp_sIf, wp_sRet, wp_sRetN, wp_sAsg, wp_sExpr, wp_sNext, wp_sFor, wp_sPar, par2_ok, wp_tOf, wp_tOr, wp_tAnd, wp_tNot, wp_tYes, wp_eBin, wp_eVar0, wp_eVars, wp_eK, wp_eUn, wp_eArgs, wp_aCons, wp_aNil, wp_eAnd, wp_eOr, wp_eNot, wp_eIf, wp_eChain, wp_eSl, wp_eM, wp_oSome, wp_oNone, wp_eFrz, wp_eLc, wp_iL, wp_iT, wp_iS, wp_iR1, gwp_N, gwp_nil, gwp_cons, gwp_T, gwp_sub, List.set_cons_zero, List.set_cons_succ, Bool.not_true, Bool.not_false, Bool.false_eq_true, if_true, if_false, cmp_ii, neg_i, add_ii, sub_ii, decide_eq_true_eq, Nat.reduceLeDiff, Nat.reduceEqDiff, D.bl.injEq, D.int.injEq, D.str.injEq, D.tup.injEq, D.lst.injEq, exists_eq_left', exists_eq_left, true_and, and_true, Option.some.injEq, List.cons.injEq, eq_self, reduceCtorEq, or_false, false_or, false_and, and_false, and_self, mkL_ok, mkT_ok, mkC_ok, le_size, wipeD, len_lst, len_ro, len_tup, Den.len_str, okL_ok, tyChk_str, Den.sl_tup, list_tup, max_ii, min_ii, abs_i, mul_ii (mulOk_of (i := 2 + k1) (j := 2 + k2) (by omega) (by omega))]
  refine take_wp hp g (by decide) fun k3 a b k30 k31 g => ?_
  try simp only [Den.envOf, List.map_cons, List.map_nil, List.length_cons, List.length_nil, List.replicate, List.cons_append, List.nil_append, List.append_nil, Nat.reduceAdd, Nat.reduceSub, Nat.zero_add, Nat.add_zero, wp_sSeq, wp_fnD, wp_ok, wp_next, wp_ret, wp_ite, wp_ites, outP_ret, wp_sIf, wp_sRet, wp_sRetN, wp_sAsg, wp_sExpr, wp_sNext, wp_sFor, wp_sPar, par2_ok, wp_tOf, wp_tOr, wp_tAnd, wp_tNot, wp_tYes, wp_eBin, wp_eVar0, wp_eVars, wp_eK, wp_eUn, wp_eArgs, wp_aCons, wp_aNil, wp_eAnd, wp_eOr, wp_eNot, wp_eIf, wp_eChain, wp_eSl, wp_eM, wp_oSome, wp_oNone, wp_eFrz, wp_eLc, wp_iL, wp_iT, wp_iS, wp_iR1, gwp_N, gwp_nil, gwp_cons, gwp_T, gwp_sub, List.set_cons_zero, List.set_cons_succ, Bool.not_true, Bool.not_false, Bool.false_eq_true, if_true, if_false, cmp_ii, neg_i, add_ii, sub_ii, decide_eq_true_eq, Nat.reduceLeDiff, Nat.reduceEqDiff, D.bl.injEq, D.int.injEq, D.str.injEq, D.tup.injEq, D.lst.injEq, exists_eq_left', exists_eq_left, true_and, and_true, Option.some.injEq, List.cons.injEq, eq_self, reduceCtorEq, or_false, false_or, false_and, and_false, and_self, mkL_ok, mkT_ok, mkC_ok, le_size, wipeD, len_lst, len_ro, len_tup, Den.len_str, okL_ok, tyChk_str, Den.sl_tup, list_tup, max_ii, min_ii, abs_i, pow_ii (i := 10) (j := 6) (by decide)]
  refine take_wp hp g (by decide) fun k4 a b k40 k41 g => ?_
  try simp only [Den.envOf, List.map_cons, List.map_nil, List.length_cons, List.length_nil, List.replicate, List.cons_append, List.nil_append, List.append_nil, Nat.reduceAdd, Nat.reduceSub, Nat.zero_add, Nat.add_zero, wp_sSeq, wp_fnD, wp_ok, wp_next, wp_ret, wp_ite, wp_ites, outP_ret, wp_sIf, wp_sRet, wp_sRetN, wp_sAsg, wp_sExpr, wp_sNext, wp_sFor, wp_sPar, par2_ok, wp_tOf, wp_tOr, wp_tAnd, wp_tNot, wp_tYes, wp_eBin, wp_eVar0, wp_eVars, wp_eK, wp_eUn, wp_eArgs, wp_aCons, wp_aNil, wp_eAnd, wp_eOr, wp_eNot, wp_eIf, wp_eChain, wp_eSl, wp_eM, wp_oSome, wp_oNone, wp_eFrz, wp_eLc, wp_iL, wp_iT, wp_iS, wp_iR1, gwp_N, gwp_nil, gwp_cons, gwp_T, gwp_sub, List.set_cons_zero, List.set_cons_succ, Bool.not_true, Bool.not_false, Bool.false_eq_true, if_true, if_false, cmp_ii, neg_i, add_ii, sub_ii, decide_eq_true_eq, Nat.reduceLeDiff, Nat.reduceEqDiff, D.bl.injEq, D.int.injEq, D.str.injEq, D.tup.injEq, D.lst.injEq, exists_eq_left', exists_eq_left, true_and, and_true, Option.some.injEq, List.cons.injEq, eq_self, reduceCtorEq, or_false, false_or, false_and, and_false, and_self, mkL_ok, mkT_ok, mkC_ok, le_size, wipeD, len_lst, len_ro, len_tup, Den.len_str, okL_ok, tyChk_str, Den.sl_tup, list_tup, max_ii, min_ii, abs_i]
  refine take_wp hp g (by decide) fun k5 a b k50 k51 g => ?_
  have hk4 : k4 < 999999 := k41
  obtain ⟨d, e, m⟩ := atI_nat (xs := [D.int 2, .int (2 + k3), .int ((2 + k1) * (2 + k2)), .int (2 + k4)]) k50 k51
  try simp only [Den.envOf, List.map_cons, List.map_nil, List.length_cons, List.length_nil, List.replicate, List.cons_append, List.nil_append, List.append_nil, Nat.reduceAdd, Nat.reduceSub, Nat.zero_add, Nat.add_zero, wp_sSeq, wp_fnD, wp_ok, wp_next, wp_ret, wp_ite, wp_ites, outP_ret, wp_sIf, wp_sRet, wp_sRetN, wp_sAsg, wp_sExpr, wp_sNext, wp_sFor, wp_sPar, par2_ok, wp_tOf, wp_tOr, wp_tAnd, wp_tNot, wp_tYes, wp_eBin, wp_eVar0, wp_eVars, wp_eK, wp_eUn, wp_eArgs, wp_aCons, wp_aNil, wp_eAnd, wp_eOr, wp_eNot, wp_eIf, wp_eChain, wp_eSl, wp_eM, wp_oSome, wp_oNone, wp_eFrz, wp_eLc, wp_iL, wp_iT, wp_iS, wp_iR1, gwp_N, gwp_nil, gwp_cons, gwp_T, gwp_sub, List.set_cons_zero, List.set_cons_succ, Bool.not_true, Bool.not_false, Bool.false_eq_true, if_true, if_false, cmp_ii, neg_i, add_ii, sub_ii, decide_eq_true_eq, Nat.reduceLeDiff, Nat.reduceEqDiff, D.bl.injEq, D.int.injEq, D.str.injEq, D.tup.injEq, D.lst.injEq, exists_eq_left', exists_eq_left, true_and, and_true, Option.some.injEq, List.cons.injEq, eq_self, reduceCtorEq, or_false, false_or, false_and, and_false, and_self, mkL_ok, mkT_ok, mkC_ok, le_size, wipeD, len_lst, len_ro, len_tup, Den.len_str, okL_ok, tyChk_str, Den.sl_tup, list_tup, max_ii, min_ii, abs_i, ix_lst e, hout]
  simp only [List.mem_cons, List.not_mem_nil, or_false] at m
  rcases m with rfl | rfl | rfl | rfl
  · exact nx _ _ _ (by omega) (by omega) g
  · exact nx _ _ _ (by omega) (by omega) g
  · refine nx _ _ _ ?_ ?_ g
    · have := Int.mul_le_mul (show (2 : Int) ≤ 2 + k1 by omega) (show (2 : Int) ≤ 2 + k2 by omega) (by omega) (by omega)
      omega
    · have := Int.mul_le_mul (show 2 + k1 ≤ (10 : Int) by omega) (show 2 + k2 ≤ (10 : Int) by omega) (by omega) (by omega)
      omega
  · exact nx _ _ _ (by omega) (by omega) g
def Hp60 (g : Int) : Prop := 0 ≤ g ∧ g < 10 ^ 60
theorem heap_wp {C : Store} {p : Nat} {a b s : Int} {Q : D → Store → Prop} {E : Xc → Store → Prop} (hp : p < C.length) (g : Gd a b) (s1 : 2 ≤ s) (s2 : s ≤ 1000000)
    (nx : ∀ h a' b', Hp60 h → Gd a' b' → Q (.int h) (C.set p (pc a' b'))) : (den_law_heap [.cell p, .int s] (C.set p (pc a b))).wp Q E := by
  unfold den_law_heap
  have hlen : ∀ c, (C.set p c).length = C.length := fun c => List.length_set
  have hout : ∀ c c' d, (outD true (C.set p c) d (C.set p c')).wp Q E = Q d (C.set p c') := fun c c' d => wp_outD_same (by rw [hlen, hlen])
  try simp only [Den.envOf, List.map_cons, List.map_nil, List.length_cons, List.length_nil, List.replicate, List.cons_append, List.nil_append, List.append_nil, Nat.reduceAdd, Nat.reduceSub, Nat.zero_add, Nat.add_zero, wp_sSeq, wp_fnD, wp_ok, wp_next, wp_ret, wp_ite, wp_ites, outP_ret, wp_sIf, wp_sRet, wp_sRetN, wp_sAsg, wp_sExpr, wp_sNext, wp_sFor, wp_sPar, par2_ok, wp_tOf, wp_tOr, wp_tAnd, wp_tNot, wp_tYes, wp_eBin, wp_eVar0, wp_eVars, wp_eK, wp_eUn, wp_eArgs, wp_aCons, wp_aNil, wp_eAnd, wp_eOr, wp_eNot, wp_eIf, wp_eChain, wp_eSl, wp_eM, wp_oSome, wp_oNone, wp_eFrz, wp_eLc, wp_iL, wp_iT, wp_iS, wp_iR1, gwp_N, gwp_nil, gwp_cons, gwp_T, gwp_sub, List.set_cons_zero, List.set_cons_succ, Bool.not_true, Bool.not_false, Bool.false_eq_true, if_true, if_false, cmp_ii, neg_i, add_ii, sub_ii, decide_eq_true_eq, Nat.reduceLeDiff, Nat.reduceEqDiff, D.bl.injEq, D.int.injEq, D.str.injEq, D.tup.injEq, D.lst.injEq, exists_eq_left', exists_eq_left, true_and, and_true, Option.some.injEq, List.cons.injEq, eq_self, reduceCtorEq, or_false, false_or, false_and, and_false, and_self, mkL_ok, mkT_ok, mkC_ok, le_size, wipeD, len_lst, len_ro, len_tup, Den.len_str, okL_ok, tyChk_str, Den.sl_tup, list_tup, max_ii, min_ii, abs_i]
  refine take_wp hp g (by decide) fun k1 a b k10 k11 g => ?_
  have b1 := Int.mul_le_mul s2 (show k1 ≤ 4 by omega) k10 (by omega)
  have b0 := Int.mul_nonneg (show 0 ≤ s by omega) k10
  try simp only [Den.envOf, List.map_cons, List.map_nil, List.length_cons, List.length_nil, List.replicate, List.cons_append, List.nil_append, List.append_nil, Nat.reduceAdd, Nat.reduceSub, Nat.zero_add, Nat.add_zero, wp_sSeq, wp_fnD, wp_ok, wp_next, wp_ret, wp_ite, wp_ites, outP_ret, wp_sIf, wp_sRet, wp_sRetN, wp_sAsg, wp_sExpr, wp_sNext, wp_sFor, wp_sPar, par2_ok, wp_tOf, wp_tOr, wp_tAnd, wp_tNot, wp_tYes, wp_eBin, wp_eVar0, wp_eVars, wp_eK, wp_eUn, wp_eArgs, wp_aCons, wp_aNil, wp_eAnd, wp_eOr, wp_eNot, wp_eIf, wp_eChain, wp_eSl, wp_eM, wp_oSome, wp_oNone, wp_eFrz, wp_eLc, wp_iL, wp_iT, wp_iS, wp_iR1, gwp_N, gwp_nil, gwp_cons, gwp_T, gwp_sub, List.set_cons_zero, List.set_cons_succ, Bool.not_true, Bool.not_false, Bool.false_eq_true, if_true, if_false, cmp_ii, neg_i, add_ii, sub_ii, decide_eq_true_eq, Nat.reduceLeDiff, Nat.reduceEqDiff, D.bl.injEq, D.int.injEq, D.str.injEq, D.tup.injEq, D.lst.injEq, exists_eq_left', exists_eq_left, true_and, and_true, Option.some.injEq, List.cons.injEq, eq_self, reduceCtorEq, or_false, false_or, false_and, and_false, and_self, mkL_ok, mkT_ok, mkC_ok, le_size, wipeD, len_lst, len_ro, len_tup, Den.len_str, okL_ok, tyChk_str, Den.sl_tup, list_tup, max_ii, min_ii, abs_i, mul_ii (mulOk_of (i := s) (j := k1) (by omega) (by omega))]
  refine take_wp hp g (by decide) fun k2 a b k20 k21 g => ?_
  try simp only [Den.envOf, List.map_cons, List.map_nil, List.length_cons, List.length_nil, List.replicate, List.cons_append, List.nil_append, List.append_nil, Nat.reduceAdd, Nat.reduceSub, Nat.zero_add, Nat.add_zero, wp_sSeq, wp_fnD, wp_ok, wp_next, wp_ret, wp_ite, wp_ites, outP_ret, wp_sIf, wp_sRet, wp_sRetN, wp_sAsg, wp_sExpr, wp_sNext, wp_sFor, wp_sPar, par2_ok, wp_tOf, wp_tOr, wp_tAnd, wp_tNot, wp_tYes, wp_eBin, wp_eVar0, wp_eVars, wp_eK, wp_eUn, wp_eArgs, wp_aCons, wp_aNil, wp_eAnd, wp_eOr, wp_eNot, wp_eIf, wp_eChain, wp_eSl, wp_eM, wp_oSome, wp_oNone, wp_eFrz, wp_eLc, wp_iL, wp_iT, wp_iS, wp_iR1, gwp_N, gwp_nil, gwp_cons, gwp_T, gwp_sub, List.set_cons_zero, List.set_cons_succ, Bool.not_true, Bool.not_false, Bool.false_eq_true, if_true, if_false, cmp_ii, neg_i, add_ii, sub_ii, decide_eq_true_eq, Nat.reduceLeDiff, Nat.reduceEqDiff, D.bl.injEq, D.int.injEq, D.str.injEq, D.tup.injEq, D.lst.injEq, exists_eq_left', exists_eq_left, true_and, and_true, Option.some.injEq, List.cons.injEq, eq_self, reduceCtorEq, or_false, false_or, false_and, and_false, and_self, mkL_ok, mkT_ok, mkC_ok, le_size, wipeD, len_lst, len_ro, len_tup, Den.len_str, okL_ok, tyChk_str, Den.sl_tup, list_tup, max_ii, min_ii, abs_i, pow_ii (i := 10) (j := 60) (by decide)]
  refine take_wp hp g (by decide +kernel) fun k3 a b k30 k31 g => ?_
  have k31' : k3 < 10 ^ 60 := k31
  try simp only [Den.envOf, List.map_cons, List.map_nil, List.length_cons, List.length_nil, List.replicate, List.cons_append, List.nil_append, List.append_nil, Nat.reduceAdd, Nat.reduceSub, Nat.zero_add, Nat.add_zero, wp_sSeq, wp_fnD, wp_ok, wp_next, wp_ret, wp_ite, wp_ites, outP_ret, wp_sIf, wp_sRet, wp_sRetN, wp_sAsg, wp_sExpr, wp_sNext, wp_sFor, wp_sPar, par2_ok, wp_tOf, wp_tOr, wp_tAnd, wp_tNot, wp_tYes, wp_eBin, wp_eVar0, wp_eVars, wp_eK, wp_eUn, wp_eArgs, wp_aCons, wp_aNil, wp_eAnd, wp_eOr, wp_eNot, wp_eIf, wp_eChain, wp_eSl, wp_eM, wp_oSome, wp_oNone, wp_eFrz, wp_eLc, wp_iL, wp_iT, wp_iS, wp_iR1, gwp_N, gwp_nil, gwp_cons, gwp_T, gwp_sub, List.set_cons_zero, List.set_cons_succ, Bool.not_true, Bool.not_false, Bool.false_eq_true, if_true, if_false, cmp_ii, neg_i, add_ii, sub_ii, decide_eq_true_eq, Nat.reduceLeDiff, Nat.reduceEqDiff, D.bl.injEq, D.int.injEq, D.str.injEq, D.tup.injEq, D.lst.injEq, exists_eq_left', exists_eq_left, true_and, and_true, Option.some.injEq, List.cons.injEq, eq_self, reduceCtorEq, or_false, false_or, false_and, and_false, and_self, mkL_ok, mkT_ok, mkC_ok, le_size, wipeD, len_lst, len_ro, len_tup, Den.len_str, okL_ok, tyChk_str, Den.sl_tup, list_tup, max_ii, min_ii, abs_i]
  refine take_wp hp g (divOk_of (by omega) (by omega)) fun k4 a b k40 k41 g => ?_
  try simp only [Den.envOf, List.map_cons, List.map_nil, List.length_cons, List.length_nil, List.replicate, List.cons_append, List.nil_append, List.append_nil, Nat.reduceAdd, Nat.reduceSub, Nat.zero_add, Nat.add_zero, wp_sSeq, wp_fnD, wp_ok, wp_next, wp_ret, wp_ite, wp_ites, outP_ret, wp_sIf, wp_sRet, wp_sRetN, wp_sAsg, wp_sExpr, wp_sNext, wp_sFor, wp_sPar, par2_ok, wp_tOf, wp_tOr, wp_tAnd, wp_tNot, wp_tYes, wp_eBin, wp_eVar0, wp_eVars, wp_eK, wp_eUn, wp_eArgs, wp_aCons, wp_aNil, wp_eAnd, wp_eOr, wp_eNot, wp_eIf, wp_eChain, wp_eSl, wp_eM, wp_oSome, wp_oNone, wp_eFrz, wp_eLc, wp_iL, wp_iT, wp_iS, wp_iR1, gwp_N, gwp_nil, gwp_cons, gwp_T, gwp_sub, List.set_cons_zero, List.set_cons_succ, Bool.not_true, Bool.not_false, Bool.false_eq_true, if_true, if_false, cmp_ii, neg_i, add_ii, sub_ii, decide_eq_true_eq, Nat.reduceLeDiff, Nat.reduceEqDiff, D.bl.injEq, D.int.injEq, D.str.injEq, D.tup.injEq, D.lst.injEq, exists_eq_left', exists_eq_left, true_and, and_true, Option.some.injEq, List.cons.injEq, eq_self, reduceCtorEq, or_false, false_or, false_and, and_false, and_self, mkL_ok, mkT_ok, mkC_ok, le_size, wipeD, len_lst, len_ro, len_tup, Den.len_str, okL_ok, tyChk_str, Den.sl_tup, list_tup, max_ii, min_ii, abs_i, mul_ii (mulOk_of (i := s) (j := 40) (by omega) (by omega))]
  refine take_wp hp g (divOk_of (by omega) (by omega)) fun k5 a b k50 k51 g => ?_
  try simp only [Den.envOf, List.map_cons, List.map_nil, List.length_cons, List.length_nil, List.replicate, List.cons_append, List.nil_append, List.append_nil, Nat.reduceAdd, Nat.reduceSub, Nat.zero_add, Nat.add_zero, wp_sSeq, wp_fnD, wp_ok, wp_next, wp_ret, wp_ite, wp_ites, outP_ret, wp_sIf, wp_sRet, wp_sRetN, wp_sAsg, wp_sExpr, wp_sNext, wp_sFor, wp_sPar, par2_ok, wp_tOf, wp_tOr, wp_tAnd, wp_tNot, wp_tYes, wp_eBin, wp_eVar0, wp_eVars, wp_eK, wp_eUn, wp_eArgs, wp_aCons, wp_aNil, wp_eAnd, wp_eOr, wp_eNot, wp_eIf, wp_eChain, wp_eSl, wp_eM, wp_oSome, wp_oNone, wp_eFrz, wp_eLc, wp_iL, wp_iT, wp_iS, wp_iR1, gwp_N, gwp_nil, gwp_cons, gwp_T, gwp_sub, List.set_cons_zero, List.set_cons_succ, Bool.not_true, Bool.not_false, Bool.false_eq_true, if_true, if_false, cmp_ii, neg_i, add_ii, sub_ii, decide_eq_true_eq, Nat.reduceLeDiff, Nat.reduceEqDiff, D.bl.injEq, D.int.injEq, D.str.injEq, D.tup.injEq, D.lst.injEq, exists_eq_left', exists_eq_left, true_and, and_true, Option.some.injEq, List.cons.injEq, eq_self, reduceCtorEq, or_false, false_or, false_and, and_false, and_self, mkL_ok, mkT_ok, mkC_ok, le_size, wipeD, len_lst, len_ro, len_tup, Den.len_str, okL_ok, tyChk_str, Den.sl_tup, list_tup, max_ii, min_ii, abs_i]
  refine among_wp hp g (by simp) (by simp) fun d a b m g => ?_
  try simp only [Den.envOf, List.map_cons, List.map_nil, List.length_cons, List.length_nil, List.replicate, List.cons_append, List.nil_append, List.append_nil, Nat.reduceAdd, Nat.reduceSub, Nat.zero_add, Nat.add_zero, wp_sSeq, wp_fnD, wp_ok, wp_next, wp_ret, wp_ite, wp_ites, outP_ret, wp_sIf, wp_sRet, wp_sRetN, wp_sAsg, wp_sExpr, wp_sNext, wp_sFor, wp_sPar, par2_ok, wp_tOf, wp_tOr, wp_tAnd, wp_tNot, wp_tYes, wp_eBin, wp_eVar0, wp_eVars, wp_eK, wp_eUn, wp_eArgs, wp_aCons, wp_aNil, wp_eAnd, wp_eOr, wp_eNot, wp_eIf, wp_eChain, wp_eSl, wp_eM, wp_oSome, wp_oNone, wp_eFrz, wp_eLc, wp_iL, wp_iT, wp_iS, wp_iR1, gwp_N, gwp_nil, gwp_cons, gwp_T, gwp_sub, List.set_cons_zero, List.set_cons_succ, Bool.not_true, Bool.not_false, Bool.false_eq_true, if_true, if_false, cmp_ii, neg_i, add_ii, sub_ii, decide_eq_true_eq, Nat.reduceLeDiff, Nat.reduceEqDiff, D.bl.injEq, D.int.injEq, D.str.injEq, D.tup.injEq, D.lst.injEq, exists_eq_left', exists_eq_left, true_and, and_true, Option.some.injEq, List.cons.injEq, eq_self, reduceCtorEq, or_false, false_or, false_and, and_false, and_self, mkL_ok, mkT_ok, mkC_ok, le_size, wipeD, len_lst, len_ro, len_tup, Den.len_str, okL_ok, tyChk_str, Den.sl_tup, list_tup, max_ii, min_ii, abs_i, hout]
  have key : ∀ h, 0 ≤ h → h < 10 ^ 60 → Q (.int h) (C.set p (pc a b)) := fun h h0 h1 => nx h a b ⟨h0, h1⟩ g
  simp only [List.mem_cons, List.not_mem_nil, or_false] at m
  rcases m with rfl | rfl | rfl | rfl | rfl | rfl
  · exact key _ (by omega) (by omega)
  · exact key _ (by omega) (by omega)
  · exact key _ (by omega) (by omega)
  · refine key _ ?_ ?_ <;> split <;> omega
  · exact key _ (by omega) (by omega)
  · exact key _ (by omega) (by omega)
/-! jars -/
abbrev J3 := Str × Int × Int
def jD (t : J3) : D := .tup [.str t.1, .int t.2.1, .int t.2.2]
def JOk (t : J3) : Prop := Lb t.1 ∧ 2 ≤ t.2.1 ∧ t.2.1 ≤ 1000000 ∧ Hp60 t.2.2
structure Row (ts : List J3) : Prop where
  ok : ∀ t ∈ ts, JOk t
  nd : (ts.map (·.1)).Nodup
  pos : 1 ≤ ts.length
  le : ts.length ≤ 12
/-- the store with two lists on top -/
abbrev W2 (C : Store) (p : Nat) (L F : List D) (a b : Int) : Store := List.set (C ++ [Cell.lst L, Cell.lst F]) p (pc a b)
section
variable {C : Store} {p : Nat} {L F : List D} {a b : Int}
theorem W2_q (hp : p < C.length) : (W2 C p L F a b)[C.length]? = some (.lst L) := by
  unfold W2; rw [List.getElem?_set_ne (by omega)]; simp
theorem W2_r (hp : p < C.length) : (W2 C p L F a b)[C.length + 1]? = some (.lst F) := by
  unfold W2; rw [List.getElem?_set_ne (by omega)]; simp
theorem W2_setq (hp : p < C.length) {L' : List D} : (W2 C p L F a b).set C.length (.lst L') = W2 C p L' F a b := by
  unfold W2; rw [List.set_comm _ _ (by omega)]; simp [List.set_append]
theorem W2_setr (hp : p < C.length) {F' : List D} : (W2 C p L F a b).set (C.length + 1) (.lst F') = W2 C p L F' a b := by
  unfold W2; rw [List.set_comm _ _ (by omega)]; simp [List.set_append]
theorem W2_len : (W2 C p L F a b).length = C.length + 2 := by unfold W2; simp
theorem W2_take (hp : p < C.length) {c : Cell} : ((W2 C p L F a b).set (C.length + 1) c).take C.length = C.set p (pc a b) := by
  unfold W2
  rw [List.set_append_left _ _ hp, List.set_append_right _ _ (by simp), List.take_append_of_le_length (by simp)]
  rw [List.take_of_length_le (by simp)]
theorem W2_new (hp : p < C.length) : C.set p (pc a b) ++ [Cell.lst L] ++ [Cell.lst F] = W2 C p L F a b := by
  unfold W2
  rw [List.set_append_left _ _ hp]; simp
theorem toPy_strs {st : Store} {n : Nat} {us : List Str} (h : st[n]? = some (.lst (us.map .str))) : toPy st (.cell n) = some (.list (us.map .str)) := by
  have : ∀ us : List Str, toPyCs (fun _ => none) (us.map D.str) = some (us.map .str) := by
    intro us
    induction us with
    | nil => rfl
    | cons u us ih => simp only [List.map_cons, toPyCs, toPyC, ih]
  simp only [toPyC, cel0, h, Option.bind_some, asC, this, Option.map_some]
theorem append_cell {st : Store} {n : Nat} {xs : List D} {e : D} (h : st[n]? = some (.lst xs)) (hl : xs.length < sizeLine) : appendD (.cell n) [e] st = .ok .non (st.set n (.lst (xs ++ [e]))) := by
  simp only [appendD, lstCell, h, hl, if_true]
end
theorem outD_cut {st st' : Store} {d : D} {Q : D → Store → Prop} {E : Xc → Store → Prop} (h : st.length ≤ st'.length) (h' : st.length < st'.length ∨ True) (hd : d.lo st.length = true) (hs : (st'.take st.length).all (Cell.lo st.length) = true) (q : Q d (st'.take st.length)) : (outD true st d st').wp Q E := by
  unfold outD
  by_cases hl : st'.length = st.length
  · have : st'.take st.length = st' := List.take_of_length_le (by omega)
    rw [this] at q
    simp [hl]; exact q
  · simp [hl, hd, hs]; exact q
theorem all_set {C : Store} {n p : Nat} {c : Cell} (h : C.all (Cell.lo n) = true) (hc : Cell.lo n c = true) : (C.set p c).all (Cell.lo n) = true := by
  rw [List.all_eq_true] at h ⊢
  intro x hx
  rcases List.mem_or_eq_of_mem_set hx with hx | rfl
  · exact h x hx
  · exact hc
theorem loS_jars (n : Nat) : ∀ ts : List J3, loS n (ts.map jD) = true
  | [] => rfl
  | t :: ts => by simp only [List.map_cons, loS, jD, D.lo, loS_jars n ts, Bool.and_self]
theorem row_wp {C : Store} {p : Nat} {a b : Int} {Q : D → Store → Prop} {E : Xc → Store → Prop} (hp : p < C.length) (hC : C.all (Cell.lo C.length) = true) (g : Gd a b)
    (nx : ∀ ts a' b', Row ts → Gd a' b' → Q (.lst (ts.map jD)) (C.set p (pc a' b'))) : (den_law_row [.cell p, .int 12] (C.set p (pc a b))).wp Q E := by
  unfold den_law_row
  have hlen : ∀ c, (C.set p c).length = C.length := fun c => List.length_set
  have hp2 : ∀ L F : List D, p < (C ++ [Cell.lst L, .lst F]).length := fun L F => by simp; omega
  try simp only [Den.envOf, List.map_cons, List.map_nil, List.length_cons, List.length_nil, List.replicate, List.cons_append, List.nil_append, List.append_nil, Nat.reduceAdd, Nat.reduceSub, Nat.zero_add, Nat.add_zero, wp_sSeq, wp_fnD, wp_ok, wp_next, wp_ret, wp_ite, wp_ites, outP_ret, wp_sIf, wp_sRet, wp_sRetN, wp_sAsg, wp_sExpr, wp_sNext, wp_sFor, wp_sPar, par2_ok, wp_tOf, wp_tOr, wp_tAnd, wp_tNot, wp_tYes, wp_eBin, wp_eVar0, wp_eVars, wp_eK, wp_eUn, wp_eArgs, wp_aCons, wp_aNil, wp_eAnd, wp_eOr, wp_eNot, wp_eIf, wp_eChain, wp_eSl, wp_eM, wp_oSome, wp_oNone, wp_eFrz, wp_eLc, wp_iL, wp_iT, wp_iS, wp_iR1, gwp_N, gwp_nil, gwp_cons, gwp_T, gwp_sub, List.set_cons_zero, List.set_cons_succ, Bool.not_true, Bool.not_false, Bool.false_eq_true, if_true, if_false, cmp_ii, neg_i, add_ii, sub_ii, decide_eq_true_eq, Nat.reduceLeDiff, Nat.reduceEqDiff, D.bl.injEq, D.int.injEq, D.str.injEq, D.tup.injEq, D.lst.injEq, exists_eq_left', exists_eq_left, true_and, and_true, Option.some.injEq, List.cons.injEq, eq_self, reduceCtorEq, or_false, false_or, false_and, and_false, and_self, mkL_ok, mkT_ok, mkC_ok, le_size, wipeD, len_lst, len_ro, len_tup, Den.len_str, okL_ok, tyChk_str, Den.sl_tup, list_tup, max_ii, min_ii, abs_i, List.length_append, hlen, W2_new hp]
  refine take_wp (hp2 _ _) g (by decide) fun k1 a b k10 k11 g => ?_
  try simp only [Den.envOf, List.map_cons, List.map_nil, List.length_cons, List.length_nil, List.replicate, List.cons_append, List.nil_append, List.append_nil, Nat.reduceAdd, Nat.reduceSub, Nat.zero_add, Nat.add_zero, wp_sSeq, wp_fnD, wp_ok, wp_next, wp_ret, wp_ite, wp_ites, outP_ret, wp_sIf, wp_sRet, wp_sRetN, wp_sAsg, wp_sExpr, wp_sNext, wp_sFor, wp_sPar, par2_ok, wp_tOf, wp_tOr, wp_tAnd, wp_tNot, wp_tYes, wp_eBin, wp_eVar0, wp_eVars, wp_eK, wp_eUn, wp_eArgs, wp_aCons, wp_aNil, wp_eAnd, wp_eOr, wp_eNot, wp_eIf, wp_eChain, wp_eSl, wp_eM, wp_oSome, wp_oNone, wp_eFrz, wp_eLc, wp_iL, wp_iT, wp_iS, wp_iR1, gwp_N, gwp_nil, gwp_cons, gwp_T, gwp_sub, List.set_cons_zero, List.set_cons_succ, Bool.not_true, Bool.not_false, Bool.false_eq_true, if_true, if_false, cmp_ii, neg_i, add_ii, sub_ii, decide_eq_true_eq, Nat.reduceLeDiff, Nat.reduceEqDiff, D.bl.injEq, D.int.injEq, D.str.injEq, D.tup.injEq, D.lst.injEq, exists_eq_left', exists_eq_left, true_and, and_true, Option.some.injEq, List.cons.injEq, eq_self, reduceCtorEq, or_false, false_or, false_and, and_false, and_self, mkL_ok, mkT_ok, mkC_ok, le_size, wipeD, len_lst, len_ro, len_tup, Den.len_str, okL_ok, tyChk_str, Den.sl_tup, list_tup, max_ii, min_ii, abs_i]
  refine take_wp (hp2 _ _) g (by decide) fun k2 a b k20 k21 g => ?_
  obtain ⟨d, e, m⟩ := atI_nat (xs := [D.int 1, .int 2, .int 3, .int (1 + k1)]) k20 k21
  obtain ⟨n, rfl, n1, n2⟩ : ∃ n : Int, d = .int n ∧ 1 ≤ n ∧ n ≤ 12 := by
    simp only [List.mem_cons, List.not_mem_nil, or_false] at m
    rcases m with rfl | rfl | rfl | rfl
    · exact ⟨1, rfl, by omega, by omega⟩
    · exact ⟨2, rfl, by omega, by omega⟩
    · exact ⟨3, rfl, by omega, by omega⟩
    · exact ⟨1 + k1, rfl, by omega, by omega⟩
  try simp only [Den.envOf, List.map_cons, List.map_nil, List.length_cons, List.length_nil, List.replicate, List.cons_append, List.nil_append, List.append_nil, Nat.reduceAdd, Nat.reduceSub, Nat.zero_add, Nat.add_zero, wp_sSeq, wp_fnD, wp_ok, wp_next, wp_ret, wp_ite, wp_ites, outP_ret, wp_sIf, wp_sRet, wp_sRetN, wp_sAsg, wp_sExpr, wp_sNext, wp_sFor, wp_sPar, par2_ok, wp_tOf, wp_tOr, wp_tAnd, wp_tNot, wp_tYes, wp_eBin, wp_eVar0, wp_eVars, wp_eK, wp_eUn, wp_eArgs, wp_aCons, wp_aNil, wp_eAnd, wp_eOr, wp_eNot, wp_eIf, wp_eChain, wp_eSl, wp_eM, wp_oSome, wp_oNone, wp_eFrz, wp_eLc, wp_iL, wp_iT, wp_iS, wp_iR1, gwp_N, gwp_nil, gwp_cons, gwp_T, gwp_sub, List.set_cons_zero, List.set_cons_succ, Bool.not_true, Bool.not_false, Bool.false_eq_true, if_true, if_false, cmp_ii, neg_i, add_ii, sub_ii, decide_eq_true_eq, Nat.reduceLeDiff, Nat.reduceEqDiff, D.bl.injEq, D.int.injEq, D.str.injEq, D.tup.injEq, D.lst.injEq, exists_eq_left', exists_eq_left, true_and, and_true, Option.some.injEq, List.cons.injEq, eq_self, reduceCtorEq, or_false, false_or, false_and, and_false, and_self, mkL_ok, mkT_ok, mkC_ok, le_size, wipeD, len_lst, len_ro, len_tup, Den.len_str, okL_ok, tyChk_str, Den.sl_tup, list_tup, max_ii, min_ii, abs_i, ix_lst e]
  refine ⟨by omega, by omega, ?_⟩
  refine wp_for (fun items env st => ∃ (a b : Int) (ts : List J3) (o1 o2 : Option D), env = [some (.cell p), some (.int 12), some (.cell C.length), some (.cell (C.length + 1)), o1, o2] ∧
    st = W2 C p ((ts.map (·.1)).map .str) (ts.map jD) a b ∧ Gd a b ∧ (∀ t ∈ ts, JOk t) ∧ (ts.map (·.1)).Nodup ∧ ts.length + items.length = n.toNat) ?_ ?_ _ _ _ ⟨a, b, [], none, none, rfl, rfl, g, by simp, by simp, by simp [rngD]⟩
  · rintro d ds env st ⟨a, b, ts, o1, o2, rfl, rfl, g, h1, h2, h3⟩
    refine ⟨_, _, rfl, ?_⟩
    simp only [List.length_cons] at h3
    try simp only [Den.envOf, List.map_cons, List.map_nil, List.length_cons, List.length_nil, List.replicate, List.cons_append, List.nil_append, List.append_nil, Nat.reduceAdd, Nat.reduceSub, Nat.zero_add, Nat.add_zero, wp_sSeq, wp_fnD, wp_ok, wp_next, wp_ret, wp_ite, wp_ites, outP_ret, wp_sIf, wp_sRet, wp_sRetN, wp_sAsg, wp_sExpr, wp_sNext, wp_sFor, wp_sPar, par2_ok, wp_tOf, wp_tOr, wp_tAnd, wp_tNot, wp_tYes, wp_eBin, wp_eVar0, wp_eVars, wp_eK, wp_eUn, wp_eArgs, wp_aCons, wp_aNil, wp_eAnd, wp_eOr, wp_eNot, wp_eIf, wp_eChain, wp_eSl, wp_eM, wp_oSome, wp_oNone, wp_eFrz, wp_eLc, wp_iL, wp_iT, wp_iS, wp_iR1, gwp_N, gwp_nil, gwp_cons, gwp_T, gwp_sub, List.set_cons_zero, List.set_cons_succ, Bool.not_true, Bool.not_false, Bool.false_eq_true, if_true, if_false, cmp_ii, neg_i, add_ii, sub_ii, decide_eq_true_eq, Nat.reduceLeDiff, Nat.reduceEqDiff, D.bl.injEq, D.int.injEq, D.str.injEq, D.tup.injEq, D.lst.injEq, exists_eq_left', exists_eq_left, true_and, and_true, Option.some.injEq, List.cons.injEq, eq_self, reduceCtorEq, or_false, false_or, false_and, and_false, and_self, mkL_ok, mkT_ok, mkC_ok, le_size, wipeD, len_lst, len_ro, len_tup, Den.len_str, okL_ok, tyChk_str, Den.sl_tup, list_tup, max_ii, min_ii, abs_i, tyChk_cell (W2_q (L := (ts.map (·.1)).map .str) (F := ts.map jD) (a := a) (b := b) hp)]
    refine label_wp (us := ts.map (·.1)) (hp2 _ _) g (fun a b => toPy_strs (W2_q hp)) (by simp; omega) (fun x hx => by obtain ⟨t, ht, rfl⟩ := List.mem_map.mp hx; exact (h1 t ht).1) fun x a b hx hn g => ?_
    have e1 := append_cell (e := .str x) (W2_q (L := (ts.map (·.1)).map .str) (F := ts.map jD) (a := a) (b := b) hp) (Nat.lt_of_lt_of_le (m := 1000) (by simp; omega) (le_size (Nat.le_refl _)))
    rw [W2_setq hp] at e1
    try simp only [Den.envOf, List.map_cons, List.map_nil, List.length_cons, List.length_nil, List.replicate, List.cons_append, List.nil_append, List.append_nil, Nat.reduceAdd, Nat.reduceSub, Nat.zero_add, Nat.add_zero, wp_sSeq, wp_fnD, wp_ok, wp_next, wp_ret, wp_ite, wp_ites, outP_ret, wp_sIf, wp_sRet, wp_sRetN, wp_sAsg, wp_sExpr, wp_sNext, wp_sFor, wp_sPar, par2_ok, wp_tOf, wp_tOr, wp_tAnd, wp_tNot, wp_tYes, wp_eBin, wp_eVar0, wp_eVars, wp_eK, wp_eUn, wp_eArgs, wp_aCons, wp_aNil, wp_eAnd, wp_eOr, wp_eNot, wp_eIf, wp_eChain, wp_eSl, wp_eM, wp_oSome, wp_oNone, wp_eFrz, wp_eLc, wp_iL, wp_iT, wp_iS, wp_iR1, gwp_N, gwp_nil, gwp_cons, gwp_T, gwp_sub, List.set_cons_zero, List.set_cons_succ, Bool.not_true, Bool.not_false, Bool.false_eq_true, if_true, if_false, cmp_ii, neg_i, add_ii, sub_ii, decide_eq_true_eq, Nat.reduceLeDiff, Nat.reduceEqDiff, D.bl.injEq, D.int.injEq, D.str.injEq, D.tup.injEq, D.lst.injEq, exists_eq_left', exists_eq_left, true_and, and_true, Option.some.injEq, List.cons.injEq, eq_self, reduceCtorEq, or_false, false_or, false_and, and_false, and_self, mkL_ok, mkT_ok, mkC_ok, le_size, wipeD, len_lst, len_ro, len_tup, Den.len_str, okL_ok, tyChk_str, Den.sl_tup, list_tup, max_ii, min_ii, abs_i, e1]
    have hls : (ts.map (·.1)).map D.str ++ [D.str x] = ((ts.map (·.1)) ++ [x]).map .str := by simp
    refine size_wp (hp2 _ _) g fun s a b s1 s2 g => ?_
    try simp only [Den.envOf, List.map_cons, List.map_nil, List.length_cons, List.length_nil, List.replicate, List.cons_append, List.nil_append, List.append_nil, Nat.reduceAdd, Nat.reduceSub, Nat.zero_add, Nat.add_zero, wp_sSeq, wp_fnD, wp_ok, wp_next, wp_ret, wp_ite, wp_ites, outP_ret, wp_sIf, wp_sRet, wp_sRetN, wp_sAsg, wp_sExpr, wp_sNext, wp_sFor, wp_sPar, par2_ok, wp_tOf, wp_tOr, wp_tAnd, wp_tNot, wp_tYes, wp_eBin, wp_eVar0, wp_eVars, wp_eK, wp_eUn, wp_eArgs, wp_aCons, wp_aNil, wp_eAnd, wp_eOr, wp_eNot, wp_eIf, wp_eChain, wp_eSl, wp_eM, wp_oSome, wp_oNone, wp_eFrz, wp_eLc, wp_iL, wp_iT, wp_iS, wp_iR1, gwp_N, gwp_nil, gwp_cons, gwp_T, gwp_sub, List.set_cons_zero, List.set_cons_succ, Bool.not_true, Bool.not_false, Bool.false_eq_true, if_true, if_false, cmp_ii, neg_i, add_ii, sub_ii, decide_eq_true_eq, Nat.reduceLeDiff, Nat.reduceEqDiff, D.bl.injEq, D.int.injEq, D.str.injEq, D.tup.injEq, D.lst.injEq, exists_eq_left', exists_eq_left, true_and, and_true, Option.some.injEq, List.cons.injEq, eq_self, reduceCtorEq, or_false, false_or, false_and, and_false, and_self, mkL_ok, mkT_ok, mkC_ok, le_size, wipeD, len_lst, len_ro, len_tup, Den.len_str, okL_ok, tyChk_str, Den.sl_tup, list_tup, max_ii, min_ii, abs_i, tyChk_cell (W2_r (L := (ts.map (·.1)).map .str ++ [.str x]) (F := ts.map jD) (a := a) (b := b) hp), ix_cell (W2_q (L := (ts.map (·.1)).map .str ++ [.str x]) (F := ts.map jD) (a := a) (b := b) hp) atI_last]
    refine heap_wp (hp2 _ _) g s1 s2 fun h a b hh g => ?_
    have e2 := append_cell (e := .tup [.str x, .int s, .int h]) (W2_r (L := (ts.map (·.1)).map .str ++ [.str x]) (F := ts.map jD) (a := a) (b := b) hp) (Nat.lt_of_lt_of_le (m := 1000) (by simp; omega) (le_size (Nat.le_refl _)))
    rw [W2_setr hp] at e2
    try simp only [Den.envOf, List.map_cons, List.map_nil, List.length_cons, List.length_nil, List.replicate, List.cons_append, List.nil_append, List.append_nil, Nat.reduceAdd, Nat.reduceSub, Nat.zero_add, Nat.add_zero, wp_sSeq, wp_fnD, wp_ok, wp_next, wp_ret, wp_ite, wp_ites, outP_ret, wp_sIf, wp_sRet, wp_sRetN, wp_sAsg, wp_sExpr, wp_sNext, wp_sFor, wp_sPar, par2_ok, wp_tOf, wp_tOr, wp_tAnd, wp_tNot, wp_tYes, wp_eBin, wp_eVar0, wp_eVars, wp_eK, wp_eUn, wp_eArgs, wp_aCons, wp_aNil, wp_eAnd, wp_eOr, wp_eNot, wp_eIf, wp_eChain, wp_eSl, wp_eM, wp_oSome, wp_oNone, wp_eFrz, wp_eLc, wp_iL, wp_iT, wp_iS, wp_iR1, gwp_N, gwp_nil, gwp_cons, gwp_T, gwp_sub, List.set_cons_zero, List.set_cons_succ, Bool.not_true, Bool.not_false, Bool.false_eq_true, if_true, if_false, cmp_ii, neg_i, add_ii, sub_ii, decide_eq_true_eq, Nat.reduceLeDiff, Nat.reduceEqDiff, D.bl.injEq, D.int.injEq, D.str.injEq, D.tup.injEq, D.lst.injEq, exists_eq_left', exists_eq_left, true_and, and_true, Option.some.injEq, List.cons.injEq, eq_self, reduceCtorEq, or_false, false_or, false_and, and_false, and_self, mkL_ok, mkT_ok, mkC_ok, le_size, wipeD, len_lst, len_ro, len_tup, Den.len_str, okL_ok, tyChk_str, Den.sl_tup, list_tup, max_ii, min_ii, abs_i, e2]
    refine ⟨a, b, ts ++ [(x, s, h)], _, _, ⟨rfl, rfl⟩, ?_, g, ?_, ?_, by simp; omega⟩
    · simp [jD]
    · intro t ht
      rcases List.mem_append.mp ht with ht | ht
      · exact h1 t ht
      · rw [List.mem_singleton.mp ht]; exact ⟨hx, s1, s2, hh⟩
    · rw [List.map_append, List.nodup_append]
      refine ⟨h2, by simp, ?_⟩
      intro y hy z hz e
      simp only [List.map_cons, List.map_nil, List.mem_singleton] at hz
      subst hz; subst e
      exact hn hy
  rintro env st ⟨a, b, ts, o1, o2, rfl, rfl, g, h1, h2, h3⟩
  simp only [List.length_nil, Nat.add_zero] at h3
  have e3 : frzC (.cell (C.length + 1)) (W2 C p ((ts.map (·.1)).map .str) (ts.map jD) a b) = .ok (.lst (ts.map jD)) ((W2 C p ((ts.map (·.1)).map .str) (ts.map jD) a b).set (C.length + 1) (.fz (.lst (ts.map jD)))) := by
    simp only [frzC, W2_r hp]
  try simp only [Den.envOf, List.map_cons, List.map_nil, List.length_cons, List.length_nil, List.replicate, List.cons_append, List.nil_append, List.append_nil, Nat.reduceAdd, Nat.reduceSub, Nat.zero_add, Nat.add_zero, wp_sSeq, wp_fnD, wp_ok, wp_next, wp_ret, wp_ite, wp_ites, outP_ret, wp_sIf, wp_sRet, wp_sRetN, wp_sAsg, wp_sExpr, wp_sNext, wp_sFor, wp_sPar, par2_ok, wp_tOf, wp_tOr, wp_tAnd, wp_tNot, wp_tYes, wp_eBin, wp_eVar0, wp_eVars, wp_eK, wp_eUn, wp_eArgs, wp_aCons, wp_aNil, wp_eAnd, wp_eOr, wp_eNot, wp_eIf, wp_eChain, wp_eSl, wp_eM, wp_oSome, wp_oNone, wp_eFrz, wp_eLc, wp_iL, wp_iT, wp_iS, wp_iR1, gwp_N, gwp_nil, gwp_cons, gwp_T, gwp_sub, List.set_cons_zero, List.set_cons_succ, Bool.not_true, Bool.not_false, Bool.false_eq_true, if_true, if_false, cmp_ii, neg_i, add_ii, sub_ii, decide_eq_true_eq, Nat.reduceLeDiff, Nat.reduceEqDiff, D.bl.injEq, D.int.injEq, D.str.injEq, D.tup.injEq, D.lst.injEq, exists_eq_left', exists_eq_left, true_and, and_true, Option.some.injEq, List.cons.injEq, eq_self, reduceCtorEq, or_false, false_or, false_and, and_false, and_self, mkL_ok, mkT_ok, mkC_ok, le_size, wipeD, len_lst, len_ro, len_tup, Den.len_str, okL_ok, tyChk_str, Den.sl_tup, list_tup, max_ii, min_ii, abs_i, e3]
  refine outD_cut (by simp) (by simp) ?_ ?_ ?_
  · simp only [D.lo]; exact loS_jars _ _
  · rw [hlen, W2_take hp]
    exact all_set hC (by simp [pc, Cell.lo, loS, D.lo])
  · rw [hlen, W2_take hp]
    exact nx ts a b ⟨h1, h2, by omega, by omega⟩ g
/-! ### odd things -/
def oddL : List D := [.non, .bl true, .bl false, .int 0, .int 1, .int (-1), .int 2, .int (10 ^ 6), .int (10 ^ 6 + 1), .int (10 ^ 59), .int (0 - 10 ^ 40), .str "", .str "A", .str "a b", .str "a1",
  .str "abcdefghi", .str "-", .str " a", .str "a\n", .lst [], .lst [.str "a"], .tup [], .tup [.str "a"], .dct [], .dct [(.inr "a", .int 1)], .tup [.str "a", .int 2], .tup [.str "a", .int 2, .int 3, .int 4],
  .lst [.str "a", .int 2, .int 3], .str "a", .lst [.int 2]]
theorem oddL_fine : oddL.all fine = true := by decide +kernel
theorem odd_wp {C : Store} {p : Nat} {a b : Int} {Q : D → Store → Prop} {E : Xc → Store → Prop} (hp : p < C.length) (g : Gd a b)
    (nx : ∀ d a' b', d ∈ oddL → Gd a' b' → Q d (C.set p (pc a' b'))) : (den_law_odd [.cell p] (C.set p (pc a b))).wp Q E := by
  unfold den_law_odd
  have hlen : ∀ c, (C.set p c).length = C.length := fun c => List.length_set
  have hout : ∀ c c' d, (outD true (C.set p c) d (C.set p c')).wp Q E = Q d (C.set p c') := fun c c' d => wp_outD_same (by rw [hlen, hlen])
  try simp only [Den.envOf, List.map_cons, List.map_nil, List.length_cons, List.length_nil, List.replicate, List.cons_append, List.nil_append, List.append_nil, Nat.reduceAdd, Nat.reduceSub, Nat.zero_add, Nat.add_zero, wp_sSeq, wp_fnD, wp_ok, wp_next, wp_ret, wp_ite, wp_ites, outP_ret, wp_sIf, wp_sRet, wp_sRetN, wp_sAsg, wp_sExpr, wp_sNext, wp_sFor, wp_sPar, par2_ok, wp_tOf, wp_tOr, wp_tAnd, wp_tNot, wp_tYes, wp_eBin, wp_eVar0, wp_eVars, wp_eK, wp_eUn, wp_eArgs, wp_aCons, wp_aNil, wp_eAnd, wp_eOr, wp_eNot, wp_eIf, wp_eChain, wp_eSl, wp_eM, wp_oSome, wp_oNone, wp_eFrz, wp_eLc, wp_iL, wp_iT, wp_iS, wp_iR1, gwp_N, gwp_nil, gwp_cons, gwp_T, gwp_sub, List.set_cons_zero, List.set_cons_succ, Bool.not_true, Bool.not_false, Bool.false_eq_true, if_true, if_false, cmp_ii, neg_i, add_ii, sub_ii, decide_eq_true_eq, Nat.reduceLeDiff, Nat.reduceEqDiff, D.bl.injEq, D.int.injEq, D.str.injEq, D.tup.injEq, D.lst.injEq, exists_eq_left', exists_eq_left, true_and, and_true, Option.some.injEq, List.cons.injEq, eq_self, reduceCtorEq, or_false, false_or, false_and, and_false, and_self, mkL_ok, mkT_ok, mkC_ok, le_size, wipeD, len_lst, len_ro, len_tup, Den.len_str, okL_ok, tyChk_str, Den.sl_tup, list_tup, max_ii, min_ii, abs_i, pow_ii (i := 10) (j := 6) (by decide), pow_ii (i := 10) (j := 59) (by decide), pow_ii (i := 10) (j := 40) (by decide), wp_eDict1, add_ll]
  refine among_wp hp g (by simp) (by simp) fun d a b m g => ?_
  try simp only [Den.envOf, List.map_cons, List.map_nil, List.length_cons, List.length_nil, List.replicate, List.cons_append, List.nil_append, List.append_nil, Nat.reduceAdd, Nat.reduceSub, Nat.zero_add, Nat.add_zero, wp_sSeq, wp_fnD, wp_ok, wp_next, wp_ret, wp_ite, wp_ites, outP_ret, wp_sIf, wp_sRet, wp_sRetN, wp_sAsg, wp_sExpr, wp_sNext, wp_sFor, wp_sPar, par2_ok, wp_tOf, wp_tOr, wp_tAnd, wp_tNot, wp_tYes, wp_eBin, wp_eVar0, wp_eVars, wp_eK, wp_eUn, wp_eArgs, wp_aCons, wp_aNil, wp_eAnd, wp_eOr, wp_eNot, wp_eIf, wp_eChain, wp_eSl, wp_eM, wp_oSome, wp_oNone, wp_eFrz, wp_eLc, wp_iL, wp_iT, wp_iS, wp_iR1, gwp_N, gwp_nil, gwp_cons, gwp_T, gwp_sub, List.set_cons_zero, List.set_cons_succ, Bool.not_true, Bool.not_false, Bool.false_eq_true, if_true, if_false, cmp_ii, neg_i, add_ii, sub_ii, decide_eq_true_eq, Nat.reduceLeDiff, Nat.reduceEqDiff, D.bl.injEq, D.int.injEq, D.str.injEq, D.tup.injEq, D.lst.injEq, exists_eq_left', exists_eq_left, true_and, and_true, Option.some.injEq, List.cons.injEq, eq_self, reduceCtorEq, or_false, false_or, false_and, and_false, and_self, mkL_ok, mkT_ok, mkC_ok, le_size, wipeD, len_lst, len_ro, len_tup, Den.len_str, okL_ok, tyChk_str, Den.sl_tup, list_tup, max_ii, min_ii, abs_i, hout]
  exact nx d a b m g
def edgeL : List D := [.int 1, .int 2, .int 0, .int (-1), .int (10 ^ 6), .int (10 ^ 6 + 1), .bl true, .bl false, .int (10 ^ 59), .int (0 - 2), .non, .str "2"]
theorem edgeL_fine : edgeL.all fine = true := by decide +kernel
theorem edge_wp {C : Store} {p : Nat} {a b : Int} {Q : D → Store → Prop} {E : Xc → Store → Prop} (hp : p < C.length) (g : Gd a b)
    (nx : ∀ d a' b', d ∈ edgeL → Gd a' b' → Q d (C.set p (pc a' b'))) : (den_law_edge [.cell p] (C.set p (pc a b))).wp Q E := by
  unfold den_law_edge
  have hlen : ∀ c, (C.set p c).length = C.length := fun c => List.length_set
  have hout : ∀ c c' d, (outD true (C.set p c) d (C.set p c')).wp Q E = Q d (C.set p c') := fun c c' d => wp_outD_same (by rw [hlen, hlen])
  try simp only [Den.envOf, List.map_cons, List.map_nil, List.length_cons, List.length_nil, List.replicate, List.cons_append, List.nil_append, List.append_nil, Nat.reduceAdd, Nat.reduceSub, Nat.zero_add, Nat.add_zero, wp_sSeq, wp_fnD, wp_ok, wp_next, wp_ret, wp_ite, wp_ites, outP_ret, wp_sIf, wp_sRet, wp_sRetN, wp_sAsg, wp_sExpr, wp_sNext, wp_sFor, wp_sPar, par2_ok, wp_tOf, wp_tOr, wp_tAnd, wp_tNot, wp_tYes, wp_eBin, wp_eVar0, wp_eVars, wp_eK, wp_eUn, wp_eArgs, wp_aCons, wp_aNil, wp_eAnd, wp_eOr, wp_eNot, wp_eIf, wp_eChain, wp_eSl, wp_eM, wp_oSome, wp_oNone, wp_eFrz, wp_eLc, wp_iL, wp_iT, wp_iS, wp_iR1, gwp_N, gwp_nil, gwp_cons, gwp_T, gwp_sub, List.set_cons_zero, List.set_cons_succ, Bool.not_true, Bool.not_false, Bool.false_eq_true, if_true, if_false, cmp_ii, neg_i, add_ii, sub_ii, decide_eq_true_eq, Nat.reduceLeDiff, Nat.reduceEqDiff, D.bl.injEq, D.int.injEq, D.str.injEq, D.tup.injEq, D.lst.injEq, exists_eq_left', exists_eq_left, true_and, and_true, Option.some.injEq, List.cons.injEq, eq_self, reduceCtorEq, or_false, false_or, false_and, and_false, and_self, mkL_ok, mkT_ok, mkC_ok, le_size, wipeD, len_lst, len_ro, len_tup, Den.len_str, okL_ok, tyChk_str, Den.sl_tup, list_tup, max_ii, min_ii, abs_i, pow_ii (i := 10) (j := 6) (by decide), pow_ii (i := 10) (j := 59) (by decide)]
  refine among_wp hp g (by simp) (by simp) fun d a b m g => ?_
  try simp only [Den.envOf, List.map_cons, List.map_nil, List.length_cons, List.length_nil, List.replicate, List.cons_append, List.nil_append, List.append_nil, Nat.reduceAdd, Nat.reduceSub, Nat.zero_add, Nat.add_zero, wp_sSeq, wp_fnD, wp_ok, wp_next, wp_ret, wp_ite, wp_ites, outP_ret, wp_sIf, wp_sRet, wp_sRetN, wp_sAsg, wp_sExpr, wp_sNext, wp_sFor, wp_sPar, par2_ok, wp_tOf, wp_tOr, wp_tAnd, wp_tNot, wp_tYes, wp_eBin, wp_eVar0, wp_eVars, wp_eK, wp_eUn, wp_eArgs, wp_aCons, wp_aNil, wp_eAnd, wp_eOr, wp_eNot, wp_eIf, wp_eChain, wp_eSl, wp_eM, wp_oSome, wp_oNone, wp_eFrz, wp_eLc, wp_iL, wp_iT, wp_iS, wp_iR1, gwp_N, gwp_nil, gwp_cons, gwp_T, gwp_sub, List.set_cons_zero, List.set_cons_succ, Bool.not_true, Bool.not_false, Bool.false_eq_true, if_true, if_false, cmp_ii, neg_i, add_ii, sub_ii, decide_eq_true_eq, Nat.reduceLeDiff, Nat.reduceEqDiff, D.bl.injEq, D.int.injEq, D.str.injEq, D.tup.injEq, D.lst.injEq, exists_eq_left', exists_eq_left, true_and, and_true, Option.some.injEq, List.cons.injEq, eq_self, reduceCtorEq, or_false, false_or, false_and, and_false, and_self, mkL_ok, mkT_ok, mkC_ok, le_size, wipeD, len_lst, len_ro, len_tup, Den.len_str, okL_ok, tyChk_str, Den.sl_tup, list_tup, max_ii, min_ii, abs_i, hout]
  exact nx d a b m g
/-! ### things near a jar -/
abbrev Th (d : D) : Prop := Fd 2000 4 d
theorem oddL_th : ∀ d ∈ oddL, Fd 2000 1 d := by
  have h : oddL.all (fun d => lf d && decide (mz d ≤ 2000) && decide ((pyD d).depth ≤ 1)) = true := by decide +kernel
  intro d hd
  have := List.all_eq_true.mp h d hd
  simp only [Bool.and_eq_true, decide_eq_true_eq] at this
  exact ⟨this.1.1, this.1.2, this.2⟩
theorem edgeL_th : ∀ d ∈ edgeL, Fd 2000 1 d := by
  have h : edgeL.all (fun d => lf d && decide (mz d ≤ 2000) && decide ((pyD d).depth ≤ 1)) = true := by decide +kernel
  intro d hd
  have := List.all_eq_true.mp h d hd
  simp only [Bool.and_eq_true, decide_eq_true_eq] at this
  exact ⟨this.1.1, this.1.2, this.2⟩
theorem Lb.sf {x : Str} (h : Lb x) : Sf 8 x := by
  obtain ⟨cs, rfl, _, h8, h⟩ := h
  exact ⟨fun c hc => by have := h c hc; omega, h8⟩
theorem near_wp {C : Store} {p : Nat} {a b : Int} {t : J3} {Q : D → Store → Prop} {E : Xc → Store → Prop} (hp : p < C.length) (g : Gd a b) (ht : JOk t)
    (nx : ∀ ds a' b', (∀ d ∈ ds, fine d = true) → ds.length ≤ 100 → Gd a' b' → Q (.lst ds) (C.set p (pc a' b'))) : (den_law_near [.cell p, jD t] (C.set p (pc a b))).wp Q E := by
  obtain ⟨x, s, h⟩ := t
  obtain ⟨hx, s1, s2, h1, h2⟩ := ht
  simp only at hx s1 s2 h1 h2
  unfold den_law_near jD
  have hlen : ∀ c, (C.set p c).length = C.length := fun c => List.length_set
  have hout : ∀ c c' d, (outD true (C.set p c) d (C.set p c')).wp Q E = Q d (C.set p c') := fun c c' d => wp_outD_same (by rw [hlen, hlen])
  have sx := hx.sf
  have sc : ∀ z : Str, (z.cps.toList.all (· < 1000000) && decide (z.cps.toList.length ≤ 1)) = true → Sf 1 z := fun z hz => by
    simp only [Bool.and_eq_true, List.all_eq_true, decide_eq_true_eq] at hz; exact ⟨hz.1, hz.2⟩
  have sa8 : Sf 8 (Txt.mul "a" 8) := ⟨by decide +kernel, by decide +kernel⟩
  have ha8 : ∀ st, mulD (.str "a") (.int 8) st = .ok (.str (Txt.mul "a" 8)) st := fun st => mul_si (by decide +kernel)
  have k1 := sc " " (by decide +kernel)
  have k2 := sc "1" (by decide +kernel)
  have k3 := sc "-" (by decide +kernel)
  have k4 := sc "_" (by decide +kernel)
  try simp only [Den.envOf, List.map_cons, List.map_nil, List.length_cons, List.length_nil, List.replicate, List.cons_append, List.nil_append, List.append_nil, Nat.reduceAdd, Nat.reduceSub, Nat.zero_add, Nat.add_zero, wp_sSeq, wp_fnD, wp_ok, wp_next, wp_ret, wp_ite, wp_ites, outP_ret, wp_sIf, wp_sRet, wp_sRetN, wp_sAsg, wp_sExpr, wp_sNext, wp_sFor, wp_sPar, par2_ok, wp_tOf, wp_tOr, wp_tAnd, wp_tNot, wp_tYes, wp_eBin, wp_eVar0, wp_eVars, wp_eK, wp_eUn, wp_eArgs, wp_aCons, wp_aNil, wp_eAnd, wp_eOr, wp_eNot, wp_eIf, wp_eChain, wp_eSl, wp_eM, wp_oSome, wp_oNone, wp_eFrz, wp_eLc, wp_iL, wp_iT, wp_iS, wp_iR1, gwp_N, gwp_nil, gwp_cons, gwp_T, gwp_sub, List.set_cons_zero, List.set_cons_succ, Bool.not_true, Bool.not_false, Bool.false_eq_true, if_true, if_false, cmp_ii, neg_i, add_ii, sub_ii, decide_eq_true_eq, Nat.reduceLeDiff, Nat.reduceEqDiff, D.bl.injEq, D.int.injEq, D.str.injEq, D.tup.injEq, D.lst.injEq, exists_eq_left', exists_eq_left, true_and, and_true, Option.some.injEq, List.cons.injEq, eq_self, reduceCtorEq, or_false, false_or, false_and, and_false, and_self, mkL_ok, mkT_ok, mkC_ok, le_size, wipeD, len_lst, len_ro, len_tup, Den.len_str, okL_ok, tyChk_str, Den.sl_tup, list_tup, max_ii, min_ii, abs_i, ha8, add_sf sx sa8, sl_str sx.len, upper_s (Nat.le_trans sx.2 (by decide) : x.length ≤ 5592405), add_sf sx k1, add_sf k2 sx, add_sf sx sx, add_sf sx k3, add_sf (sx.cut none (some 1)) k4]
  have fx : Fd 2000 1 (.str x) := sx.fd.mono
  have fs : Fd 2000 1 (.int s) := (Fd.int (by omega)).mono
  have fh : Fd 2000 1 (.int h) := (Fd.int (by omega)).mono
  have f0 : Fd 2000 1 (.int 0) := (Fd.int (by decide)).mono
  have up : Sf 8 (Txt.upper x) := by
    obtain ⟨cs, rfl, _, h8, hc⟩ := hx
    exact Sf.upper (fun c m => by have := hc c m; omega) h8
  refine odd_wp hp g fun d1 a b m1 g => ?_
  have o1 := oddL_th d1 m1
  try simp only [Den.envOf, List.map_cons, List.map_nil, List.length_cons, List.length_nil, List.replicate, List.cons_append, List.nil_append, List.append_nil, Nat.reduceAdd, Nat.reduceSub, Nat.zero_add, Nat.add_zero, wp_sSeq, wp_fnD, wp_ok, wp_next, wp_ret, wp_ite, wp_ites, outP_ret, wp_sIf, wp_sRet, wp_sRetN, wp_sAsg, wp_sExpr, wp_sNext, wp_sFor, wp_sPar, par2_ok, wp_tOf, wp_tOr, wp_tAnd, wp_tNot, wp_tYes, wp_eBin, wp_eVar0, wp_eVars, wp_eK, wp_eUn, wp_eArgs, wp_aCons, wp_aNil, wp_eAnd, wp_eOr, wp_eNot, wp_eIf, wp_eChain, wp_eSl, wp_eM, wp_oSome, wp_oNone, wp_eFrz, wp_eLc, wp_iL, wp_iT, wp_iS, wp_iR1, gwp_N, gwp_nil, gwp_cons, gwp_T, gwp_sub, List.set_cons_zero, List.set_cons_succ, Bool.not_true, Bool.not_false, Bool.false_eq_true, if_true, if_false, cmp_ii, neg_i, add_ii, sub_ii, decide_eq_true_eq, Nat.reduceLeDiff, Nat.reduceEqDiff, D.bl.injEq, D.int.injEq, D.str.injEq, D.tup.injEq, D.lst.injEq, exists_eq_left', exists_eq_left, true_and, and_true, Option.some.injEq, List.cons.injEq, eq_self, reduceCtorEq, or_false, false_or, false_and, and_false, and_self, mkL_ok, mkT_ok, mkC_ok, le_size, wipeD, len_lst, len_ro, len_tup, Den.len_str, okL_ok, tyChk_str, Den.sl_tup, list_tup, max_ii, min_ii, abs_i, add_ll]
  refine among_wp hp g (by simp) (by simp) fun d2 a b m2 g => ?_
  have o2 : Fd 2000 1 d2 := by
    simp only [List.mem_cons, List.not_mem_nil, or_false] at m2
    rcases m2 with rfl | rfl | rfl | rfl | rfl | rfl | rfl | rfl | rfl | rfl | rfl
    · exact (sx.app sa8).fd.mono
    · exact (sx.cut _ _).fd.mono
    · exact up.fd.mono
    · exact (sx.app k1).fd.mono
    · exact (k2.app sx).fd.mono
    · exact (Fd.tup (n := 1) (fun d hd => by rw [List.mem_singleton.mp hd]; exact sx.fd) (by simp)).mono
    · exact (Fd.lst (n := 1) (fun d hd => by rw [List.mem_singleton.mp hd]; exact sx.fd) (by simp)).mono
    · exact (sx.app sx).fd.mono
    · exact (sx.app k3).fd.mono
    · exact ((sx.cut _ _).app k4).fd.mono
    · exact o1
  try simp only [Den.envOf, List.map_cons, List.map_nil, List.length_cons, List.length_nil, List.replicate, List.cons_append, List.nil_append, List.append_nil, Nat.reduceAdd, Nat.reduceSub, Nat.zero_add, Nat.add_zero, wp_sSeq, wp_fnD, wp_ok, wp_next, wp_ret, wp_ite, wp_ites, outP_ret, wp_sIf, wp_sRet, wp_sRetN, wp_sAsg, wp_sExpr, wp_sNext, wp_sFor, wp_sPar, par2_ok, wp_tOf, wp_tOr, wp_tAnd, wp_tNot, wp_tYes, wp_eBin, wp_eVar0, wp_eVars, wp_eK, wp_eUn, wp_eArgs, wp_aCons, wp_aNil, wp_eAnd, wp_eOr, wp_eNot, wp_eIf, wp_eChain, wp_eSl, wp_eM, wp_oSome, wp_oNone, wp_eFrz, wp_eLc, wp_iL, wp_iT, wp_iS, wp_iR1, gwp_N, gwp_nil, gwp_cons, gwp_T, gwp_sub, List.set_cons_zero, List.set_cons_succ, Bool.not_true, Bool.not_false, Bool.false_eq_true, if_true, if_false, cmp_ii, neg_i, add_ii, sub_ii, decide_eq_true_eq, Nat.reduceLeDiff, Nat.reduceEqDiff, D.bl.injEq, D.int.injEq, D.str.injEq, D.tup.injEq, D.lst.injEq, exists_eq_left', exists_eq_left, true_and, and_true, Option.some.injEq, List.cons.injEq, eq_self, reduceCtorEq, or_false, false_or, false_and, and_false, and_self, mkL_ok, mkT_ok, mkC_ok, le_size, wipeD, len_lst, len_ro, len_tup, Den.len_str, okL_ok, tyChk_str, Den.sl_tup, list_tup, max_ii, min_ii, abs_i]
  refine edge_wp hp g fun d3 a b m3 g => ?_
  have o3 := edgeL_th d3 m3
  try simp only [Den.envOf, List.map_cons, List.map_nil, List.length_cons, List.length_nil, List.replicate, List.cons_append, List.nil_append, List.append_nil, Nat.reduceAdd, Nat.reduceSub, Nat.zero_add, Nat.add_zero, wp_sSeq, wp_fnD, wp_ok, wp_next, wp_ret, wp_ite, wp_ites, outP_ret, wp_sIf, wp_sRet, wp_sRetN, wp_sAsg, wp_sExpr, wp_sNext, wp_sFor, wp_sPar, par2_ok, wp_tOf, wp_tOr, wp_tAnd, wp_tNot, wp_tYes, wp_eBin, wp_eVar0, wp_eVars, wp_eK, wp_eUn, wp_eArgs, wp_aCons, wp_aNil, wp_eAnd, wp_eOr, wp_eNot, wp_eIf, wp_eChain, wp_eSl, wp_eM, wp_oSome, wp_oNone, wp_eFrz, wp_eLc, wp_iL, wp_iT, wp_iS, wp_iR1, gwp_N, gwp_nil, gwp_cons, gwp_T, gwp_sub, List.set_cons_zero, List.set_cons_succ, Bool.not_true, Bool.not_false, Bool.false_eq_true, if_true, if_false, cmp_ii, neg_i, add_ii, sub_ii, decide_eq_true_eq, Nat.reduceLeDiff, Nat.reduceEqDiff, D.bl.injEq, D.int.injEq, D.str.injEq, D.tup.injEq, D.lst.injEq, exists_eq_left', exists_eq_left, true_and, and_true, Option.some.injEq, List.cons.injEq, eq_self, reduceCtorEq, or_false, false_or, false_and, and_false, and_self, mkL_ok, mkT_ok, mkC_ok, le_size, wipeD, len_lst, len_ro, len_tup, Den.len_str, okL_ok, tyChk_str, Den.sl_tup, list_tup, max_ii, min_ii, abs_i]
  refine edge_wp hp g fun d4 a b m4 g => ?_
  have o4 := edgeL_th d4 m4
  try simp only [Den.envOf, List.map_cons, List.map_nil, List.length_cons, List.length_nil, List.replicate, List.cons_append, List.nil_append, List.append_nil, Nat.reduceAdd, Nat.reduceSub, Nat.zero_add, Nat.add_zero, wp_sSeq, wp_fnD, wp_ok, wp_next, wp_ret, wp_ite, wp_ites, outP_ret, wp_sIf, wp_sRet, wp_sRetN, wp_sAsg, wp_sExpr, wp_sNext, wp_sFor, wp_sPar, par2_ok, wp_tOf, wp_tOr, wp_tAnd, wp_tNot, wp_tYes, wp_eBin, wp_eVar0, wp_eVars, wp_eK, wp_eUn, wp_eArgs, wp_aCons, wp_aNil, wp_eAnd, wp_eOr, wp_eNot, wp_eIf, wp_eChain, wp_eSl, wp_eM, wp_oSome, wp_oNone, wp_eFrz, wp_eLc, wp_iL, wp_iT, wp_iS, wp_iR1, gwp_N, gwp_nil, gwp_cons, gwp_T, gwp_sub, List.set_cons_zero, List.set_cons_succ, Bool.not_true, Bool.not_false, Bool.false_eq_true, if_true, if_false, cmp_ii, neg_i, add_ii, sub_ii, decide_eq_true_eq, Nat.reduceLeDiff, Nat.reduceEqDiff, D.bl.injEq, D.int.injEq, D.str.injEq, D.tup.injEq, D.lst.injEq, exists_eq_left', exists_eq_left, true_and, and_true, Option.some.injEq, List.cons.injEq, eq_self, reduceCtorEq, or_false, false_or, false_and, and_false, and_self, mkL_ok, mkT_ok, mkC_ok, le_size, wipeD, len_lst, len_ro, len_tup, Den.len_str, okL_ok, tyChk_str, Den.sl_tup, list_tup, max_ii, min_ii, abs_i, add_tt, add_ll]
  refine edge_wp hp g fun d5 a b m5 g => ?_
  have o5 := edgeL_th d5 m5
  try simp only [Den.envOf, List.map_cons, List.map_nil, List.length_cons, List.length_nil, List.replicate, List.cons_append, List.nil_append, List.append_nil, Nat.reduceAdd, Nat.reduceSub, Nat.zero_add, Nat.add_zero, wp_sSeq, wp_fnD, wp_ok, wp_next, wp_ret, wp_ite, wp_ites, outP_ret, wp_sIf, wp_sRet, wp_sRetN, wp_sAsg, wp_sExpr, wp_sNext, wp_sFor, wp_sPar, par2_ok, wp_tOf, wp_tOr, wp_tAnd, wp_tNot, wp_tYes, wp_eBin, wp_eVar0, wp_eVars, wp_eK, wp_eUn, wp_eArgs, wp_aCons, wp_aNil, wp_eAnd, wp_eOr, wp_eNot, wp_eIf, wp_eChain, wp_eSl, wp_eM, wp_oSome, wp_oNone, wp_eFrz, wp_eLc, wp_iL, wp_iT, wp_iS, wp_iR1, gwp_N, gwp_nil, gwp_cons, gwp_T, gwp_sub, List.set_cons_zero, List.set_cons_succ, Bool.not_true, Bool.not_false, Bool.false_eq_true, if_true, if_false, cmp_ii, neg_i, add_ii, sub_ii, decide_eq_true_eq, Nat.reduceLeDiff, Nat.reduceEqDiff, D.bl.injEq, D.int.injEq, D.str.injEq, D.tup.injEq, D.lst.injEq, exists_eq_left', exists_eq_left, true_and, and_true, Option.some.injEq, List.cons.injEq, eq_self, reduceCtorEq, or_false, false_or, false_and, and_false, and_self, mkL_ok, mkT_ok, mkC_ok, le_size, wipeD, len_lst, len_ro, len_tup, Den.len_str, okL_ok, tyChk_str, Den.sl_tup, list_tup, max_ii, min_ii, abs_i]
  refine odd_wp hp g fun d6 a b m6 g => ?_
  have o6 := oddL_th d6 m6
  try simp only [Den.envOf, List.map_cons, List.map_nil, List.length_cons, List.length_nil, List.replicate, List.cons_append, List.nil_append, List.append_nil, Nat.reduceAdd, Nat.reduceSub, Nat.zero_add, Nat.add_zero, wp_sSeq, wp_fnD, wp_ok, wp_next, wp_ret, wp_ite, wp_ites, outP_ret, wp_sIf, wp_sRet, wp_sRetN, wp_sAsg, wp_sExpr, wp_sNext, wp_sFor, wp_sPar, par2_ok, wp_tOf, wp_tOr, wp_tAnd, wp_tNot, wp_tYes, wp_eBin, wp_eVar0, wp_eVars, wp_eK, wp_eUn, wp_eArgs, wp_aCons, wp_aNil, wp_eAnd, wp_eOr, wp_eNot, wp_eIf, wp_eChain, wp_eSl, wp_eM, wp_oSome, wp_oNone, wp_eFrz, wp_eLc, wp_iL, wp_iT, wp_iS, wp_iR1, gwp_N, gwp_nil, gwp_cons, gwp_T, gwp_sub, List.set_cons_zero, List.set_cons_succ, Bool.not_true, Bool.not_false, Bool.false_eq_true, if_true, if_false, cmp_ii, neg_i, add_ii, sub_ii, decide_eq_true_eq, Nat.reduceLeDiff, Nat.reduceEqDiff, D.bl.injEq, D.int.injEq, D.str.injEq, D.tup.injEq, D.lst.injEq, exists_eq_left', exists_eq_left, true_and, and_true, Option.some.injEq, List.cons.injEq, eq_self, reduceCtorEq, or_false, false_or, false_and, and_false, and_self, mkL_ok, mkT_ok, mkC_ok, le_size, wipeD, len_lst, len_ro, len_tup, Den.len_str, okL_ok, tyChk_str, Den.sl_tup, list_tup, max_ii, min_ii, abs_i, add_ll, hout]
  have hjar : ∀ d ∈ [D.str x, .int s, .int h], Fd 2000 1 d := by
    intro d hd
    simp only [List.mem_cons, List.not_mem_nil, or_false] at hd
    rcases hd with rfl | rfl | rfl <;> assumption
  have cutm : ∀ (xs : List D) lo hi, (∀ d ∈ xs, Fd 2000 1 d) → ∀ d ∈ Den.cutD xs lo hi, Fd 2000 1 d := fun xs lo hi hh d hd => hh d (List.mem_of_mem_drop (List.mem_of_mem_take hd))
  have tri : ∀ x1 x2 x3 : D, Fd 2000 1 x1 → Fd 2000 1 x2 → Fd 2000 1 x3 → fine (.tup [x1, x2, x3]) = true := fun x1 x2 x3 h1 h2 h3 => (Fd.tup (n := 3) (fun d hd => by
    simp only [List.mem_cons, List.not_mem_nil, or_false] at hd
    rcases hd with rfl | rfl | rfl <;> assumption) (by simp)).fine
  refine nx _ a b ?_ (by simp) g
  intro d hd
  simp only [List.mem_cons, List.not_mem_nil, or_false] at hd
  rcases hd with rfl | rfl | rfl | rfl | rfl | rfl | rfl | rfl | rfl | rfl | rfl | rfl | rfl | rfl
  · exact tri _ _ _ o2 fs fh
  · exact tri _ _ _ fx o3 fh
  · exact tri _ _ _ fx fs o4
  · exact (Fd.lst (n := 3) hjar (by simp)).fine
  · exact (Fd.tup (n := 3) (cutm _ _ _ hjar) (by simp [Den.cutD]; omega)).fine
  · exact (Fd.tup (n := 3) (cutm _ _ _ hjar) (by simp [Den.cutD]; omega)).fine
  · refine (Fd.tup (n := 4) (m := 2000) (k := 1) (fun d hd => ?_) (by simp)).fine
    simp only [List.mem_cons, List.not_mem_nil, or_false] at hd
    rcases hd with rfl | rfl | rfl | rfl <;> assumption
  · exact (Fd.tup (n := 1) (fun d hd => by rw [List.mem_singleton.mp hd]; exact Fd.tup (n := 3) hjar (by simp)) (by simp)).fine
  · exact tri _ _ _ fs fx fh
  · exact tri _ _ _ fx fh fs
  · exact tri _ _ _ fx fs fh
  · exact o2.fine
  · exact o5.fine
  · exact o6.fine
/-! ### what is told -/
def isW : D → Bool
  | .int _ => true
  | _ => false
def isS : D → Bool
  | .str _ => true
  | _ => false
def isB : D → Bool
  | .bl _ => true
  | _ => false
def isT : D → Bool
  | .tup _ => true
  | _ => false
theorem isi_str {d : D} {st : Store} (h : lf d = true) : isi2 (isTy "str") (isaB "str") [d, .ty "str"] st = .ok (.bl (isS d)) st := by
  cases d <;> first | rfl | (simp [lf] at h)
theorem isi_tup {d : D} {st : Store} (h : lf d = true) : isi2 (isTy "tuple") (isaB "tuple") [d, .ty "tuple"] st = .ok (.bl (isT d)) st := by
  cases d <;> first | rfl | (simp [lf] at h)
theorem isi_int {d : D} {st : Store} (h : lf d = true) : isi2 (isTy "int") (isaB "int") [d, .ty "int"] st = .ok (.bl (isW d || isB d)) st := by
  cases d <;> first | rfl | (simp [lf] at h)
theorem isi_bool {d : D} {st : Store} (h : lf d = true) : isi2 (isTy "bool") (isaB "bool") [d, .ty "bool"] st = .ok (.bl (isB d)) st := by
  cases d <;> first | rfl | (simp [lf] at h)
def atLeast (n : Int) : D → Bool
  | .int i => decide (n ≤ i)
  | _ => false
def baseB : D → Bool
  | .int i => decide (2 ≤ i) && decide (i ≤ 1000000)
  | _ => false
def nameX (x : Str) : Bool := decide (1 ≤ x.length) && decide (x.length ≤ 8) && x.cps.toList.all fun c => decide (c ∈ az.cps.toList)
def nameB : D → Bool
  | .str x => nameX x
  | _ => false
def jarB : D → Bool
  | .tup [n, b, g] => nameB n && (baseB b && atLeast 0 g)
  | _ => false
section
variable {d : D} {st : Store}
theorem whole_eq (h : lf d = true) : denis_whole [d] st = .ok (.bl (isW d)) st := by
  refine Res.eq_of_wp ?_
  unfold denis_whole
  try simp only [Den.envOf, List.map_cons, List.map_nil, List.length_cons, List.length_nil, List.replicate, List.cons_append, List.nil_append, List.append_nil, Nat.reduceAdd, Nat.reduceSub, Nat.zero_add, Nat.add_zero, wp_sSeq, wp_fnD, wp_ok, wp_next, wp_ret, wp_ite, wp_ites, outP_ret, wp_sIf, wp_sRet, wp_sRetN, wp_sAsg, wp_sExpr, wp_sNext, wp_sFor, wp_sPar, par2_ok, wp_tOf, wp_tOr, wp_tAnd, wp_tNot, wp_tYes, wp_eBin, wp_eVar0, wp_eVars, wp_eK, wp_eUn, wp_eArgs, wp_aCons, wp_aNil, wp_eAnd, wp_eOr, wp_eNot, wp_eIf, wp_eChain, wp_eSl, wp_eM, wp_oSome, wp_oNone, wp_eFrz, wp_eLc, wp_iL, wp_iT, wp_iS, wp_iR1, gwp_N, gwp_nil, gwp_cons, gwp_T, gwp_sub, List.set_cons_zero, List.set_cons_succ, Bool.not_true, Bool.not_false, Bool.false_eq_true, if_true, if_false, cmp_ii, neg_i, add_ii, sub_ii, decide_eq_true_eq, Nat.reduceLeDiff, Nat.reduceEqDiff, D.bl.injEq, D.int.injEq, D.str.injEq, D.tup.injEq, D.lst.injEq, exists_eq_left', exists_eq_left, true_and, and_true, Option.some.injEq, List.cons.injEq, eq_self, reduceCtorEq, or_false, false_or, false_and, and_false, and_self, mkL_ok, mkT_ok, mkC_ok, le_size, wipeD, len_lst, len_ro, len_tup, Den.len_str, okL_ok, tyChk_str, Den.sl_tup, list_tup, max_ii, min_ii, abs_i, isi_int h, isi_bool h, wp_outD_same]
  cases d <;> simp [isW, isB]
theorem base_eq (h : lf d = true) : denis_base [d] st = .ok (.bl (baseB d)) st := by
  refine Res.eq_of_wp ?_
  unfold denis_base
  try simp only [Den.envOf, List.map_cons, List.map_nil, List.length_cons, List.length_nil, List.replicate, List.cons_append, List.nil_append, List.append_nil, Nat.reduceAdd, Nat.reduceSub, Nat.zero_add, Nat.add_zero, wp_sSeq, wp_fnD, wp_ok, wp_next, wp_ret, wp_ite, wp_ites, outP_ret, wp_sIf, wp_sRet, wp_sRetN, wp_sAsg, wp_sExpr, wp_sNext, wp_sFor, wp_sPar, par2_ok, wp_tOf, wp_tOr, wp_tAnd, wp_tNot, wp_tYes, wp_eBin, wp_eVar0, wp_eVars, wp_eK, wp_eUn, wp_eArgs, wp_aCons, wp_aNil, wp_eAnd, wp_eOr, wp_eNot, wp_eIf, wp_eChain, wp_eSl, wp_eM, wp_oSome, wp_oNone, wp_eFrz, wp_eLc, wp_iL, wp_iT, wp_iS, wp_iR1, gwp_N, gwp_nil, gwp_cons, gwp_T, gwp_sub, List.set_cons_zero, List.set_cons_succ, Bool.not_true, Bool.not_false, Bool.false_eq_true, if_true, if_false, cmp_ii, neg_i, add_ii, sub_ii, decide_eq_true_eq, Nat.reduceLeDiff, Nat.reduceEqDiff, D.bl.injEq, D.int.injEq, D.str.injEq, D.tup.injEq, D.lst.injEq, exists_eq_left', exists_eq_left, true_and, and_true, Option.some.injEq, List.cons.injEq, eq_self, reduceCtorEq, or_false, false_or, false_and, and_false, and_self, mkL_ok, mkT_ok, mkC_ok, le_size, wipeD, len_lst, len_ro, len_tup, Den.len_str, okL_ok, tyChk_str, Den.sl_tup, list_tup, max_ii, min_ii, abs_i, whole_eq h, wp_outD_same]
  cases d <;> simp [isW, baseB, Res.wp, cmpI, outD_same]
  split <;> simp [*, outD_same]
theorem grains_eq (h : lf d = true) : denis_grains [d] st = .ok (.bl (atLeast 0 d)) st := by
  refine Res.eq_of_wp ?_
  unfold denis_grains
  try simp only [Den.envOf, List.map_cons, List.map_nil, List.length_cons, List.length_nil, List.replicate, List.cons_append, List.nil_append, List.append_nil, Nat.reduceAdd, Nat.reduceSub, Nat.zero_add, Nat.add_zero, wp_sSeq, wp_fnD, wp_ok, wp_next, wp_ret, wp_ite, wp_ites, outP_ret, wp_sIf, wp_sRet, wp_sRetN, wp_sAsg, wp_sExpr, wp_sNext, wp_sFor, wp_sPar, par2_ok, wp_tOf, wp_tOr, wp_tAnd, wp_tNot, wp_tYes, wp_eBin, wp_eVar0, wp_eVars, wp_eK, wp_eUn, wp_eArgs, wp_aCons, wp_aNil, wp_eAnd, wp_eOr, wp_eNot, wp_eIf, wp_eChain, wp_eSl, wp_eM, wp_oSome, wp_oNone, wp_eFrz, wp_eLc, wp_iL, wp_iT, wp_iS, wp_iR1, gwp_N, gwp_nil, gwp_cons, gwp_T, gwp_sub, List.set_cons_zero, List.set_cons_succ, Bool.not_true, Bool.not_false, Bool.false_eq_true, if_true, if_false, cmp_ii, neg_i, add_ii, sub_ii, decide_eq_true_eq, Nat.reduceLeDiff, Nat.reduceEqDiff, D.bl.injEq, D.int.injEq, D.str.injEq, D.tup.injEq, D.lst.injEq, exists_eq_left', exists_eq_left, true_and, and_true, Option.some.injEq, List.cons.injEq, eq_self, reduceCtorEq, or_false, false_or, false_and, and_false, and_self, mkL_ok, mkT_ok, mkC_ok, le_size, wipeD, len_lst, len_ro, len_tup, Den.len_str, okL_ok, tyChk_str, Den.sl_tup, list_tup, max_ii, min_ii, abs_i, whole_eq h, wp_outD_same]
  cases d <;> simp [isW, atLeast, Res.wp, cmpI, outD_same]
theorem lwhole_eq {n : Int} (h : lf d = true) : den_law_is_whole [d, .int n] st = .ok (.bl (atLeast n d)) st := by
  refine Res.eq_of_wp ?_
  unfold den_law_is_whole
  try simp only [Den.envOf, List.map_cons, List.map_nil, List.length_cons, List.length_nil, List.replicate, List.cons_append, List.nil_append, List.append_nil, Nat.reduceAdd, Nat.reduceSub, Nat.zero_add, Nat.add_zero, wp_sSeq, wp_fnD, wp_ok, wp_next, wp_ret, wp_ite, wp_ites, outP_ret, wp_sIf, wp_sRet, wp_sRetN, wp_sAsg, wp_sExpr, wp_sNext, wp_sFor, wp_sPar, par2_ok, wp_tOf, wp_tOr, wp_tAnd, wp_tNot, wp_tYes, wp_eBin, wp_eVar0, wp_eVars, wp_eK, wp_eUn, wp_eArgs, wp_aCons, wp_aNil, wp_eAnd, wp_eOr, wp_eNot, wp_eIf, wp_eChain, wp_eSl, wp_eM, wp_oSome, wp_oNone, wp_eFrz, wp_eLc, wp_iL, wp_iT, wp_iS, wp_iR1, gwp_N, gwp_nil, gwp_cons, gwp_T, gwp_sub, List.set_cons_zero, List.set_cons_succ, Bool.not_true, Bool.not_false, Bool.false_eq_true, if_true, if_false, cmp_ii, neg_i, add_ii, sub_ii, decide_eq_true_eq, Nat.reduceLeDiff, Nat.reduceEqDiff, D.bl.injEq, D.int.injEq, D.str.injEq, D.tup.injEq, D.lst.injEq, exists_eq_left', exists_eq_left, true_and, and_true, Option.some.injEq, List.cons.injEq, eq_self, reduceCtorEq, or_false, false_or, false_and, and_false, and_self, mkL_ok, mkT_ok, mkC_ok, le_size, wipeD, len_lst, len_ro, len_tup, Den.len_str, okL_ok, tyChk_str, Den.sl_tup, list_tup, max_ii, min_ii, abs_i, isi_int h, isi_bool h, wp_outD_same]
  cases d <;> simp [isW, isB, atLeast, Res.wp, cmpI, outD_same]
theorem name_eq (h : fine d = true) : denis_name [d] st = .ok (.bl (nameB d)) st := by
  refine Res.eq_of_wp ?_
  have hl := fine_lf h
  unfold denis_name
  try simp only [Den.envOf, List.map_cons, List.map_nil, List.length_cons, List.length_nil, List.replicate, List.cons_append, List.nil_append, List.append_nil, Nat.reduceAdd, Nat.reduceSub, Nat.zero_add, Nat.add_zero, wp_sSeq, wp_fnD, wp_ok, wp_next, wp_ret, wp_ite, wp_ites, outP_ret, wp_sIf, wp_sRet, wp_sRetN, wp_sAsg, wp_sExpr, wp_sNext, wp_sFor, wp_sPar, par2_ok, wp_tOf, wp_tOr, wp_tAnd, wp_tNot, wp_tYes, wp_eBin, wp_eVar0, wp_eVars, wp_eK, wp_eUn, wp_eArgs, wp_aCons, wp_aNil, wp_eAnd, wp_eOr, wp_eNot, wp_eIf, wp_eChain, wp_eSl, wp_eM, wp_oSome, wp_oNone, wp_eFrz, wp_eLc, wp_iL, wp_iT, wp_iS, wp_iR1, gwp_N, gwp_nil, gwp_cons, gwp_T, gwp_sub, List.set_cons_zero, List.set_cons_succ, Bool.not_true, Bool.not_false, Bool.false_eq_true, if_true, if_false, cmp_ii, neg_i, add_ii, sub_ii, decide_eq_true_eq, Nat.reduceLeDiff, Nat.reduceEqDiff, D.bl.injEq, D.int.injEq, D.str.injEq, D.tup.injEq, D.lst.injEq, exists_eq_left', exists_eq_left, true_and, and_true, Option.some.injEq, List.cons.injEq, eq_self, reduceCtorEq, or_false, false_or, false_and, and_false, and_self, mkL_ok, mkT_ok, mkC_ok, le_size, wipeD, len_lst, len_ro, len_tup, Den.len_str, okL_ok, tyChk_str, Den.sl_tup, list_tup, max_ii, min_ii, abs_i, isi_str hl]
  cases d with
  | str x =>
    have hx : x.length ≤ sizeLine := by
      simp only [fine, Bool.and_eq_true, decide_eq_true_eq] at h
      have h2 : x.cps.size ≤ 100000 := h.1.2
      rw [sizeLine_eq]; show x.cps.size ≤ _; omega
    try simp only [Den.envOf, List.map_cons, List.map_nil, List.length_cons, List.length_nil, List.replicate, List.cons_append, List.nil_append, List.append_nil, Nat.reduceAdd, Nat.reduceSub, Nat.zero_add, Nat.add_zero, wp_sSeq, wp_fnD, wp_ok, wp_next, wp_ret, wp_ite, wp_ites, outP_ret, wp_sIf, wp_sRet, wp_sRetN, wp_sAsg, wp_sExpr, wp_sNext, wp_sFor, wp_sPar, par2_ok, wp_tOf, wp_tOr, wp_tAnd, wp_tNot, wp_tYes, wp_eBin, wp_eVar0, wp_eVars, wp_eK, wp_eUn, wp_eArgs, wp_aCons, wp_aNil, wp_eAnd, wp_eOr, wp_eNot, wp_eIf, wp_eChain, wp_eSl, wp_eM, wp_oSome, wp_oNone, wp_eFrz, wp_eLc, wp_iL, wp_iT, wp_iS, wp_iR1, gwp_N, gwp_nil, gwp_cons, gwp_T, gwp_sub, List.set_cons_zero, List.set_cons_succ, Bool.not_true, Bool.not_false, Bool.false_eq_true, if_true, if_false, cmp_ii, neg_i, add_ii, sub_ii, decide_eq_true_eq, Nat.reduceLeDiff, Nat.reduceEqDiff, D.bl.injEq, D.int.injEq, D.str.injEq, D.tup.injEq, D.lst.injEq, exists_eq_left', exists_eq_left, true_and, and_true, Option.some.injEq, List.cons.injEq, eq_self, reduceCtorEq, or_false, false_or, false_and, and_false, and_self, mkL_ok, mkT_ok, mkC_ok, le_size, wipeD, len_lst, len_ro, len_tup, Den.len_str, okL_ok, tyChk_str, Den.sl_tup, list_tup, max_ii, min_ii, abs_i, isS, Den.len_str hx, nameB]
    by_cases h1 : (1 : Int) ≤ x.length
    · by_cases h8 : (x.length : Int) ≤ 8
      · try simp only [Den.envOf, List.map_cons, List.map_nil, List.length_cons, List.length_nil, List.replicate, List.cons_append, List.nil_append, List.append_nil, Nat.reduceAdd, Nat.reduceSub, Nat.zero_add, Nat.add_zero, wp_sSeq, wp_fnD, wp_ok, wp_next, wp_ret, wp_ite, wp_ites, outP_ret, wp_sIf, wp_sRet, wp_sRetN, wp_sAsg, wp_sExpr, wp_sNext, wp_sFor, wp_sPar, par2_ok, wp_tOf, wp_tOr, wp_tAnd, wp_tNot, wp_tYes, wp_eBin, wp_eVar0, wp_eVars, wp_eK, wp_eUn, wp_eArgs, wp_aCons, wp_aNil, wp_eAnd, wp_eOr, wp_eNot, wp_eIf, wp_eChain, wp_eSl, wp_eM, wp_oSome, wp_oNone, wp_eFrz, wp_eLc, wp_iL, wp_iT, wp_iS, wp_iR1, gwp_N, gwp_nil, gwp_cons, gwp_T, gwp_sub, List.set_cons_zero, List.set_cons_succ, Bool.not_true, Bool.not_false, Bool.false_eq_true, if_true, if_false, cmp_ii, neg_i, add_ii, sub_ii, decide_eq_true_eq, Nat.reduceLeDiff, Nat.reduceEqDiff, D.bl.injEq, D.int.injEq, D.str.injEq, D.tup.injEq, D.lst.injEq, exists_eq_left', exists_eq_left, true_and, and_true, Option.some.injEq, List.cons.injEq, eq_self, reduceCtorEq, or_false, false_or, false_and, and_false, and_self, mkL_ok, mkT_ok, mkC_ok, le_size, wipeD, len_lst, len_ro, len_tup, Den.len_str, okL_ok, tyChk_str, Den.sl_tup, list_tup, max_ii, min_ii, abs_i, h1, h8, decide_true]
        refine wp_compOn (fun c => .str ⟨#[c]⟩) (fun _ => true) (fun c => .bl (decide (c ∈ az.cps.toList))) x.cps.toList (by show x.cps.toList.length ≤ _; exact hx) (fun c _ => ?_) (fun c _ _ => ?_) ?_
        · try simp only [Den.envOf, List.map_cons, List.map_nil, List.length_cons, List.length_nil, List.replicate, List.cons_append, List.nil_append, List.append_nil, Nat.reduceAdd, Nat.reduceSub, Nat.zero_add, Nat.add_zero, wp_sSeq, wp_fnD, wp_ok, wp_next, wp_ret, wp_ite, wp_ites, outP_ret, wp_sIf, wp_sRet, wp_sRetN, wp_sAsg, wp_sExpr, wp_sNext, wp_sFor, wp_sPar, par2_ok, wp_tOf, wp_tOr, wp_tAnd, wp_tNot, wp_tYes, wp_eBin, wp_eVar0, wp_eVars, wp_eK, wp_eUn, wp_eArgs, wp_aCons, wp_aNil, wp_eAnd, wp_eOr, wp_eNot, wp_eIf, wp_eChain, wp_eSl, wp_eM, wp_oSome, wp_oNone, wp_eFrz, wp_eLc, wp_iL, wp_iT, wp_iS, wp_iR1, gwp_N, gwp_nil, gwp_cons, gwp_T, gwp_sub, List.set_cons_zero, List.set_cons_succ, Bool.not_true, Bool.not_false, Bool.false_eq_true, if_true, if_false, cmp_ii, neg_i, add_ii, sub_ii, decide_eq_true_eq, Nat.reduceLeDiff, Nat.reduceEqDiff, D.bl.injEq, D.int.injEq, D.str.injEq, D.tup.injEq, D.lst.injEq, exists_eq_left', exists_eq_left, true_and, and_true, Option.some.injEq, List.cons.injEq, eq_self, reduceCtorEq, or_false, false_or, false_and, and_false, and_self, mkL_ok, mkT_ok, mkC_ok, le_size, wipeD, len_lst, len_ro, len_tup, Den.len_str, okL_ok, tyChk_str, Den.sl_tup, list_tup, max_ii, min_ii, abs_i]
        · try simp only [Den.envOf, List.map_cons, List.map_nil, List.length_cons, List.length_nil, List.replicate, List.cons_append, List.nil_append, List.append_nil, Nat.reduceAdd, Nat.reduceSub, Nat.zero_add, Nat.add_zero, wp_sSeq, wp_fnD, wp_ok, wp_next, wp_ret, wp_ite, wp_ites, outP_ret, wp_sIf, wp_sRet, wp_sRetN, wp_sAsg, wp_sExpr, wp_sNext, wp_sFor, wp_sPar, par2_ok, wp_tOf, wp_tOr, wp_tAnd, wp_tNot, wp_tYes, wp_eBin, wp_eVar0, wp_eVars, wp_eK, wp_eUn, wp_eArgs, wp_aCons, wp_aNil, wp_eAnd, wp_eOr, wp_eNot, wp_eIf, wp_eChain, wp_eSl, wp_eM, wp_oSome, wp_oNone, wp_eFrz, wp_eLc, wp_iL, wp_iT, wp_iS, wp_iR1, gwp_N, gwp_nil, gwp_cons, gwp_T, gwp_sub, List.set_cons_zero, List.set_cons_succ, Bool.not_true, Bool.not_false, Bool.false_eq_true, if_true, if_false, cmp_ii, neg_i, add_ii, sub_ii, decide_eq_true_eq, Nat.reduceLeDiff, Nat.reduceEqDiff, D.bl.injEq, D.int.injEq, D.str.injEq, D.tup.injEq, D.lst.injEq, exists_eq_left', exists_eq_left, true_and, and_true, Option.some.injEq, List.cons.injEq, eq_self, reduceCtorEq, or_false, false_or, false_and, and_false, and_self, mkL_ok, mkT_ok, mkC_ok, le_size, wipeD, len_lst, len_ro, len_tup, Den.len_str, okL_ok, tyChk_str, Den.sl_tup, list_tup, max_ii, min_ii, abs_i, inD_one]
        rw [filter_yes]
        try simp only [Den.envOf, List.map_cons, List.map_nil, List.length_cons, List.length_nil, List.replicate, List.cons_append, List.nil_append, List.append_nil, Nat.reduceAdd, Nat.reduceSub, Nat.zero_add, Nat.add_zero, wp_sSeq, wp_fnD, wp_ok, wp_next, wp_ret, wp_ite, wp_ites, outP_ret, wp_sIf, wp_sRet, wp_sRetN, wp_sAsg, wp_sExpr, wp_sNext, wp_sFor, wp_sPar, par2_ok, wp_tOf, wp_tOr, wp_tAnd, wp_tNot, wp_tYes, wp_eBin, wp_eVar0, wp_eVars, wp_eK, wp_eUn, wp_eArgs, wp_aCons, wp_aNil, wp_eAnd, wp_eOr, wp_eNot, wp_eIf, wp_eChain, wp_eSl, wp_eM, wp_oSome, wp_oNone, wp_eFrz, wp_eLc, wp_iL, wp_iT, wp_iS, wp_iR1, gwp_N, gwp_nil, gwp_cons, gwp_T, gwp_sub, List.set_cons_zero, List.set_cons_succ, Bool.not_true, Bool.not_false, Bool.false_eq_true, if_true, if_false, cmp_ii, neg_i, add_ii, sub_ii, decide_eq_true_eq, Nat.reduceLeDiff, Nat.reduceEqDiff, D.bl.injEq, D.int.injEq, D.str.injEq, D.tup.injEq, D.lst.injEq, exists_eq_left', exists_eq_left, true_and, and_true, Option.some.injEq, List.cons.injEq, eq_self, reduceCtorEq, or_false, false_or, false_and, and_false, and_self, mkL_ok, mkT_ok, mkC_ok, le_size, wipeD, len_lst, len_ro, len_tup, Den.len_str, okL_ok, tyChk_str, Den.sl_tup, list_tup, max_ii, min_ii, abs_i, all_bools, wp_outD_same, outD_same]
        simp only [nameX]
        rw [show decide (1 ≤ x.length) = true from decide_eq_true (by omega), show decide (x.length ≤ 8) = true from decide_eq_true (by omega)]
        simp
      · try simp only [Den.envOf, List.map_cons, List.map_nil, List.length_cons, List.length_nil, List.replicate, List.cons_append, List.nil_append, List.append_nil, Nat.reduceAdd, Nat.reduceSub, Nat.zero_add, Nat.add_zero, wp_sSeq, wp_fnD, wp_ok, wp_next, wp_ret, wp_ite, wp_ites, outP_ret, wp_sIf, wp_sRet, wp_sRetN, wp_sAsg, wp_sExpr, wp_sNext, wp_sFor, wp_sPar, par2_ok, wp_tOf, wp_tOr, wp_tAnd, wp_tNot, wp_tYes, wp_eBin, wp_eVar0, wp_eVars, wp_eK, wp_eUn, wp_eArgs, wp_aCons, wp_aNil, wp_eAnd, wp_eOr, wp_eNot, wp_eIf, wp_eChain, wp_eSl, wp_eM, wp_oSome, wp_oNone, wp_eFrz, wp_eLc, wp_iL, wp_iT, wp_iS, wp_iR1, gwp_N, gwp_nil, gwp_cons, gwp_T, gwp_sub, List.set_cons_zero, List.set_cons_succ, Bool.not_true, Bool.not_false, Bool.false_eq_true, if_true, if_false, cmp_ii, neg_i, add_ii, sub_ii, decide_eq_true_eq, Nat.reduceLeDiff, Nat.reduceEqDiff, D.bl.injEq, D.int.injEq, D.str.injEq, D.tup.injEq, D.lst.injEq, exists_eq_left', exists_eq_left, true_and, and_true, Option.some.injEq, List.cons.injEq, eq_self, reduceCtorEq, or_false, false_or, false_and, and_false, and_self, mkL_ok, mkT_ok, mkC_ok, le_size, wipeD, len_lst, len_ro, len_tup, Den.len_str, okL_ok, tyChk_str, Den.sl_tup, list_tup, max_ii, min_ii, abs_i, h1, h8, decide_true, decide_false, wp_outD_same]
        simp only [nameX]
        rw [show decide (x.length ≤ 8) = false from decide_eq_false (by omega)]
        simp
    · try simp only [Den.envOf, List.map_cons, List.map_nil, List.length_cons, List.length_nil, List.replicate, List.cons_append, List.nil_append, List.append_nil, Nat.reduceAdd, Nat.reduceSub, Nat.zero_add, Nat.add_zero, wp_sSeq, wp_fnD, wp_ok, wp_next, wp_ret, wp_ite, wp_ites, outP_ret, wp_sIf, wp_sRet, wp_sRetN, wp_sAsg, wp_sExpr, wp_sNext, wp_sFor, wp_sPar, par2_ok, wp_tOf, wp_tOr, wp_tAnd, wp_tNot, wp_tYes, wp_eBin, wp_eVar0, wp_eVars, wp_eK, wp_eUn, wp_eArgs, wp_aCons, wp_aNil, wp_eAnd, wp_eOr, wp_eNot, wp_eIf, wp_eChain, wp_eSl, wp_eM, wp_oSome, wp_oNone, wp_eFrz, wp_eLc, wp_iL, wp_iT, wp_iS, wp_iR1, gwp_N, gwp_nil, gwp_cons, gwp_T, gwp_sub, List.set_cons_zero, List.set_cons_succ, Bool.not_true, Bool.not_false, Bool.false_eq_true, if_true, if_false, cmp_ii, neg_i, add_ii, sub_ii, decide_eq_true_eq, Nat.reduceLeDiff, Nat.reduceEqDiff, D.bl.injEq, D.int.injEq, D.str.injEq, D.tup.injEq, D.lst.injEq, exists_eq_left', exists_eq_left, true_and, and_true, Option.some.injEq, List.cons.injEq, eq_self, reduceCtorEq, or_false, false_or, false_and, and_false, and_self, mkL_ok, mkT_ok, mkC_ok, le_size, wipeD, len_lst, len_ro, len_tup, Den.len_str, okL_ok, tyChk_str, Den.sl_tup, list_tup, max_ii, min_ii, abs_i, h1, decide_true, decide_false, wp_outD_same]
      simp only [nameX]
      rw [show decide (1 ≤ x.length) = false from decide_eq_false (by omega)]
      simp
  | _ => try simp only [Den.envOf, List.map_cons, List.map_nil, List.length_cons, List.length_nil, List.replicate, List.cons_append, List.nil_append, List.append_nil, Nat.reduceAdd, Nat.reduceSub, Nat.zero_add, Nat.add_zero, wp_sSeq, wp_fnD, wp_ok, wp_next, wp_ret, wp_ite, wp_ites, outP_ret, wp_sIf, wp_sRet, wp_sRetN, wp_sAsg, wp_sExpr, wp_sNext, wp_sFor, wp_sPar, par2_ok, wp_tOf, wp_tOr, wp_tAnd, wp_tNot, wp_tYes, wp_eBin, wp_eVar0, wp_eVars, wp_eK, wp_eUn, wp_eArgs, wp_aCons, wp_aNil, wp_eAnd, wp_eOr, wp_eNot, wp_eIf, wp_eChain, wp_eSl, wp_eM, wp_oSome, wp_oNone, wp_eFrz, wp_eLc, wp_iL, wp_iT, wp_iS, wp_iR1, gwp_N, gwp_nil, gwp_cons, gwp_T, gwp_sub, List.set_cons_zero, List.set_cons_succ, Bool.not_true, Bool.not_false, Bool.false_eq_true, if_true, if_false, cmp_ii, neg_i, add_ii, sub_ii, decide_eq_true_eq, Nat.reduceLeDiff, Nat.reduceEqDiff, D.bl.injEq, D.int.injEq, D.str.injEq, D.tup.injEq, D.lst.injEq, exists_eq_left', exists_eq_left, true_and, and_true, Option.some.injEq, List.cons.injEq, eq_self, reduceCtorEq, or_false, false_or, false_and, and_false, and_self, mkL_ok, mkT_ok, mkC_ok, le_size, wipeD, len_lst, len_ro, len_tup, Den.len_str, okL_ok, tyChk_str, Den.sl_tup, list_tup, max_ii, min_ii, abs_i, isS, nameB, wp_outD_same]
theorem lname_eq (h : fine d = true) : den_law_is_label [d] st = .ok (.bl (nameB d)) st := by
  refine Res.eq_of_wp ?_
  have hl := fine_lf h
  unfold den_law_is_label
  try simp only [Den.envOf, List.map_cons, List.map_nil, List.length_cons, List.length_nil, List.replicate, List.cons_append, List.nil_append, List.append_nil, Nat.reduceAdd, Nat.reduceSub, Nat.zero_add, Nat.add_zero, wp_sSeq, wp_fnD, wp_ok, wp_next, wp_ret, wp_ite, wp_ites, outP_ret, wp_sIf, wp_sRet, wp_sRetN, wp_sAsg, wp_sExpr, wp_sNext, wp_sFor, wp_sPar, par2_ok, wp_tOf, wp_tOr, wp_tAnd, wp_tNot, wp_tYes, wp_eBin, wp_eVar0, wp_eVars, wp_eK, wp_eUn, wp_eArgs, wp_aCons, wp_aNil, wp_eAnd, wp_eOr, wp_eNot, wp_eIf, wp_eChain, wp_eSl, wp_eM, wp_oSome, wp_oNone, wp_eFrz, wp_eLc, wp_iL, wp_iT, wp_iS, wp_iR1, gwp_N, gwp_nil, gwp_cons, gwp_T, gwp_sub, List.set_cons_zero, List.set_cons_succ, Bool.not_true, Bool.not_false, Bool.false_eq_true, if_true, if_false, cmp_ii, neg_i, add_ii, sub_ii, decide_eq_true_eq, Nat.reduceLeDiff, Nat.reduceEqDiff, D.bl.injEq, D.int.injEq, D.str.injEq, D.tup.injEq, D.lst.injEq, exists_eq_left', exists_eq_left, true_and, and_true, Option.some.injEq, List.cons.injEq, eq_self, reduceCtorEq, or_false, false_or, false_and, and_false, and_self, mkL_ok, mkT_ok, mkC_ok, le_size, wipeD, len_lst, len_ro, len_tup, Den.len_str, okL_ok, tyChk_str, Den.sl_tup, list_tup, max_ii, min_ii, abs_i, isi_str hl]
  cases d with
  | str x =>
    have hx : x.length ≤ sizeLine := by
      simp only [fine, Bool.and_eq_true, decide_eq_true_eq] at h
      have h2 : x.cps.size ≤ 100000 := h.1.2
      rw [sizeLine_eq]; show x.cps.size ≤ _; omega
    have hf : lf (.str x) = true := hl
    try simp only [Den.envOf, List.map_cons, List.map_nil, List.length_cons, List.length_nil, List.replicate, List.cons_append, List.nil_append, List.append_nil, Nat.reduceAdd, Nat.reduceSub, Nat.zero_add, Nat.add_zero, wp_sSeq, wp_fnD, wp_ok, wp_next, wp_ret, wp_ite, wp_ites, outP_ret, wp_sIf, wp_sRet, wp_sRetN, wp_sAsg, wp_sExpr, wp_sNext, wp_sFor, wp_sPar, par2_ok, wp_tOf, wp_tOr, wp_tAnd, wp_tNot, wp_tYes, wp_eBin, wp_eVar0, wp_eVars, wp_eK, wp_eUn, wp_eArgs, wp_aCons, wp_aNil, wp_eAnd, wp_eOr, wp_eNot, wp_eIf, wp_eChain, wp_eSl, wp_eM, wp_oSome, wp_oNone, wp_eFrz, wp_eLc, wp_iL, wp_iT, wp_iS, wp_iR1, gwp_N, gwp_nil, gwp_cons, gwp_T, gwp_sub, List.set_cons_zero, List.set_cons_succ, Bool.not_true, Bool.not_false, Bool.false_eq_true, if_true, if_false, cmp_ii, neg_i, add_ii, sub_ii, decide_eq_true_eq, Nat.reduceLeDiff, Nat.reduceEqDiff, D.bl.injEq, D.int.injEq, D.str.injEq, D.tup.injEq, D.lst.injEq, exists_eq_left', exists_eq_left, true_and, and_true, Option.some.injEq, List.cons.injEq, eq_self, reduceCtorEq, or_false, false_or, false_and, and_false, and_self, mkL_ok, mkT_ok, mkC_ok, le_size, wipeD, len_lst, len_ro, len_tup, Den.len_str, okL_ok, tyChk_str, Den.sl_tup, list_tup, max_ii, min_ii, abs_i, isS, Den.len_str hx, nameB]
    by_cases h1 : (0 : Int) < x.length
    · by_cases h8 : (x.length : Int) < 9
      · try simp only [Den.envOf, List.map_cons, List.map_nil, List.length_cons, List.length_nil, List.replicate, List.cons_append, List.nil_append, List.append_nil, Nat.reduceAdd, Nat.reduceSub, Nat.zero_add, Nat.add_zero, wp_sSeq, wp_fnD, wp_ok, wp_next, wp_ret, wp_ite, wp_ites, outP_ret, wp_sIf, wp_sRet, wp_sRetN, wp_sAsg, wp_sExpr, wp_sNext, wp_sFor, wp_sPar, par2_ok, wp_tOf, wp_tOr, wp_tAnd, wp_tNot, wp_tYes, wp_eBin, wp_eVar0, wp_eVars, wp_eK, wp_eUn, wp_eArgs, wp_aCons, wp_aNil, wp_eAnd, wp_eOr, wp_eNot, wp_eIf, wp_eChain, wp_eSl, wp_eM, wp_oSome, wp_oNone, wp_eFrz, wp_eLc, wp_iL, wp_iT, wp_iS, wp_iR1, gwp_N, gwp_nil, gwp_cons, gwp_T, gwp_sub, List.set_cons_zero, List.set_cons_succ, Bool.not_true, Bool.not_false, Bool.false_eq_true, if_true, if_false, cmp_ii, neg_i, add_ii, sub_ii, decide_eq_true_eq, Nat.reduceLeDiff, Nat.reduceEqDiff, D.bl.injEq, D.int.injEq, D.str.injEq, D.tup.injEq, D.lst.injEq, exists_eq_left', exists_eq_left, true_and, and_true, Option.some.injEq, List.cons.injEq, eq_self, reduceCtorEq, or_false, false_or, false_and, and_false, and_self, mkL_ok, mkT_ok, mkC_ok, le_size, wipeD, len_lst, len_ro, len_tup, Den.len_str, okL_ok, tyChk_str, Den.sl_tup, list_tup, max_ii, min_ii, abs_i, h1, h8, decide_true]
        refine wp_compOn (fun c => .str ⟨#[c]⟩) (fun c => !decide (c ∈ az.cps.toList)) (fun c => .str ⟨#[c]⟩) x.cps.toList (by show x.cps.toList.length ≤ _; exact hx) (fun c _ => ?_) (fun c _ _ => ?_) ?_
        · try simp only [Den.envOf, List.map_cons, List.map_nil, List.length_cons, List.length_nil, List.replicate, List.cons_append, List.nil_append, List.append_nil, Nat.reduceAdd, Nat.reduceSub, Nat.zero_add, Nat.add_zero, wp_sSeq, wp_fnD, wp_ok, wp_next, wp_ret, wp_ite, wp_ites, outP_ret, wp_sIf, wp_sRet, wp_sRetN, wp_sAsg, wp_sExpr, wp_sNext, wp_sFor, wp_sPar, par2_ok, wp_tOf, wp_tOr, wp_tAnd, wp_tNot, wp_tYes, wp_eBin, wp_eVar0, wp_eVars, wp_eK, wp_eUn, wp_eArgs, wp_aCons, wp_aNil, wp_eAnd, wp_eOr, wp_eNot, wp_eIf, wp_eChain, wp_eSl, wp_eM, wp_oSome, wp_oNone, wp_eFrz, wp_eLc, wp_iL, wp_iT, wp_iS, wp_iR1, gwp_N, gwp_nil, gwp_cons, gwp_T, gwp_sub, List.set_cons_zero, List.set_cons_succ, Bool.not_true, Bool.not_false, Bool.false_eq_true, if_true, if_false, cmp_ii, neg_i, add_ii, sub_ii, decide_eq_true_eq, Nat.reduceLeDiff, Nat.reduceEqDiff, D.bl.injEq, D.int.injEq, D.str.injEq, D.tup.injEq, D.lst.injEq, exists_eq_left', exists_eq_left, true_and, and_true, Option.some.injEq, List.cons.injEq, eq_self, reduceCtorEq, or_false, false_or, false_and, and_false, and_self, mkL_ok, mkT_ok, mkC_ok, le_size, wipeD, len_lst, len_ro, len_tup, Den.len_str, okL_ok, tyChk_str, Den.sl_tup, list_tup, max_ii, min_ii, abs_i, notInD_one]
        · try simp only [Den.envOf, List.map_cons, List.map_nil, List.length_cons, List.length_nil, List.replicate, List.cons_append, List.nil_append, List.append_nil, Nat.reduceAdd, Nat.reduceSub, Nat.zero_add, Nat.add_zero, wp_sSeq, wp_fnD, wp_ok, wp_next, wp_ret, wp_ite, wp_ites, outP_ret, wp_sIf, wp_sRet, wp_sRetN, wp_sAsg, wp_sExpr, wp_sNext, wp_sFor, wp_sPar, par2_ok, wp_tOf, wp_tOr, wp_tAnd, wp_tNot, wp_tYes, wp_eBin, wp_eVar0, wp_eVars, wp_eK, wp_eUn, wp_eArgs, wp_aCons, wp_aNil, wp_eAnd, wp_eOr, wp_eNot, wp_eIf, wp_eChain, wp_eSl, wp_eM, wp_oSome, wp_oNone, wp_eFrz, wp_eLc, wp_iL, wp_iT, wp_iS, wp_iR1, gwp_N, gwp_nil, gwp_cons, gwp_T, gwp_sub, List.set_cons_zero, List.set_cons_succ, Bool.not_true, Bool.not_false, Bool.false_eq_true, if_true, if_false, cmp_ii, neg_i, add_ii, sub_ii, decide_eq_true_eq, Nat.reduceLeDiff, Nat.reduceEqDiff, D.bl.injEq, D.int.injEq, D.str.injEq, D.tup.injEq, D.lst.injEq, exists_eq_left', exists_eq_left, true_and, and_true, Option.some.injEq, List.cons.injEq, eq_self, reduceCtorEq, or_false, false_or, false_and, and_false, and_self, mkL_ok, mkT_ok, mkC_ok, le_size, wipeD, len_lst, len_ro, len_tup, Den.len_str, okL_ok, tyChk_str, Den.sl_tup, list_tup, max_ii, min_ii, abs_i]
        have hE : eqD (.lst ((x.cps.toList.filter fun c => !decide (c ∈ az.cps.toList)).map fun c => .str ⟨#[c]⟩)) (.lst []) st = .ok (.bl (x.cps.toList.all fun c => decide (c ∈ az.cps.toList))) st := by
          have hm : ((x.cps.toList.filter fun c => !decide (c ∈ az.cps.toList)).map fun c => D.str ⟨#[c]⟩) = ((x.cps.toList.filter fun c => !decide (c ∈ az.cps.toList)).map fun c => (⟨#[c]⟩ : Str)).map D.str := by rw [List.map_map]; rfl
          rw [hm, eq_nil]
          · rw [filt_empty]
          · intro y hy
            obtain ⟨c, hc, rfl⟩ := List.mem_map.mp hy
            refine strFit_lay ?_
            have := List.all_eq_true.mp (show strFit x = true by simpa only [lf] using hf) c (List.mem_filter.mp hc).1
            simpa [strFit] using this
        try simp only [Den.envOf, List.map_cons, List.map_nil, List.length_cons, List.length_nil, List.replicate, List.cons_append, List.nil_append, List.append_nil, Nat.reduceAdd, Nat.reduceSub, Nat.zero_add, Nat.add_zero, wp_sSeq, wp_fnD, wp_ok, wp_next, wp_ret, wp_ite, wp_ites, outP_ret, wp_sIf, wp_sRet, wp_sRetN, wp_sAsg, wp_sExpr, wp_sNext, wp_sFor, wp_sPar, par2_ok, wp_tOf, wp_tOr, wp_tAnd, wp_tNot, wp_tYes, wp_eBin, wp_eVar0, wp_eVars, wp_eK, wp_eUn, wp_eArgs, wp_aCons, wp_aNil, wp_eAnd, wp_eOr, wp_eNot, wp_eIf, wp_eChain, wp_eSl, wp_eM, wp_oSome, wp_oNone, wp_eFrz, wp_eLc, wp_iL, wp_iT, wp_iS, wp_iR1, gwp_N, gwp_nil, gwp_cons, gwp_T, gwp_sub, List.set_cons_zero, List.set_cons_succ, Bool.not_true, Bool.not_false, Bool.false_eq_true, if_true, if_false, cmp_ii, neg_i, add_ii, sub_ii, decide_eq_true_eq, Nat.reduceLeDiff, Nat.reduceEqDiff, D.bl.injEq, D.int.injEq, D.str.injEq, D.tup.injEq, D.lst.injEq, exists_eq_left', exists_eq_left, true_and, and_true, Option.some.injEq, List.cons.injEq, eq_self, reduceCtorEq, or_false, false_or, false_and, and_false, and_self, mkL_ok, mkT_ok, mkC_ok, le_size, wipeD, len_lst, len_ro, len_tup, Den.len_str, okL_ok, tyChk_str, Den.sl_tup, list_tup, max_ii, min_ii, abs_i, hE, wp_outD_same]
        simp only [nameX]
        rw [show decide (1 ≤ x.length) = true from decide_eq_true (by omega), show decide (x.length ≤ 8) = true from decide_eq_true (by omega)]
        simp
      · try simp only [Den.envOf, List.map_cons, List.map_nil, List.length_cons, List.length_nil, List.replicate, List.cons_append, List.nil_append, List.append_nil, Nat.reduceAdd, Nat.reduceSub, Nat.zero_add, Nat.add_zero, wp_sSeq, wp_fnD, wp_ok, wp_next, wp_ret, wp_ite, wp_ites, outP_ret, wp_sIf, wp_sRet, wp_sRetN, wp_sAsg, wp_sExpr, wp_sNext, wp_sFor, wp_sPar, par2_ok, wp_tOf, wp_tOr, wp_tAnd, wp_tNot, wp_tYes, wp_eBin, wp_eVar0, wp_eVars, wp_eK, wp_eUn, wp_eArgs, wp_aCons, wp_aNil, wp_eAnd, wp_eOr, wp_eNot, wp_eIf, wp_eChain, wp_eSl, wp_eM, wp_oSome, wp_oNone, wp_eFrz, wp_eLc, wp_iL, wp_iT, wp_iS, wp_iR1, gwp_N, gwp_nil, gwp_cons, gwp_T, gwp_sub, List.set_cons_zero, List.set_cons_succ, Bool.not_true, Bool.not_false, Bool.false_eq_true, if_true, if_false, cmp_ii, neg_i, add_ii, sub_ii, decide_eq_true_eq, Nat.reduceLeDiff, Nat.reduceEqDiff, D.bl.injEq, D.int.injEq, D.str.injEq, D.tup.injEq, D.lst.injEq, exists_eq_left', exists_eq_left, true_and, and_true, Option.some.injEq, List.cons.injEq, eq_self, reduceCtorEq, or_false, false_or, false_and, and_false, and_self, mkL_ok, mkT_ok, mkC_ok, le_size, wipeD, len_lst, len_ro, len_tup, Den.len_str, okL_ok, tyChk_str, Den.sl_tup, list_tup, max_ii, min_ii, abs_i, h1, h8, decide_true, decide_false, wp_outD_same]
        simp only [nameX]
        rw [show decide (x.length ≤ 8) = false from decide_eq_false (by omega)]
        simp
    · try simp only [Den.envOf, List.map_cons, List.map_nil, List.length_cons, List.length_nil, List.replicate, List.cons_append, List.nil_append, List.append_nil, Nat.reduceAdd, Nat.reduceSub, Nat.zero_add, Nat.add_zero, wp_sSeq, wp_fnD, wp_ok, wp_next, wp_ret, wp_ite, wp_ites, outP_ret, wp_sIf, wp_sRet, wp_sRetN, wp_sAsg, wp_sExpr, wp_sNext, wp_sFor, wp_sPar, par2_ok, wp_tOf, wp_tOr, wp_tAnd, wp_tNot, wp_tYes, wp_eBin, wp_eVar0, wp_eVars, wp_eK, wp_eUn, wp_eArgs, wp_aCons, wp_aNil, wp_eAnd, wp_eOr, wp_eNot, wp_eIf, wp_eChain, wp_eSl, wp_eM, wp_oSome, wp_oNone, wp_eFrz, wp_eLc, wp_iL, wp_iT, wp_iS, wp_iR1, gwp_N, gwp_nil, gwp_cons, gwp_T, gwp_sub, List.set_cons_zero, List.set_cons_succ, Bool.not_true, Bool.not_false, Bool.false_eq_true, if_true, if_false, cmp_ii, neg_i, add_ii, sub_ii, decide_eq_true_eq, Nat.reduceLeDiff, Nat.reduceEqDiff, D.bl.injEq, D.int.injEq, D.str.injEq, D.tup.injEq, D.lst.injEq, exists_eq_left', exists_eq_left, true_and, and_true, Option.some.injEq, List.cons.injEq, eq_self, reduceCtorEq, or_false, false_or, false_and, and_false, and_self, mkL_ok, mkT_ok, mkC_ok, le_size, wipeD, len_lst, len_ro, len_tup, Den.len_str, okL_ok, tyChk_str, Den.sl_tup, list_tup, max_ii, min_ii, abs_i, h1, decide_true, decide_false, wp_outD_same]
      simp only [nameX]
      rw [show decide (1 ≤ x.length) = false from decide_eq_false (by omega)]
      simp
  | _ => try simp only [Den.envOf, List.map_cons, List.map_nil, List.length_cons, List.length_nil, List.replicate, List.cons_append, List.nil_append, List.append_nil, Nat.reduceAdd, Nat.reduceSub, Nat.zero_add, Nat.add_zero, wp_sSeq, wp_fnD, wp_ok, wp_next, wp_ret, wp_ite, wp_ites, outP_ret, wp_sIf, wp_sRet, wp_sRetN, wp_sAsg, wp_sExpr, wp_sNext, wp_sFor, wp_sPar, par2_ok, wp_tOf, wp_tOr, wp_tAnd, wp_tNot, wp_tYes, wp_eBin, wp_eVar0, wp_eVars, wp_eK, wp_eUn, wp_eArgs, wp_aCons, wp_aNil, wp_eAnd, wp_eOr, wp_eNot, wp_eIf, wp_eChain, wp_eSl, wp_eM, wp_oSome, wp_oNone, wp_eFrz, wp_eLc, wp_iL, wp_iT, wp_iS, wp_iR1, gwp_N, gwp_nil, gwp_cons, gwp_T, gwp_sub, List.set_cons_zero, List.set_cons_succ, Bool.not_true, Bool.not_false, Bool.false_eq_true, if_true, if_false, cmp_ii, neg_i, add_ii, sub_ii, decide_eq_true_eq, Nat.reduceLeDiff, Nat.reduceEqDiff, D.bl.injEq, D.int.injEq, D.str.injEq, D.tup.injEq, D.lst.injEq, exists_eq_left', exists_eq_left, true_and, and_true, Option.some.injEq, List.cons.injEq, eq_self, reduceCtorEq, or_false, false_or, false_and, and_false, and_self, mkL_ok, mkT_ok, mkC_ok, le_size, wipeD, len_lst, len_ro, len_tup, Den.len_str, okL_ok, tyChk_str, Den.sl_tup, list_tup, max_ii, min_ii, abs_i, isS, nameB, wp_outD_same]
theorem fine_of_lfs {ds : List D} (h : fine (.tup ds) = true) : ∀ d ∈ ds, fine d = true := by
  simp only [fine, Bool.and_eq_true, decide_eq_true_eq, lf, mz, pyD, PyData.depth] at h
  obtain ⟨⟨h1, h2⟩, h3⟩ := h
  have h2 := of_decide_eq_true h2
  have main : ∀ ds : List D, lfs ds = true → mzs ds ≤ 100000 → PyData.depthAll (pyDs ds) ≤ 60 → ∀ d ∈ ds, fine d = true := by
    intro ds
    induction ds with
    | nil => intro _ _ _ d hd; cases hd
    | cons x ds ih =>
      intro g1 g2 g3 d hd
      simp only [lfs, Bool.and_eq_true] at g1
      simp only [mzs] at g2
      simp only [pyDs, PyData.depthAll] at g3
      rcases List.mem_cons.mp hd with rfl | hd
      · simp only [fine, g1.1, Bool.true_and, Bool.and_eq_true, decide_eq_true_eq]; omega
      · exact ih g1.2 (by omega) (by omega) d hd
  exact main ds h1 h2 (by omega)
theorem jar_eq (h : fine d = true) : denis_jar [d] st = .ok (.bl (jarB d)) st := by
  refine Res.eq_of_wp ?_
  have hl := fine_lf h
  unfold denis_jar
  try simp only [Den.envOf, List.map_cons, List.map_nil, List.length_cons, List.length_nil, List.replicate, List.cons_append, List.nil_append, List.append_nil, Nat.reduceAdd, Nat.reduceSub, Nat.zero_add, Nat.add_zero, wp_sSeq, wp_fnD, wp_ok, wp_next, wp_ret, wp_ite, wp_ites, outP_ret, wp_sIf, wp_sRet, wp_sRetN, wp_sAsg, wp_sExpr, wp_sNext, wp_sFor, wp_sPar, par2_ok, wp_tOf, wp_tOr, wp_tAnd, wp_tNot, wp_tYes, wp_eBin, wp_eVar0, wp_eVars, wp_eK, wp_eUn, wp_eArgs, wp_aCons, wp_aNil, wp_eAnd, wp_eOr, wp_eNot, wp_eIf, wp_eChain, wp_eSl, wp_eM, wp_oSome, wp_oNone, wp_eFrz, wp_eLc, wp_iL, wp_iT, wp_iS, wp_iR1, gwp_N, gwp_nil, gwp_cons, gwp_T, gwp_sub, List.set_cons_zero, List.set_cons_succ, Bool.not_true, Bool.not_false, Bool.false_eq_true, if_true, if_false, cmp_ii, neg_i, add_ii, sub_ii, decide_eq_true_eq, Nat.reduceLeDiff, Nat.reduceEqDiff, D.bl.injEq, D.int.injEq, D.str.injEq, D.tup.injEq, D.lst.injEq, exists_eq_left', exists_eq_left, true_and, and_true, Option.some.injEq, List.cons.injEq, eq_self, reduceCtorEq, or_false, false_or, false_and, and_false, and_self, mkL_ok, mkT_ok, mkC_ok, le_size, wipeD, len_lst, len_ro, len_tup, Den.len_str, okL_ok, tyChk_str, Den.sl_tup, list_tup, max_ii, min_ii, abs_i, isi_tup hl]
  cases d with
  | tup ds =>
    have hc := fine_of_lfs h
    try simp only [Den.envOf, List.map_cons, List.map_nil, List.length_cons, List.length_nil, List.replicate, List.cons_append, List.nil_append, List.append_nil, Nat.reduceAdd, Nat.reduceSub, Nat.zero_add, Nat.add_zero, wp_sSeq, wp_fnD, wp_ok, wp_next, wp_ret, wp_ite, wp_ites, outP_ret, wp_sIf, wp_sRet, wp_sRetN, wp_sAsg, wp_sExpr, wp_sNext, wp_sFor, wp_sPar, par2_ok, wp_tOf, wp_tOr, wp_tAnd, wp_tNot, wp_tYes, wp_eBin, wp_eVar0, wp_eVars, wp_eK, wp_eUn, wp_eArgs, wp_aCons, wp_aNil, wp_eAnd, wp_eOr, wp_eNot, wp_eIf, wp_eChain, wp_eSl, wp_eM, wp_oSome, wp_oNone, wp_eFrz, wp_eLc, wp_iL, wp_iT, wp_iS, wp_iR1, gwp_N, gwp_nil, gwp_cons, gwp_T, gwp_sub, List.set_cons_zero, List.set_cons_succ, Bool.not_true, Bool.not_false, Bool.false_eq_true, if_true, if_false, cmp_ii, neg_i, add_ii, sub_ii, decide_eq_true_eq, Nat.reduceLeDiff, Nat.reduceEqDiff, D.bl.injEq, D.int.injEq, D.str.injEq, D.tup.injEq, D.lst.injEq, exists_eq_left', exists_eq_left, true_and, and_true, Option.some.injEq, List.cons.injEq, eq_self, reduceCtorEq, or_false, false_or, false_and, and_false, and_self, mkL_ok, mkT_ok, mkC_ok, le_size, wipeD, len_lst, len_ro, len_tup, Den.len_str, okL_ok, tyChk_str, Den.sl_tup, list_tup, max_ii, min_ii, abs_i, isT, ne_ii]
    match ds, hc with
    | [n, b, g], hc =>
      have hn := hc n (by simp)
      have hb := fine_lf (hc b (by simp))
      have hg := fine_lf (hc g (by simp))
      try simp only [Den.envOf, List.map_cons, List.map_nil, List.length_cons, List.length_nil, List.replicate, List.cons_append, List.nil_append, List.append_nil, Nat.reduceAdd, Nat.reduceSub, Nat.zero_add, Nat.add_zero, wp_sSeq, wp_fnD, wp_ok, wp_next, wp_ret, wp_ite, wp_ites, outP_ret, wp_sIf, wp_sRet, wp_sRetN, wp_sAsg, wp_sExpr, wp_sNext, wp_sFor, wp_sPar, par2_ok, wp_tOf, wp_tOr, wp_tAnd, wp_tNot, wp_tYes, wp_eBin, wp_eVar0, wp_eVars, wp_eK, wp_eUn, wp_eArgs, wp_aCons, wp_aNil, wp_eAnd, wp_eOr, wp_eNot, wp_eIf, wp_eChain, wp_eSl, wp_eM, wp_oSome, wp_oNone, wp_eFrz, wp_eLc, wp_iL, wp_iT, wp_iS, wp_iR1, gwp_N, gwp_nil, gwp_cons, gwp_T, gwp_sub, List.set_cons_zero, List.set_cons_succ, Bool.not_true, Bool.not_false, Bool.false_eq_true, if_true, if_false, cmp_ii, neg_i, add_ii, sub_ii, decide_eq_true_eq, Nat.reduceLeDiff, Nat.reduceEqDiff, D.bl.injEq, D.int.injEq, D.str.injEq, D.tup.injEq, D.lst.injEq, exists_eq_left', exists_eq_left, true_and, and_true, Option.some.injEq, List.cons.injEq, eq_self, reduceCtorEq, or_false, false_or, false_and, and_false, and_self, mkL_ok, mkT_ok, mkC_ok, le_size, wipeD, len_lst, len_ro, len_tup, Den.len_str, okL_ok, tyChk_str, Den.sl_tup, list_tup, max_ii, min_ii, abs_i, name_eq hn, base_eq hb, grains_eq hg, wp_outD_same, jarB]
      cases nameB n <;> cases baseB b <;> simp
    | [], _ => try simp only [Den.envOf, List.map_cons, List.map_nil, List.length_cons, List.length_nil, List.replicate, List.cons_append, List.nil_append, List.append_nil, Nat.reduceAdd, Nat.reduceSub, Nat.zero_add, Nat.add_zero, wp_sSeq, wp_fnD, wp_ok, wp_next, wp_ret, wp_ite, wp_ites, outP_ret, wp_sIf, wp_sRet, wp_sRetN, wp_sAsg, wp_sExpr, wp_sNext, wp_sFor, wp_sPar, par2_ok, wp_tOf, wp_tOr, wp_tAnd, wp_tNot, wp_tYes, wp_eBin, wp_eVar0, wp_eVars, wp_eK, wp_eUn, wp_eArgs, wp_aCons, wp_aNil, wp_eAnd, wp_eOr, wp_eNot, wp_eIf, wp_eChain, wp_eSl, wp_eM, wp_oSome, wp_oNone, wp_eFrz, wp_eLc, wp_iL, wp_iT, wp_iS, wp_iR1, gwp_N, gwp_nil, gwp_cons, gwp_T, gwp_sub, List.set_cons_zero, List.set_cons_succ, Bool.not_true, Bool.not_false, Bool.false_eq_true, if_true, if_false, cmp_ii, neg_i, add_ii, sub_ii, decide_eq_true_eq, Nat.reduceLeDiff, Nat.reduceEqDiff, D.bl.injEq, D.int.injEq, D.str.injEq, D.tup.injEq, D.lst.injEq, exists_eq_left', exists_eq_left, true_and, and_true, Option.some.injEq, List.cons.injEq, eq_self, reduceCtorEq, or_false, false_or, false_and, and_false, and_self, mkL_ok, mkT_ok, mkC_ok, le_size, wipeD, len_lst, len_ro, len_tup, Den.len_str, okL_ok, tyChk_str, Den.sl_tup, list_tup, max_ii, min_ii, abs_i, jarB, wp_outD_same]; simp
    | [_], _ => try simp only [Den.envOf, List.map_cons, List.map_nil, List.length_cons, List.length_nil, List.replicate, List.cons_append, List.nil_append, List.append_nil, Nat.reduceAdd, Nat.reduceSub, Nat.zero_add, Nat.add_zero, wp_sSeq, wp_fnD, wp_ok, wp_next, wp_ret, wp_ite, wp_ites, outP_ret, wp_sIf, wp_sRet, wp_sRetN, wp_sAsg, wp_sExpr, wp_sNext, wp_sFor, wp_sPar, par2_ok, wp_tOf, wp_tOr, wp_tAnd, wp_tNot, wp_tYes, wp_eBin, wp_eVar0, wp_eVars, wp_eK, wp_eUn, wp_eArgs, wp_aCons, wp_aNil, wp_eAnd, wp_eOr, wp_eNot, wp_eIf, wp_eChain, wp_eSl, wp_eM, wp_oSome, wp_oNone, wp_eFrz, wp_eLc, wp_iL, wp_iT, wp_iS, wp_iR1, gwp_N, gwp_nil, gwp_cons, gwp_T, gwp_sub, List.set_cons_zero, List.set_cons_succ, Bool.not_true, Bool.not_false, Bool.false_eq_true, if_true, if_false, cmp_ii, neg_i, add_ii, sub_ii, decide_eq_true_eq, Nat.reduceLeDiff, Nat.reduceEqDiff, D.bl.injEq, D.int.injEq, D.str.injEq, D.tup.injEq, D.lst.injEq, exists_eq_left', exists_eq_left, true_and, and_true, Option.some.injEq, List.cons.injEq, eq_self, reduceCtorEq, or_false, false_or, false_and, and_false, and_self, mkL_ok, mkT_ok, mkC_ok, le_size, wipeD, len_lst, len_ro, len_tup, Den.len_str, okL_ok, tyChk_str, Den.sl_tup, list_tup, max_ii, min_ii, abs_i, jarB, wp_outD_same]; simp
    | [_, _], _ => try simp only [Den.envOf, List.map_cons, List.map_nil, List.length_cons, List.length_nil, List.replicate, List.cons_append, List.nil_append, List.append_nil, Nat.reduceAdd, Nat.reduceSub, Nat.zero_add, Nat.add_zero, wp_sSeq, wp_fnD, wp_ok, wp_next, wp_ret, wp_ite, wp_ites, outP_ret, wp_sIf, wp_sRet, wp_sRetN, wp_sAsg, wp_sExpr, wp_sNext, wp_sFor, wp_sPar, par2_ok, wp_tOf, wp_tOr, wp_tAnd, wp_tNot, wp_tYes, wp_eBin, wp_eVar0, wp_eVars, wp_eK, wp_eUn, wp_eArgs, wp_aCons, wp_aNil, wp_eAnd, wp_eOr, wp_eNot, wp_eIf, wp_eChain, wp_eSl, wp_eM, wp_oSome, wp_oNone, wp_eFrz, wp_eLc, wp_iL, wp_iT, wp_iS, wp_iR1, gwp_N, gwp_nil, gwp_cons, gwp_T, gwp_sub, List.set_cons_zero, List.set_cons_succ, Bool.not_true, Bool.not_false, Bool.false_eq_true, if_true, if_false, cmp_ii, neg_i, add_ii, sub_ii, decide_eq_true_eq, Nat.reduceLeDiff, Nat.reduceEqDiff, D.bl.injEq, D.int.injEq, D.str.injEq, D.tup.injEq, D.lst.injEq, exists_eq_left', exists_eq_left, true_and, and_true, Option.some.injEq, List.cons.injEq, eq_self, reduceCtorEq, or_false, false_or, false_and, and_false, and_self, mkL_ok, mkT_ok, mkC_ok, le_size, wipeD, len_lst, len_ro, len_tup, Den.len_str, okL_ok, tyChk_str, Den.sl_tup, list_tup, max_ii, min_ii, abs_i, jarB, wp_outD_same]; simp
    | _ :: _ :: _ :: _ :: r, _ =>
      have : ¬ ((r.length : Int) + 1 + 1 + 1 + 1 = 3) := by omega
      try simp only [Den.envOf, List.map_cons, List.map_nil, List.length_cons, List.length_nil, List.replicate, List.cons_append, List.nil_append, List.append_nil, Nat.reduceAdd, Nat.reduceSub, Nat.zero_add, Nat.add_zero, wp_sSeq, wp_fnD, wp_ok, wp_next, wp_ret, wp_ite, wp_ites, outP_ret, wp_sIf, wp_sRet, wp_sRetN, wp_sAsg, wp_sExpr, wp_sNext, wp_sFor, wp_sPar, par2_ok, wp_tOf, wp_tOr, wp_tAnd, wp_tNot, wp_tYes, wp_eBin, wp_eVar0, wp_eVars, wp_eK, wp_eUn, wp_eArgs, wp_aCons, wp_aNil, wp_eAnd, wp_eOr, wp_eNot, wp_eIf, wp_eChain, wp_eSl, wp_eM, wp_oSome, wp_oNone, wp_eFrz, wp_eLc, wp_iL, wp_iT, wp_iS, wp_iR1, gwp_N, gwp_nil, gwp_cons, gwp_T, gwp_sub, List.set_cons_zero, List.set_cons_succ, Bool.not_true, Bool.not_false, Bool.false_eq_true, if_true, if_false, cmp_ii, neg_i, add_ii, sub_ii, decide_eq_true_eq, Nat.reduceLeDiff, Nat.reduceEqDiff, D.bl.injEq, D.int.injEq, D.str.injEq, D.tup.injEq, D.lst.injEq, exists_eq_left', exists_eq_left, true_and, and_true, Option.some.injEq, List.cons.injEq, eq_self, reduceCtorEq, or_false, false_or, false_and, and_false, and_self, mkL_ok, mkT_ok, mkC_ok, le_size, wipeD, len_lst, len_ro, len_tup, Den.len_str, okL_ok, tyChk_str, Den.sl_tup, list_tup, max_ii, min_ii, abs_i, jarB, wp_outD_same]
      simp
      omega
  | _ => try simp only [Den.envOf, List.map_cons, List.map_nil, List.length_cons, List.length_nil, List.replicate, List.cons_append, List.nil_append, List.append_nil, Nat.reduceAdd, Nat.reduceSub, Nat.zero_add, Nat.add_zero, wp_sSeq, wp_fnD, wp_ok, wp_next, wp_ret, wp_ite, wp_ites, outP_ret, wp_sIf, wp_sRet, wp_sRetN, wp_sAsg, wp_sExpr, wp_sNext, wp_sFor, wp_sPar, par2_ok, wp_tOf, wp_tOr, wp_tAnd, wp_tNot, wp_tYes, wp_eBin, wp_eVar0, wp_eVars, wp_eK, wp_eUn, wp_eArgs, wp_aCons, wp_aNil, wp_eAnd, wp_eOr, wp_eNot, wp_eIf, wp_eChain, wp_eSl, wp_eM, wp_oSome, wp_oNone, wp_eFrz, wp_eLc, wp_iL, wp_iT, wp_iS, wp_iR1, gwp_N, gwp_nil, gwp_cons, gwp_T, gwp_sub, List.set_cons_zero, List.set_cons_succ, Bool.not_true, Bool.not_false, Bool.false_eq_true, if_true, if_false, cmp_ii, neg_i, add_ii, sub_ii, decide_eq_true_eq, Nat.reduceLeDiff, Nat.reduceEqDiff, D.bl.injEq, D.int.injEq, D.str.injEq, D.tup.injEq, D.lst.injEq, exists_eq_left', exists_eq_left, true_and, and_true, Option.some.injEq, List.cons.injEq, eq_self, reduceCtorEq, or_false, false_or, false_and, and_false, and_self, mkL_ok, mkT_ok, mkC_ok, le_size, wipeD, len_lst, len_ro, len_tup, Den.len_str, okL_ok, tyChk_str, Den.sl_tup, list_tup, max_ii, min_ii, abs_i, isT, jarB, wp_outD_same]
theorem e6 : (10 : Int) ^ (Int.toNat 6) + 1 = 1000001 := by decide
theorem at0 {x y z : D} : L2.atI [x, y, z] 0 = some x := rfl
theorem at1 {x y z : D} : L2.atI [x, y, z] 1 = some y := rfl
theorem at2 {x y z : D} : L2.atI [x, y, z] 2 = some z := rfl
theorem one_eq (h : fine d = true) : den_law_is_one [d] st = .ok (.bl (jarB d)) st := by
  refine Res.eq_of_wp ?_
  have hl := fine_lf h
  unfold den_law_is_one
  try simp only [Den.envOf, List.map_cons, List.map_nil, List.length_cons, List.length_nil, List.replicate, List.cons_append, List.nil_append, List.append_nil, Nat.reduceAdd, Nat.reduceSub, Nat.zero_add, Nat.add_zero, wp_sSeq, wp_fnD, wp_ok, wp_next, wp_ret, wp_ite, wp_ites, outP_ret, wp_sIf, wp_sRet, wp_sRetN, wp_sAsg, wp_sExpr, wp_sNext, wp_sFor, wp_sPar, par2_ok, wp_tOf, wp_tOr, wp_tAnd, wp_tNot, wp_tYes, wp_eBin, wp_eVar0, wp_eVars, wp_eK, wp_eUn, wp_eArgs, wp_aCons, wp_aNil, wp_eAnd, wp_eOr, wp_eNot, wp_eIf, wp_eChain, wp_eSl, wp_eM, wp_oSome, wp_oNone, wp_eFrz, wp_eLc, wp_iL, wp_iT, wp_iS, wp_iR1, gwp_N, gwp_nil, gwp_cons, gwp_T, gwp_sub, List.set_cons_zero, List.set_cons_succ, Bool.not_true, Bool.not_false, Bool.false_eq_true, if_true, if_false, cmp_ii, neg_i, add_ii, sub_ii, decide_eq_true_eq, Nat.reduceLeDiff, Nat.reduceEqDiff, D.bl.injEq, D.int.injEq, D.str.injEq, D.tup.injEq, D.lst.injEq, exists_eq_left', exists_eq_left, true_and, and_true, Option.some.injEq, List.cons.injEq, eq_self, reduceCtorEq, or_false, false_or, false_and, and_false, and_self, mkL_ok, mkT_ok, mkC_ok, le_size, wipeD, len_lst, len_ro, len_tup, Den.len_str, okL_ok, tyChk_str, Den.sl_tup, list_tup, max_ii, min_ii, abs_i, isi_tup hl]
  cases d with
  | tup ds =>
    have hc := fine_of_lfs h
    try simp only [Den.envOf, List.map_cons, List.map_nil, List.length_cons, List.length_nil, List.replicate, List.cons_append, List.nil_append, List.append_nil, Nat.reduceAdd, Nat.reduceSub, Nat.zero_add, Nat.add_zero, wp_sSeq, wp_fnD, wp_ok, wp_next, wp_ret, wp_ite, wp_ites, outP_ret, wp_sIf, wp_sRet, wp_sRetN, wp_sAsg, wp_sExpr, wp_sNext, wp_sFor, wp_sPar, par2_ok, wp_tOf, wp_tOr, wp_tAnd, wp_tNot, wp_tYes, wp_eBin, wp_eVar0, wp_eVars, wp_eK, wp_eUn, wp_eArgs, wp_aCons, wp_aNil, wp_eAnd, wp_eOr, wp_eNot, wp_eIf, wp_eChain, wp_eSl, wp_eM, wp_oSome, wp_oNone, wp_eFrz, wp_eLc, wp_iL, wp_iT, wp_iS, wp_iR1, gwp_N, gwp_nil, gwp_cons, gwp_T, gwp_sub, List.set_cons_zero, List.set_cons_succ, Bool.not_true, Bool.not_false, Bool.false_eq_true, if_true, if_false, cmp_ii, neg_i, add_ii, sub_ii, decide_eq_true_eq, Nat.reduceLeDiff, Nat.reduceEqDiff, D.bl.injEq, D.int.injEq, D.str.injEq, D.tup.injEq, D.lst.injEq, exists_eq_left', exists_eq_left, true_and, and_true, Option.some.injEq, List.cons.injEq, eq_self, reduceCtorEq, or_false, false_or, false_and, and_false, and_self, mkL_ok, mkT_ok, mkC_ok, le_size, wipeD, len_lst, len_ro, len_tup, Den.len_str, okL_ok, tyChk_str, Den.sl_tup, list_tup, max_ii, min_ii, abs_i, isT, ne_ii]
    match ds, hc with
    | [n, b, g], hc =>
      have hn := hc n (by simp)
      have hb := fine_lf (hc b (by simp))
      have hg := fine_lf (hc g (by simp))
      try simp only [Den.envOf, List.map_cons, List.map_nil, List.length_cons, List.length_nil, List.replicate, List.cons_append, List.nil_append, List.append_nil, Nat.reduceAdd, Nat.reduceSub, Nat.zero_add, Nat.add_zero, wp_sSeq, wp_fnD, wp_ok, wp_next, wp_ret, wp_ite, wp_ites, outP_ret, wp_sIf, wp_sRet, wp_sRetN, wp_sAsg, wp_sExpr, wp_sNext, wp_sFor, wp_sPar, par2_ok, wp_tOf, wp_tOr, wp_tAnd, wp_tNot, wp_tYes, wp_eBin, wp_eVar0, wp_eVars, wp_eK, wp_eUn, wp_eArgs, wp_aCons, wp_aNil, wp_eAnd, wp_eOr, wp_eNot, wp_eIf, wp_eChain, wp_eSl, wp_eM, wp_oSome, wp_oNone, wp_eFrz, wp_eLc, wp_iL, wp_iT, wp_iS, wp_iR1, gwp_N, gwp_nil, gwp_cons, gwp_T, gwp_sub, List.set_cons_zero, List.set_cons_succ, Bool.not_true, Bool.not_false, Bool.false_eq_true, if_true, if_false, cmp_ii, neg_i, add_ii, sub_ii, decide_eq_true_eq, Nat.reduceLeDiff, Nat.reduceEqDiff, D.bl.injEq, D.int.injEq, D.str.injEq, D.tup.injEq, D.lst.injEq, exists_eq_left', exists_eq_left, true_and, and_true, Option.some.injEq, List.cons.injEq, eq_self, reduceCtorEq, or_false, false_or, false_and, and_false, and_self, mkL_ok, mkT_ok, mkC_ok, le_size, wipeD, len_lst, len_ro, len_tup, Den.len_str, okL_ok, tyChk_str, Den.sl_tup, list_tup, max_ii, min_ii, abs_i, ix_tup (xs := [n, b, g]) at0, ix_tup (xs := [n, b, g]) at1, ix_tup (xs := [n, b, g]) at2, lname_eq hn, lwhole_eq hb, lwhole_eq hg, wp_outD_same, jarB, pow_ii (i := 10) (j := 6) (by decide), e6]
      cases nameB n
      · simp
      · cases b <;> simp [atLeast, baseB, wp_ok, cmp_ii]
        rename_i i
        by_cases h2 : 2 ≤ i
        · by_cases h3 : i < 1000001
          · have h4 : i ≤ 1000000 := by omega
            simp [h2, h3, h4, cmp_ii, wp_ok, wp_outD_same]
          · have h4 : ¬ i ≤ 1000000 := by omega
            simp [h2, h3, h4, cmp_ii, wp_ok, wp_outD_same]
            omega
        · simp [h2]
    | [], _ => try simp only [Den.envOf, List.map_cons, List.map_nil, List.length_cons, List.length_nil, List.replicate, List.cons_append, List.nil_append, List.append_nil, Nat.reduceAdd, Nat.reduceSub, Nat.zero_add, Nat.add_zero, wp_sSeq, wp_fnD, wp_ok, wp_next, wp_ret, wp_ite, wp_ites, outP_ret, wp_sIf, wp_sRet, wp_sRetN, wp_sAsg, wp_sExpr, wp_sNext, wp_sFor, wp_sPar, par2_ok, wp_tOf, wp_tOr, wp_tAnd, wp_tNot, wp_tYes, wp_eBin, wp_eVar0, wp_eVars, wp_eK, wp_eUn, wp_eArgs, wp_aCons, wp_aNil, wp_eAnd, wp_eOr, wp_eNot, wp_eIf, wp_eChain, wp_eSl, wp_eM, wp_oSome, wp_oNone, wp_eFrz, wp_eLc, wp_iL, wp_iT, wp_iS, wp_iR1, gwp_N, gwp_nil, gwp_cons, gwp_T, gwp_sub, List.set_cons_zero, List.set_cons_succ, Bool.not_true, Bool.not_false, Bool.false_eq_true, if_true, if_false, cmp_ii, neg_i, add_ii, sub_ii, decide_eq_true_eq, Nat.reduceLeDiff, Nat.reduceEqDiff, D.bl.injEq, D.int.injEq, D.str.injEq, D.tup.injEq, D.lst.injEq, exists_eq_left', exists_eq_left, true_and, and_true, Option.some.injEq, List.cons.injEq, eq_self, reduceCtorEq, or_false, false_or, false_and, and_false, and_self, mkL_ok, mkT_ok, mkC_ok, le_size, wipeD, len_lst, len_ro, len_tup, Den.len_str, okL_ok, tyChk_str, Den.sl_tup, list_tup, max_ii, min_ii, abs_i, jarB, wp_outD_same]; simp
    | [_], _ => try simp only [Den.envOf, List.map_cons, List.map_nil, List.length_cons, List.length_nil, List.replicate, List.cons_append, List.nil_append, List.append_nil, Nat.reduceAdd, Nat.reduceSub, Nat.zero_add, Nat.add_zero, wp_sSeq, wp_fnD, wp_ok, wp_next, wp_ret, wp_ite, wp_ites, outP_ret, wp_sIf, wp_sRet, wp_sRetN, wp_sAsg, wp_sExpr, wp_sNext, wp_sFor, wp_sPar, par2_ok, wp_tOf, wp_tOr, wp_tAnd, wp_tNot, wp_tYes, wp_eBin, wp_eVar0, wp_eVars, wp_eK, wp_eUn, wp_eArgs, wp_aCons, wp_aNil, wp_eAnd, wp_eOr, wp_eNot, wp_eIf, wp_eChain, wp_eSl, wp_eM, wp_oSome, wp_oNone, wp_eFrz, wp_eLc, wp_iL, wp_iT, wp_iS, wp_iR1, gwp_N, gwp_nil, gwp_cons, gwp_T, gwp_sub, List.set_cons_zero, List.set_cons_succ, Bool.not_true, Bool.not_false, Bool.false_eq_true, if_true, if_false, cmp_ii, neg_i, add_ii, sub_ii, decide_eq_true_eq, Nat.reduceLeDiff, Nat.reduceEqDiff, D.bl.injEq, D.int.injEq, D.str.injEq, D.tup.injEq, D.lst.injEq, exists_eq_left', exists_eq_left, true_and, and_true, Option.some.injEq, List.cons.injEq, eq_self, reduceCtorEq, or_false, false_or, false_and, and_false, and_self, mkL_ok, mkT_ok, mkC_ok, le_size, wipeD, len_lst, len_ro, len_tup, Den.len_str, okL_ok, tyChk_str, Den.sl_tup, list_tup, max_ii, min_ii, abs_i, jarB, wp_outD_same]; simp
    | [_, _], _ => try simp only [Den.envOf, List.map_cons, List.map_nil, List.length_cons, List.length_nil, List.replicate, List.cons_append, List.nil_append, List.append_nil, Nat.reduceAdd, Nat.reduceSub, Nat.zero_add, Nat.add_zero, wp_sSeq, wp_fnD, wp_ok, wp_next, wp_ret, wp_ite, wp_ites, outP_ret, wp_sIf, wp_sRet, wp_sRetN, wp_sAsg, wp_sExpr, wp_sNext, wp_sFor, wp_sPar, par2_ok, wp_tOf, wp_tOr, wp_tAnd, wp_tNot, wp_tYes, wp_eBin, wp_eVar0, wp_eVars, wp_eK, wp_eUn, wp_eArgs, wp_aCons, wp_aNil, wp_eAnd, wp_eOr, wp_eNot, wp_eIf, wp_eChain, wp_eSl, wp_eM, wp_oSome, wp_oNone, wp_eFrz, wp_eLc, wp_iL, wp_iT, wp_iS, wp_iR1, gwp_N, gwp_nil, gwp_cons, gwp_T, gwp_sub, List.set_cons_zero, List.set_cons_succ, Bool.not_true, Bool.not_false, Bool.false_eq_true, if_true, if_false, cmp_ii, neg_i, add_ii, sub_ii, decide_eq_true_eq, Nat.reduceLeDiff, Nat.reduceEqDiff, D.bl.injEq, D.int.injEq, D.str.injEq, D.tup.injEq, D.lst.injEq, exists_eq_left', exists_eq_left, true_and, and_true, Option.some.injEq, List.cons.injEq, eq_self, reduceCtorEq, or_false, false_or, false_and, and_false, and_self, mkL_ok, mkT_ok, mkC_ok, le_size, wipeD, len_lst, len_ro, len_tup, Den.len_str, okL_ok, tyChk_str, Den.sl_tup, list_tup, max_ii, min_ii, abs_i, jarB, wp_outD_same]; simp
    | _ :: _ :: _ :: _ :: r, _ =>
      have : ¬ ((r.length : Int) + 1 + 1 + 1 + 1 = 3) := by omega
      try simp only [Den.envOf, List.map_cons, List.map_nil, List.length_cons, List.length_nil, List.replicate, List.cons_append, List.nil_append, List.append_nil, Nat.reduceAdd, Nat.reduceSub, Nat.zero_add, Nat.add_zero, wp_sSeq, wp_fnD, wp_ok, wp_next, wp_ret, wp_ite, wp_ites, outP_ret, wp_sIf, wp_sRet, wp_sRetN, wp_sAsg, wp_sExpr, wp_sNext, wp_sFor, wp_sPar, par2_ok, wp_tOf, wp_tOr, wp_tAnd, wp_tNot, wp_tYes, wp_eBin, wp_eVar0, wp_eVars, wp_eK, wp_eUn, wp_eArgs, wp_aCons, wp_aNil, wp_eAnd, wp_eOr, wp_eNot, wp_eIf, wp_eChain, wp_eSl, wp_eM, wp_oSome, wp_oNone, wp_eFrz, wp_eLc, wp_iL, wp_iT, wp_iS, wp_iR1, gwp_N, gwp_nil, gwp_cons, gwp_T, gwp_sub, List.set_cons_zero, List.set_cons_succ, Bool.not_true, Bool.not_false, Bool.false_eq_true, if_true, if_false, cmp_ii, neg_i, add_ii, sub_ii, decide_eq_true_eq, Nat.reduceLeDiff, Nat.reduceEqDiff, D.bl.injEq, D.int.injEq, D.str.injEq, D.tup.injEq, D.lst.injEq, exists_eq_left', exists_eq_left, true_and, and_true, Option.some.injEq, List.cons.injEq, eq_self, reduceCtorEq, or_false, false_or, false_and, and_false, and_self, mkL_ok, mkT_ok, mkC_ok, le_size, wipeD, len_lst, len_ro, len_tup, Den.len_str, okL_ok, tyChk_str, Den.sl_tup, list_tup, max_ii, min_ii, abs_i, jarB, wp_outD_same]
      simp
      omega
  | _ => try simp only [Den.envOf, List.map_cons, List.map_nil, List.length_cons, List.length_nil, List.replicate, List.cons_append, List.nil_append, List.append_nil, Nat.reduceAdd, Nat.reduceSub, Nat.zero_add, Nat.add_zero, wp_sSeq, wp_fnD, wp_ok, wp_next, wp_ret, wp_ite, wp_ites, outP_ret, wp_sIf, wp_sRet, wp_sRetN, wp_sAsg, wp_sExpr, wp_sNext, wp_sFor, wp_sPar, par2_ok, wp_tOf, wp_tOr, wp_tAnd, wp_tNot, wp_tYes, wp_eBin, wp_eVar0, wp_eVars, wp_eK, wp_eUn, wp_eArgs, wp_aCons, wp_aNil, wp_eAnd, wp_eOr, wp_eNot, wp_eIf, wp_eChain, wp_eSl, wp_eM, wp_oSome, wp_oNone, wp_eFrz, wp_eLc, wp_iL, wp_iT, wp_iS, wp_iR1, gwp_N, gwp_nil, gwp_cons, gwp_T, gwp_sub, List.set_cons_zero, List.set_cons_succ, Bool.not_true, Bool.not_false, Bool.false_eq_true, if_true, if_false, cmp_ii, neg_i, add_ii, sub_ii, decide_eq_true_eq, Nat.reduceLeDiff, Nat.reduceEqDiff, D.bl.injEq, D.int.injEq, D.str.injEq, D.tup.injEq, D.lst.injEq, exists_eq_left', exists_eq_left, true_and, and_true, Option.some.injEq, List.cons.injEq, eq_self, reduceCtorEq, or_false, false_or, false_and, and_false, and_self, mkL_ok, mkT_ok, mkC_ok, le_size, wipeD, len_lst, len_ro, len_tup, Den.len_str, okL_ok, tyChk_str, Den.sl_tup, list_tup, max_ii, min_ii, abs_i, isT, jarB, wp_outD_same]
theorem told_eq (h : fine d = true) : den_law_are_told [d] st = .ok (.bl true) st := by
  refine Res.eq_of_wp ?_
  have hl := fine_lf h
  unfold den_law_are_told
  have fb : ∀ b1 b2 b3 b4 : Bool, fine (.lst [.bl b1, .bl b2, .bl b3, .bl b4]) = true := by decide
  try simp only [Den.envOf, List.map_cons, List.map_nil, List.length_cons, List.length_nil, List.replicate, List.cons_append, List.nil_append, List.append_nil, Nat.reduceAdd, Nat.reduceSub, Nat.zero_add, Nat.add_zero, wp_sSeq, wp_fnD, wp_ok, wp_next, wp_ret, wp_ite, wp_ites, outP_ret, wp_sIf, wp_sRet, wp_sRetN, wp_sAsg, wp_sExpr, wp_sNext, wp_sFor, wp_sPar, par2_ok, wp_tOf, wp_tOr, wp_tAnd, wp_tNot, wp_tYes, wp_eBin, wp_eVar0, wp_eVars, wp_eK, wp_eUn, wp_eArgs, wp_aCons, wp_aNil, wp_eAnd, wp_eOr, wp_eNot, wp_eIf, wp_eChain, wp_eSl, wp_eM, wp_oSome, wp_oNone, wp_eFrz, wp_eLc, wp_iL, wp_iT, wp_iS, wp_iR1, gwp_N, gwp_nil, gwp_cons, gwp_T, gwp_sub, List.set_cons_zero, List.set_cons_succ, Bool.not_true, Bool.not_false, Bool.false_eq_true, if_true, if_false, cmp_ii, neg_i, add_ii, sub_ii, decide_eq_true_eq, Nat.reduceLeDiff, Nat.reduceEqDiff, D.bl.injEq, D.int.injEq, D.str.injEq, D.tup.injEq, D.lst.injEq, exists_eq_left', exists_eq_left, true_and, and_true, Option.some.injEq, List.cons.injEq, eq_self, reduceCtorEq, or_false, false_or, false_and, and_false, and_self, mkL_ok, mkT_ok, mkC_ok, le_size, wipeD, len_lst, len_ro, len_tup, Den.len_str, okL_ok, tyChk_str, Den.sl_tup, list_tup, max_ii, min_ii, abs_i, reprD_fine h, name_eq h, base_eq hl, grains_eq hl, jar_eq h, lwhole_eq hl, lname_eq h, one_eq h, pow_ii (i := 10) (j := 6) (by decide), e6]
  cases hd : atLeast 2 d with
  | false =>
    have hb : baseB d = false := by
      cases d <;> simp only [baseB, atLeast] at hd ⊢
      simp [hd]
    try simp only [Den.envOf, List.map_cons, List.map_nil, List.length_cons, List.length_nil, List.replicate, List.cons_append, List.nil_append, List.append_nil, Nat.reduceAdd, Nat.reduceSub, Nat.zero_add, Nat.add_zero, wp_sSeq, wp_fnD, wp_ok, wp_next, wp_ret, wp_ite, wp_ites, outP_ret, wp_sIf, wp_sRet, wp_sRetN, wp_sAsg, wp_sExpr, wp_sNext, wp_sFor, wp_sPar, par2_ok, wp_tOf, wp_tOr, wp_tAnd, wp_tNot, wp_tYes, wp_eBin, wp_eVar0, wp_eVars, wp_eK, wp_eUn, wp_eArgs, wp_aCons, wp_aNil, wp_eAnd, wp_eOr, wp_eNot, wp_eIf, wp_eChain, wp_eSl, wp_eM, wp_oSome, wp_oNone, wp_eFrz, wp_eLc, wp_iL, wp_iT, wp_iS, wp_iR1, gwp_N, gwp_nil, gwp_cons, gwp_T, gwp_sub, List.set_cons_zero, List.set_cons_succ, Bool.not_true, Bool.not_false, Bool.false_eq_true, if_true, if_false, cmp_ii, neg_i, add_ii, sub_ii, decide_eq_true_eq, Nat.reduceLeDiff, Nat.reduceEqDiff, D.bl.injEq, D.int.injEq, D.str.injEq, D.tup.injEq, D.lst.injEq, exists_eq_left', exists_eq_left, true_and, and_true, Option.some.injEq, List.cons.injEq, eq_self, reduceCtorEq, or_false, false_or, false_and, and_false, and_self, mkL_ok, mkT_ok, mkC_ok, le_size, wipeD, len_lst, len_ro, len_tup, Den.len_str, okL_ok, tyChk_str, Den.sl_tup, list_tup, max_ii, min_ii, abs_i, hb, reprD_fine (fb _ _ _ _), eq_ss, wp_outD_same, beq_self_eq_true]
  | true =>
    cases d with
    | int i =>
      have hb : baseB (.int i) = decide (i < 1000001) := by
        simp only [baseB, atLeast] at hd ⊢
        rw [hd, Bool.true_and]
        exact decide_eq_decide.mpr (by omega)
      try simp only [Den.envOf, List.map_cons, List.map_nil, List.length_cons, List.length_nil, List.replicate, List.cons_append, List.nil_append, List.append_nil, Nat.reduceAdd, Nat.reduceSub, Nat.zero_add, Nat.add_zero, wp_sSeq, wp_fnD, wp_ok, wp_next, wp_ret, wp_ite, wp_ites, outP_ret, wp_sIf, wp_sRet, wp_sRetN, wp_sAsg, wp_sExpr, wp_sNext, wp_sFor, wp_sPar, par2_ok, wp_tOf, wp_tOr, wp_tAnd, wp_tNot, wp_tYes, wp_eBin, wp_eVar0, wp_eVars, wp_eK, wp_eUn, wp_eArgs, wp_aCons, wp_aNil, wp_eAnd, wp_eOr, wp_eNot, wp_eIf, wp_eChain, wp_eSl, wp_eM, wp_oSome, wp_oNone, wp_eFrz, wp_eLc, wp_iL, wp_iT, wp_iS, wp_iR1, gwp_N, gwp_nil, gwp_cons, gwp_T, gwp_sub, List.set_cons_zero, List.set_cons_succ, Bool.not_true, Bool.not_false, Bool.false_eq_true, if_true, if_false, cmp_ii, neg_i, add_ii, sub_ii, decide_eq_true_eq, Nat.reduceLeDiff, Nat.reduceEqDiff, D.bl.injEq, D.int.injEq, D.str.injEq, D.tup.injEq, D.lst.injEq, exists_eq_left', exists_eq_left, true_and, and_true, Option.some.injEq, List.cons.injEq, eq_self, reduceCtorEq, or_false, false_or, false_and, and_false, and_self, mkL_ok, mkT_ok, mkC_ok, le_size, wipeD, len_lst, len_ro, len_tup, Den.len_str, okL_ok, tyChk_str, Den.sl_tup, list_tup, max_ii, min_ii, abs_i, hb, reprD_fine (fb _ _ _ _), eq_ss, wp_outD_same, beq_self_eq_true]
    | _ => simp [atLeast] at hd
end
/-! ### the law -/
theorem pot_wp {ns : List Int} {k : Int} {st : Store} {Q : D → Store → Prop} {E : Xc → Store → Prop} (k0 : 0 ≤ k) (k8 : k < 100)
    (nx : ∀ a b, Gd a b → Q (.cell st.length) (st ++ [pc a b])) : (den_law_pot [.ro (ns.map D.int), .int k] st).wp Q E := by
  unfold den_law_pot
  have fin : ∀ c : Int, 0 ≤ c → Q (.cell st.length) (st ++ [.lst [.int (if c - 10 ^ Int.toNat 18 > 0 then c - 10 ^ Int.toNat 18 else 0), .int (c % 2147483563 + 977 * k + 1)]]) := fun c hc => by
    have h1 : 0 ≤ c % 2147483563 := Int.emod_nonneg _ (by decide)
    have h2 : c % 2147483563 < 2147483563 := Int.emod_lt_of_pos _ (by decide)
    refine nx _ _ ⟨?_, by omega, by omega⟩
    split <;> omega
  have m1 : mulOk 977 k = true := mulOk_of (by decide) (by omega)
  try simp only [Den.envOf, List.map_cons, List.map_nil, List.length_cons, List.length_nil, List.replicate, List.cons_append, List.nil_append, List.append_nil, Nat.reduceAdd, Nat.reduceSub, Nat.zero_add, Nat.add_zero, wp_sSeq, wp_fnD, wp_ok, wp_next, wp_ret, wp_ite, wp_ites, outP_ret, wp_sIf, wp_sRet, wp_sRetN, wp_sAsg, wp_sExpr, wp_sNext, wp_sFor, wp_sPar, par2_ok, wp_tOf, wp_tOr, wp_tAnd, wp_tNot, wp_tYes, wp_eBin, wp_eVar0, wp_eVars, wp_eK, wp_eUn, wp_eArgs, wp_aCons, wp_aNil, wp_eAnd, wp_eOr, wp_eNot, wp_eIf, wp_eChain, wp_eSl, wp_eM, wp_oSome, wp_oNone, wp_eFrz, wp_eLc, wp_iL, wp_iT, wp_iS, wp_iR1, gwp_N, gwp_nil, gwp_cons, gwp_T, gwp_sub, List.set_cons_zero, List.set_cons_succ, Bool.not_true, Bool.not_false, Bool.false_eq_true, if_true, if_false, cmp_ii, neg_i, add_ii, sub_ii, decide_eq_true_eq, Nat.reduceLeDiff, Nat.reduceEqDiff, D.bl.injEq, D.int.injEq, D.str.injEq, D.tup.injEq, D.lst.injEq, exists_eq_left', exists_eq_left, true_and, and_true, Option.some.injEq, List.cons.injEq, eq_self, reduceCtorEq, or_false, false_or, false_and, and_false, and_self, mkL_ok, mkT_ok, mkC_ok, le_size, wipeD, len_lst, len_ro, len_tup, Den.len_str, okL_ok, tyChk_str, Den.sl_tup, list_tup, max_ii, min_ii, abs_i, List.length_map]
  split
  · rename_i hk
    obtain ⟨d, e, m⟩ := atI_nat (xs := ns.map D.int) k0 (by simpa using hk)
    obtain ⟨z, _, rfl⟩ := List.mem_map.mp m
    have e1 : ixD (.ro (ns.map D.int)) (.int k) st = .ok (.int z) st := by simp only [ixD, asR, e]
    try simp only [Den.envOf, List.map_cons, List.map_nil, List.length_cons, List.length_nil, List.replicate, List.cons_append, List.nil_append, List.append_nil, Nat.reduceAdd, Nat.reduceSub, Nat.zero_add, Nat.add_zero, wp_sSeq, wp_fnD, wp_ok, wp_next, wp_ret, wp_ite, wp_ites, outP_ret, wp_sIf, wp_sRet, wp_sRetN, wp_sAsg, wp_sExpr, wp_sNext, wp_sFor, wp_sPar, par2_ok, wp_tOf, wp_tOr, wp_tAnd, wp_tNot, wp_tYes, wp_eBin, wp_eVar0, wp_eVars, wp_eK, wp_eUn, wp_eArgs, wp_aCons, wp_aNil, wp_eAnd, wp_eOr, wp_eNot, wp_eIf, wp_eChain, wp_eSl, wp_eM, wp_oSome, wp_oNone, wp_eFrz, wp_eLc, wp_iL, wp_iT, wp_iS, wp_iR1, gwp_N, gwp_nil, gwp_cons, gwp_T, gwp_sub, List.set_cons_zero, List.set_cons_succ, Bool.not_true, Bool.not_false, Bool.false_eq_true, if_true, if_false, cmp_ii, neg_i, add_ii, sub_ii, decide_eq_true_eq, Nat.reduceLeDiff, Nat.reduceEqDiff, D.bl.injEq, D.int.injEq, D.str.injEq, D.tup.injEq, D.lst.injEq, exists_eq_left', exists_eq_left, true_and, and_true, Option.some.injEq, List.cons.injEq, eq_self, reduceCtorEq, or_false, false_or, false_and, and_false, and_self, mkL_ok, mkT_ok, mkC_ok, le_size, wipeD, len_lst, len_ro, len_tup, Den.len_str, okL_ok, tyChk_str, Den.sl_tup, list_tup, max_ii, min_ii, abs_i, e1, pow_ii (i := 10) (j := 18) (by decide), mod_ii (show (0 : Int) < 2147483563 by decide), mul_ii m1, wp_outD_keep]
    exact fin _ (by split <;> omega)
  · try simp only [Den.envOf, List.map_cons, List.map_nil, List.length_cons, List.length_nil, List.replicate, List.cons_append, List.nil_append, List.append_nil, Nat.reduceAdd, Nat.reduceSub, Nat.zero_add, Nat.add_zero, wp_sSeq, wp_fnD, wp_ok, wp_next, wp_ret, wp_ite, wp_ites, outP_ret, wp_sIf, wp_sRet, wp_sRetN, wp_sAsg, wp_sExpr, wp_sNext, wp_sFor, wp_sPar, par2_ok, wp_tOf, wp_tOr, wp_tAnd, wp_tNot, wp_tYes, wp_eBin, wp_eVar0, wp_eVars, wp_eK, wp_eUn, wp_eArgs, wp_aCons, wp_aNil, wp_eAnd, wp_eOr, wp_eNot, wp_eIf, wp_eChain, wp_eSl, wp_eM, wp_oSome, wp_oNone, wp_eFrz, wp_eLc, wp_iL, wp_iT, wp_iS, wp_iR1, gwp_N, gwp_nil, gwp_cons, gwp_T, gwp_sub, List.set_cons_zero, List.set_cons_succ, Bool.not_true, Bool.not_false, Bool.false_eq_true, if_true, if_false, cmp_ii, neg_i, add_ii, sub_ii, decide_eq_true_eq, Nat.reduceLeDiff, Nat.reduceEqDiff, D.bl.injEq, D.int.injEq, D.str.injEq, D.tup.injEq, D.lst.injEq, exists_eq_left', exists_eq_left, true_and, and_true, Option.some.injEq, List.cons.injEq, eq_self, reduceCtorEq, or_false, false_or, false_and, and_false, and_self, mkL_ok, mkT_ok, mkC_ok, le_size, wipeD, len_lst, len_ro, len_tup, Den.len_str, okL_ok, tyChk_str, Den.sl_tup, list_tup, max_ii, min_ii, abs_i, pow_ii (i := 10) (j := 18) (by decide), mod_ii (show (0 : Int) < 2147483563 by decide), mul_ii m1, wp_outD_keep]
    exact fin 0 (by omega)
theorem law_true (ns : List Int) : denlaw [.ro (ns.map D.int)] [] = .ok (.bl true) [] := by
  refine Res.eq_of_wp ?_
  unfold denlaw
  try simp only [Den.envOf, List.map_cons, List.map_nil, List.length_cons, List.length_nil, List.replicate, List.cons_append, List.nil_append, List.append_nil, Nat.reduceAdd, Nat.reduceSub, Nat.zero_add, Nat.add_zero, wp_sSeq, wp_fnD, wp_ok, wp_next, wp_ret, wp_ite, wp_ites, outP_ret, wp_sIf, wp_sRet, wp_sRetN, wp_sAsg, wp_sExpr, wp_sNext, wp_sFor, wp_sPar, par2_ok, wp_tOf, wp_tOr, wp_tAnd, wp_tNot, wp_tYes, wp_eBin, wp_eVar0, wp_eVars, wp_eK, wp_eUn, wp_eArgs, wp_aCons, wp_aNil, wp_eAnd, wp_eOr, wp_eNot, wp_eIf, wp_eChain, wp_eSl, wp_eM, wp_oSome, wp_oNone, wp_eFrz, wp_eLc, wp_iL, wp_iT, wp_iS, wp_iR1, gwp_N, gwp_nil, gwp_cons, gwp_T, gwp_sub, List.set_cons_zero, List.set_cons_succ, Bool.not_true, Bool.not_false, Bool.false_eq_true, if_true, if_false, cmp_ii, neg_i, add_ii, sub_ii, decide_eq_true_eq, Nat.reduceLeDiff, Nat.reduceEqDiff, D.bl.injEq, D.int.injEq, D.str.injEq, D.tup.injEq, D.lst.injEq, exists_eq_left', exists_eq_left, true_and, and_true, Option.some.injEq, List.cons.injEq, eq_self, reduceCtorEq, or_false, false_or, false_and, and_false, and_self, mkL_ok, mkT_ok, mkC_ok, le_size, wipeD, len_lst, len_ro, len_tup, Den.len_str, okL_ok, tyChk_str, Den.sl_tup, list_tup, max_ii, min_ii, abs_i, List.length_map]
  refine ⟨by split <;> split <;> omega, by split <;> split <;> omega, ?_⟩
  refine wp_for (fun items env st => (∃ o1 o2 o3 o4, env = [some (.ro (ns.map D.int)), o1, o2, o3, o4]) ∧ (∀ d ∈ items, ∃ k : Int, d = .int k ∧ 0 ≤ k ∧ k < 100) ∧ ∀ c ∈ st, ∃ a b, c = pc a b) ?_ ?_ _ _ _ ⟨⟨none, none, none, none, rfl⟩, ?_, by simp⟩
  · rintro d ds env st ⟨⟨o1, o2, o3, o4, rfl⟩, h1, h2⟩
    obtain ⟨k, rfl, k0, k8⟩ := h1 d (List.mem_cons_self ..)
    refine ⟨_, _, rfl, ?_⟩
    try simp only [Den.envOf, List.map_cons, List.map_nil, List.length_cons, List.length_nil, List.replicate, List.cons_append, List.nil_append, List.append_nil, Nat.reduceAdd, Nat.reduceSub, Nat.zero_add, Nat.add_zero, wp_sSeq, wp_fnD, wp_ok, wp_next, wp_ret, wp_ite, wp_ites, outP_ret, wp_sIf, wp_sRet, wp_sRetN, wp_sAsg, wp_sExpr, wp_sNext, wp_sFor, wp_sPar, par2_ok, wp_tOf, wp_tOr, wp_tAnd, wp_tNot, wp_tYes, wp_eBin, wp_eVar0, wp_eVars, wp_eK, wp_eUn, wp_eArgs, wp_aCons, wp_aNil, wp_eAnd, wp_eOr, wp_eNot, wp_eIf, wp_eChain, wp_eSl, wp_eM, wp_oSome, wp_oNone, wp_eFrz, wp_eLc, wp_iL, wp_iT, wp_iS, wp_iR1, gwp_N, gwp_nil, gwp_cons, gwp_T, gwp_sub, List.set_cons_zero, List.set_cons_succ, Bool.not_true, Bool.not_false, Bool.false_eq_true, if_true, if_false, cmp_ii, neg_i, add_ii, sub_ii, decide_eq_true_eq, Nat.reduceLeDiff, Nat.reduceEqDiff, D.bl.injEq, D.int.injEq, D.str.injEq, D.tup.injEq, D.lst.injEq, exists_eq_left', exists_eq_left, true_and, and_true, Option.some.injEq, List.cons.injEq, eq_self, reduceCtorEq, or_false, false_or, false_and, and_false, and_self, mkL_ok, mkT_ok, mkC_ok, le_size, wipeD, len_lst, len_ro, len_tup, Den.len_str, okL_ok, tyChk_str, Den.sl_tup, list_tup, max_ii, min_ii, abs_i]
    refine pot_wp k0 k8 fun a b g => ?_
    try simp only [Den.envOf, List.map_cons, List.map_nil, List.length_cons, List.length_nil, List.replicate, List.cons_append, List.nil_append, List.append_nil, Nat.reduceAdd, Nat.reduceSub, Nat.zero_add, Nat.add_zero, wp_sSeq, wp_fnD, wp_ok, wp_next, wp_ret, wp_ite, wp_ites, outP_ret, wp_sIf, wp_sRet, wp_sRetN, wp_sAsg, wp_sExpr, wp_sNext, wp_sFor, wp_sPar, par2_ok, wp_tOf, wp_tOr, wp_tAnd, wp_tNot, wp_tYes, wp_eBin, wp_eVar0, wp_eVars, wp_eK, wp_eUn, wp_eArgs, wp_aCons, wp_aNil, wp_eAnd, wp_eOr, wp_eNot, wp_eIf, wp_eChain, wp_eSl, wp_eM, wp_oSome, wp_oNone, wp_eFrz, wp_eLc, wp_iL, wp_iT, wp_iS, wp_iR1, gwp_N, gwp_nil, gwp_cons, gwp_T, gwp_sub, List.set_cons_zero, List.set_cons_succ, Bool.not_true, Bool.not_false, Bool.false_eq_true, if_true, if_false, cmp_ii, neg_i, add_ii, sub_ii, decide_eq_true_eq, Nat.reduceLeDiff, Nat.reduceEqDiff, D.bl.injEq, D.int.injEq, D.str.injEq, D.tup.injEq, D.lst.injEq, exists_eq_left', exists_eq_left, true_and, and_true, Option.some.injEq, List.cons.injEq, eq_self, reduceCtorEq, or_false, false_or, false_and, and_false, and_self, mkL_ok, mkT_ok, mkC_ok, le_size, wipeD, len_lst, len_ro, len_tup, Den.len_str, okL_ok, tyChk_str, Den.sl_tup, list_tup, max_ii, min_ii, abs_i]
    have hC : (st ++ [pc 0 0]).all (Cell.lo (st ++ [pc 0 0]).length) = true := by
      refine List.all_eq_true.mpr fun c hc => ?_
      rcases List.mem_append.mp hc with hc | hc
      · obtain ⟨a, b, rfl⟩ := h2 c hc; rfl
      · rw [List.mem_singleton.mp hc]; rfl
    have hp : st.length < (st ++ [pc 0 0]).length := by simp
    have hst : st ++ [pc a b] = (st ++ [pc 0 0]).set st.length (pc a b) := by simp
    rw [hst]
    refine row_wp hp hC g fun ts a b hR g => ?_
    try simp only [Den.envOf, List.map_cons, List.map_nil, List.length_cons, List.length_nil, List.replicate, List.cons_append, List.nil_append, List.append_nil, Nat.reduceAdd, Nat.reduceSub, Nat.zero_add, Nat.add_zero, wp_sSeq, wp_fnD, wp_ok, wp_next, wp_ret, wp_ite, wp_ites, outP_ret, wp_sIf, wp_sRet, wp_sRetN, wp_sAsg, wp_sExpr, wp_sNext, wp_sFor, wp_sPar, par2_ok, wp_tOf, wp_tOr, wp_tAnd, wp_tNot, wp_tYes, wp_eBin, wp_eVar0, wp_eVars, wp_eK, wp_eUn, wp_eArgs, wp_aCons, wp_aNil, wp_eAnd, wp_eOr, wp_eNot, wp_eIf, wp_eChain, wp_eSl, wp_eM, wp_oSome, wp_oNone, wp_eFrz, wp_eLc, wp_iL, wp_iT, wp_iS, wp_iR1, gwp_N, gwp_nil, gwp_cons, gwp_T, gwp_sub, List.set_cons_zero, List.set_cons_succ, Bool.not_true, Bool.not_false, Bool.false_eq_true, if_true, if_false, cmp_ii, neg_i, add_ii, sub_ii, decide_eq_true_eq, Nat.reduceLeDiff, Nat.reduceEqDiff, D.bl.injEq, D.int.injEq, D.str.injEq, D.tup.injEq, D.lst.injEq, exists_eq_left', exists_eq_left, true_and, and_true, Option.some.injEq, List.cons.injEq, eq_self, reduceCtorEq, or_false, false_or, false_and, and_false, and_self, mkL_ok, mkT_ok, mkC_ok, le_size, wipeD, len_lst, len_ro, len_tup, Den.len_str, okL_ok, tyChk_str, Den.sl_tup, list_tup, max_ii, min_ii, abs_i]
    refine wp_for (fun items env s => (∃ ts' : List J3, items = ts'.map jD ∧ ∀ t ∈ ts', JOk t) ∧ (∃ o3 o4, env = [some (.ro (ns.map D.int)), some (.int k), some (.cell st.length), o3, o4]) ∧ ∃ a b, Gd a b ∧ s = (st ++ [pc 0 0]).set st.length (pc a b)) ?_ ?_ _ _ _ ⟨⟨ts, rfl, hR.ok⟩, ⟨_, _, rfl⟩, a, b, g, rfl⟩
    · rintro d ds env s ⟨⟨ts', e, hj⟩, ⟨o3, o4, rfl⟩, a, b, g, rfl⟩
      cases ts' with
      | nil => cases e
      | cons t ts' =>
        simp only [List.map_cons, List.cons.injEq] at e
        obtain ⟨rfl, rfl⟩ := e
        refine ⟨_, _, rfl, ?_⟩
        have hl : ∀ s, listD okL [jD t] s = .ok (.lst [.str t.1, .int t.2.1, .int t.2.2]) s := fun s => rfl
        have ht := hj t (List.mem_cons_self ..)
        try simp only [Den.envOf, List.map_cons, List.map_nil, List.length_cons, List.length_nil, List.replicate, List.cons_append, List.nil_append, List.append_nil, Nat.reduceAdd, Nat.reduceSub, Nat.zero_add, Nat.add_zero, wp_sSeq, wp_fnD, wp_ok, wp_next, wp_ret, wp_ite, wp_ites, outP_ret, wp_sIf, wp_sRet, wp_sRetN, wp_sAsg, wp_sExpr, wp_sNext, wp_sFor, wp_sPar, par2_ok, wp_tOf, wp_tOr, wp_tAnd, wp_tNot, wp_tYes, wp_eBin, wp_eVar0, wp_eVars, wp_eK, wp_eUn, wp_eArgs, wp_aCons, wp_aNil, wp_eAnd, wp_eOr, wp_eNot, wp_eIf, wp_eChain, wp_eSl, wp_eM, wp_oSome, wp_oNone, wp_eFrz, wp_eLc, wp_iL, wp_iT, wp_iS, wp_iR1, gwp_N, gwp_nil, gwp_cons, gwp_T, gwp_sub, List.set_cons_zero, List.set_cons_succ, Bool.not_true, Bool.not_false, Bool.false_eq_true, if_true, if_false, cmp_ii, neg_i, add_ii, sub_ii, decide_eq_true_eq, Nat.reduceLeDiff, Nat.reduceEqDiff, D.bl.injEq, D.int.injEq, D.str.injEq, D.tup.injEq, D.lst.injEq, exists_eq_left', exists_eq_left, true_and, and_true, Option.some.injEq, List.cons.injEq, eq_self, reduceCtorEq, or_false, false_or, false_and, and_false, and_self, mkL_ok, mkT_ok, mkC_ok, le_size, wipeD, len_lst, len_ro, len_tup, Den.len_str, okL_ok, tyChk_str, Den.sl_tup, list_tup, max_ii, min_ii, abs_i, hl]
        refine near_wp hp g ht fun ds a b hf hlen g => ?_
        try simp only [Den.envOf, List.map_cons, List.map_nil, List.length_cons, List.length_nil, List.replicate, List.cons_append, List.nil_append, List.append_nil, Nat.reduceAdd, Nat.reduceSub, Nat.zero_add, Nat.add_zero, wp_sSeq, wp_fnD, wp_ok, wp_next, wp_ret, wp_ite, wp_ites, outP_ret, wp_sIf, wp_sRet, wp_sRetN, wp_sAsg, wp_sExpr, wp_sNext, wp_sFor, wp_sPar, par2_ok, wp_tOf, wp_tOr, wp_tAnd, wp_tNot, wp_tYes, wp_eBin, wp_eVar0, wp_eVars, wp_eK, wp_eUn, wp_eArgs, wp_aCons, wp_aNil, wp_eAnd, wp_eOr, wp_eNot, wp_eIf, wp_eChain, wp_eSl, wp_eM, wp_oSome, wp_oNone, wp_eFrz, wp_eLc, wp_iL, wp_iT, wp_iS, wp_iR1, gwp_N, gwp_nil, gwp_cons, gwp_T, gwp_sub, List.set_cons_zero, List.set_cons_succ, Bool.not_true, Bool.not_false, Bool.false_eq_true, if_true, if_false, cmp_ii, neg_i, add_ii, sub_ii, decide_eq_true_eq, Nat.reduceLeDiff, Nat.reduceEqDiff, D.bl.injEq, D.int.injEq, D.str.injEq, D.tup.injEq, D.lst.injEq, exists_eq_left', exists_eq_left, true_and, and_true, Option.some.injEq, List.cons.injEq, eq_self, reduceCtorEq, or_false, false_or, false_and, and_false, and_self, mkL_ok, mkT_ok, mkC_ok, le_size, wipeD, len_lst, len_ro, len_tup, Den.len_str, okL_ok, tyChk_str, Den.sl_tup, list_tup, max_ii, min_ii, abs_i, add_ll (a := [.str t.1, .int t.2.1, .int t.2.2]) (b := ds) (le_size (by simp; omega))]
        have hall : ∀ d ∈ D.str t.1 :: D.int t.2.1 :: D.int t.2.2 :: ds, fine d = true := by
          intro d hd
          have := ht.2.2.2
          unfold Hp60 at this
          simp only [List.mem_cons] at hd
          rcases hd with rfl | rfl | rfl | hd
          · exact ht.1.sf.fd.fine
          · exact (Fd.int (by have := ht.2.1; have := ht.2.2.1; omega)).fine
          · exact (Fd.int (by omega)).fine
          · exact hf d hd
        have hlen : (D.str t.1 :: D.int t.2.1 :: D.int t.2.2 :: ds).length ≤ 1000 := by simp only [List.length_cons]; omega
        generalize D.str t.1 :: D.int t.2.1 :: D.int t.2.2 :: ds = all at hall hlen
        rw [show all = all.map (fun d => d) by simp]
        refine wp_compOn (fun d => d) (fun _ => true) (fun _ => .bl true) all (le_size hlen) (fun c _ => ?_) (fun c hc _ => ?_) ?_
        · try simp only [Den.envOf, List.map_cons, List.map_nil, List.length_cons, List.length_nil, List.replicate, List.cons_append, List.nil_append, List.append_nil, Nat.reduceAdd, Nat.reduceSub, Nat.zero_add, Nat.add_zero, wp_sSeq, wp_fnD, wp_ok, wp_next, wp_ret, wp_ite, wp_ites, outP_ret, wp_sIf, wp_sRet, wp_sRetN, wp_sAsg, wp_sExpr, wp_sNext, wp_sFor, wp_sPar, par2_ok, wp_tOf, wp_tOr, wp_tAnd, wp_tNot, wp_tYes, wp_eBin, wp_eVar0, wp_eVars, wp_eK, wp_eUn, wp_eArgs, wp_aCons, wp_aNil, wp_eAnd, wp_eOr, wp_eNot, wp_eIf, wp_eChain, wp_eSl, wp_eM, wp_oSome, wp_oNone, wp_eFrz, wp_eLc, wp_iL, wp_iT, wp_iS, wp_iR1, gwp_N, gwp_nil, gwp_cons, gwp_T, gwp_sub, List.set_cons_zero, List.set_cons_succ, Bool.not_true, Bool.not_false, Bool.false_eq_true, if_true, if_false, cmp_ii, neg_i, add_ii, sub_ii, decide_eq_true_eq, Nat.reduceLeDiff, Nat.reduceEqDiff, D.bl.injEq, D.int.injEq, D.str.injEq, D.tup.injEq, D.lst.injEq, exists_eq_left', exists_eq_left, true_and, and_true, Option.some.injEq, List.cons.injEq, eq_self, reduceCtorEq, or_false, false_or, false_and, and_false, and_self, mkL_ok, mkT_ok, mkC_ok, le_size, wipeD, len_lst, len_ro, len_tup, Den.len_str, okL_ok, tyChk_str, Den.sl_tup, list_tup, max_ii, min_ii, abs_i]
        · try simp only [Den.envOf, List.map_cons, List.map_nil, List.length_cons, List.length_nil, List.replicate, List.cons_append, List.nil_append, List.append_nil, Nat.reduceAdd, Nat.reduceSub, Nat.zero_add, Nat.add_zero, wp_sSeq, wp_fnD, wp_ok, wp_next, wp_ret, wp_ite, wp_ites, outP_ret, wp_sIf, wp_sRet, wp_sRetN, wp_sAsg, wp_sExpr, wp_sNext, wp_sFor, wp_sPar, par2_ok, wp_tOf, wp_tOr, wp_tAnd, wp_tNot, wp_tYes, wp_eBin, wp_eVar0, wp_eVars, wp_eK, wp_eUn, wp_eArgs, wp_aCons, wp_aNil, wp_eAnd, wp_eOr, wp_eNot, wp_eIf, wp_eChain, wp_eSl, wp_eM, wp_oSome, wp_oNone, wp_eFrz, wp_eLc, wp_iL, wp_iT, wp_iS, wp_iR1, gwp_N, gwp_nil, gwp_cons, gwp_T, gwp_sub, List.set_cons_zero, List.set_cons_succ, Bool.not_true, Bool.not_false, Bool.false_eq_true, if_true, if_false, cmp_ii, neg_i, add_ii, sub_ii, decide_eq_true_eq, Nat.reduceLeDiff, Nat.reduceEqDiff, D.bl.injEq, D.int.injEq, D.str.injEq, D.tup.injEq, D.lst.injEq, exists_eq_left', exists_eq_left, true_and, and_true, Option.some.injEq, List.cons.injEq, eq_self, reduceCtorEq, or_false, false_or, false_and, and_false, and_self, mkL_ok, mkT_ok, mkC_ok, le_size, wipeD, len_lst, len_ro, len_tup, Den.len_str, okL_ok, tyChk_str, Den.sl_tup, list_tup, max_ii, min_ii, abs_i, told_eq (hall c hc)]
        rw [filter_yes]
        have hA : ∀ s, allD (fun bs => bs.all id) [.lst (all.map fun _ => D.bl true)] s = .ok (.bl true) s := fun s => by
          rw [all_bools (f := fun _ => true)]; simp
        try simp only [Den.envOf, List.map_cons, List.map_nil, List.length_cons, List.length_nil, List.replicate, List.cons_append, List.nil_append, List.append_nil, Nat.reduceAdd, Nat.reduceSub, Nat.zero_add, Nat.add_zero, wp_sSeq, wp_fnD, wp_ok, wp_next, wp_ret, wp_ite, wp_ites, outP_ret, wp_sIf, wp_sRet, wp_sRetN, wp_sAsg, wp_sExpr, wp_sNext, wp_sFor, wp_sPar, par2_ok, wp_tOf, wp_tOr, wp_tAnd, wp_tNot, wp_tYes, wp_eBin, wp_eVar0, wp_eVars, wp_eK, wp_eUn, wp_eArgs, wp_aCons, wp_aNil, wp_eAnd, wp_eOr, wp_eNot, wp_eIf, wp_eChain, wp_eSl, wp_eM, wp_oSome, wp_oNone, wp_eFrz, wp_eLc, wp_iL, wp_iT, wp_iS, wp_iR1, gwp_N, gwp_nil, gwp_cons, gwp_T, gwp_sub, List.set_cons_zero, List.set_cons_succ, Bool.not_true, Bool.not_false, Bool.false_eq_true, if_true, if_false, cmp_ii, neg_i, add_ii, sub_ii, decide_eq_true_eq, Nat.reduceLeDiff, Nat.reduceEqDiff, D.bl.injEq, D.int.injEq, D.str.injEq, D.tup.injEq, D.lst.injEq, exists_eq_left', exists_eq_left, true_and, and_true, Option.some.injEq, List.cons.injEq, eq_self, reduceCtorEq, or_false, false_or, false_and, and_false, and_self, mkL_ok, mkT_ok, mkC_ok, le_size, wipeD, len_lst, len_ro, len_tup, Den.len_str, okL_ok, tyChk_str, Den.sl_tup, list_tup, max_ii, min_ii, abs_i, hA]
        exact ⟨⟨ts', rfl, fun t ht => hj t (List.mem_cons_of_mem _ ht)⟩, ⟨_, _, rfl, rfl⟩, a, b, g, rfl⟩
    · rintro env s ⟨_, ⟨o3, o4, rfl⟩, a, b, g, rfl⟩
      refine ⟨⟨_, _, _, _, rfl⟩, fun d hd => h1 d (List.mem_cons_of_mem _ hd), fun c hc => ?_⟩
      rcases List.mem_or_eq_of_mem_set hc with hc | rfl
      · rcases List.mem_append.mp hc with hc | hc
        · exact h2 c hc
        · exact ⟨0, 0, List.mem_singleton.mp hc⟩
      · exact ⟨a, b, rfl⟩
  · rintro env st ⟨⟨o1, o2, o3, o4, rfl⟩, _, h2⟩
    try simp only [Den.envOf, List.map_cons, List.map_nil, List.length_cons, List.length_nil, List.replicate, List.cons_append, List.nil_append, List.append_nil, Nat.reduceAdd, Nat.reduceSub, Nat.zero_add, Nat.add_zero, wp_sSeq, wp_fnD, wp_ok, wp_next, wp_ret, wp_ite, wp_ites, outP_ret, wp_sIf, wp_sRet, wp_sRetN, wp_sAsg, wp_sExpr, wp_sNext, wp_sFor, wp_sPar, par2_ok, wp_tOf, wp_tOr, wp_tAnd, wp_tNot, wp_tYes, wp_eBin, wp_eVar0, wp_eVars, wp_eK, wp_eUn, wp_eArgs, wp_aCons, wp_aNil, wp_eAnd, wp_eOr, wp_eNot, wp_eIf, wp_eChain, wp_eSl, wp_eM, wp_oSome, wp_oNone, wp_eFrz, wp_eLc, wp_iL, wp_iT, wp_iS, wp_iR1, gwp_N, gwp_nil, gwp_cons, gwp_T, gwp_sub, List.set_cons_zero, List.set_cons_succ, Bool.not_true, Bool.not_false, Bool.false_eq_true, if_true, if_false, cmp_ii, neg_i, add_ii, sub_ii, decide_eq_true_eq, Nat.reduceLeDiff, Nat.reduceEqDiff, D.bl.injEq, D.int.injEq, D.str.injEq, D.tup.injEq, D.lst.injEq, exists_eq_left', exists_eq_left, true_and, and_true, Option.some.injEq, List.cons.injEq, eq_self, reduceCtorEq, or_false, false_or, false_and, and_false, and_self, mkL_ok, mkT_ok, mkC_ok, le_size, wipeD, len_lst, len_ro, len_tup, Den.len_str, okL_ok, tyChk_str, Den.sl_tup, list_tup, max_ii, min_ii, abs_i, reprD_fine (show fine (.int 1000000) = true by decide +kernel), eq_ss]
    refine outD_cut (by simp) (by simp) rfl rfl ⟨?_, rfl⟩
    exact congrArg D.bl (show ((pyD (.int 1000000)).shown == "1000000") = true by decide +kernel)
  · intro d hd
    obtain ⟨i, hi, rfl⟩ := List.mem_map.mp hd
    have := List.mem_range.mp hi
    refine ⟨_, rfl, by omega, ?_⟩
    split at this <;> split at this <;> omega
end K11

open PySem PySem.W PyProof.Rows
set_option maxHeartbeats 0 in
theorem PySem.Challenge.cw_pourround_k11_names_bases_grains_holds : PySem.Challenge.rw_pourround_k11_names_bases_grains.Holds := by
  w_on; o_law; k_head; (case hw => w_witness2)
  k_fill
  refine Den.walkG (l := PySem.Challenge.rw_pourround_k11_names_bases_grains) (n := 63) (k := 5) (x := "_law_script") (g := K11.denlaw) rfl (by decide) rfl ⟨rfl, by decide, by decide⟩ (fun w h Y => PySem.W.kIn_of Y) ?F (fun ns _ _ => K11.law_true ns)
  case F =>
    intro w mg fa h KX Gn hmg
    refine' K11.all_mk KX Gn hmg ?a0 ?l0 ?c0 ?k0 ?a1 ?l1 ?c1 ?k1 ?a2 ?l2 ?c2 ?k2 ?a3 ?l3 ?c3 ?k3 ?a4 ?l4 ?c4 ?k4 ?a5 ?l5 ?c5 ?k5 ?a6 ?l6 ?c6 ?k6 ?a7 ?l7 ?c7 ?k7 ?a8 ?l8 ?c8 ?k8 ?a9 ?l9 ?c9 ?k9 ?a10 ?l10 ?c10 ?k10 ?a11 ?l11 ?c11 ?k11 ?a12 ?l12 ?c12 ?k12 ?a13 ?l13 ?c13 ?k13 ?a14 ?l14 ?c14 ?k14 ?a15 ?l15 ?c15 ?k15 ?a16 ?l16 ?c16 ?k16 ?a17 ?l17 ?c17 ?k17 ?a18 ?l18 ?c18 ?k18 ?a19 ?l19 ?c19 ?k19 ?z0 ?z1 ?z2 ?z3 ?z4 ?z5 ?z6 ?z7 ?z8 ?z9 ?z10 ?z11 ?z12 ?z13 ?x0 ?x1 ?x2 ?x3
    (case a0 => k_is)
    (case l0 => k_is)
    (case c0 => k_is)
    (case k0 => k_is)
    (case a1 => k_is)
    (case l1 => k_is)
    (case c1 => k_is)
    (case k1 => k_is)
    (case a2 => k_is)
    (case l2 => k_is)
    (case c2 => k_is)
    (case k2 => k_is)
    (case a3 => k_is)
    (case l3 => k_is)
    (case c3 => k_is)
    (case k3 => k_is)
    (case a4 => k_is)
    (case l4 => k_is)
    (case c4 => k_is)
    (case k4 => k_is)
    (case a5 => k_is)
    (case l5 => k_is)
    (case c5 => k_is)
    (case k5 => k_is)
    (case a6 => k_is)
    (case l6 => k_is)
    (case c6 => k_is)
    (case k6 => k_is)
    (case a7 => k_is)
    (case l7 => k_is)
    (case c7 => k_is)
    (case k7 => k_is)
    (case a8 => k_is)
    (case l8 => k_is)
    (case c8 => k_is)
    (case k8 => k_is)
    (case a9 => k_is)
    (case l9 => k_is)
    (case c9 => k_is)
    (case k9 => k_is)
    (case a10 => k_is)
    (case l10 => k_is)
    (case c10 => k_is)
    (case k10 => k_is)
    (case a11 => k_is)
    (case l11 => k_is)
    (case c11 => k_is)
    (case k11 => k_is)
    (case a12 => k_is)
    (case l12 => k_is)
    (case c12 => k_is)
    (case k12 => k_is)
    (case a13 => k_is)
    (case l13 => k_is)
    (case c13 => k_is)
    (case k13 => k_is)
    (case a14 => k_is)
    (case l14 => k_is)
    (case c14 => k_is)
    (case k14 => k_is)
    (case a15 => k_is)
    (case l15 => k_is)
    (case c15 => k_is)
    (case k15 => k_is)
    (case a16 => k_is)
    (case l16 => k_is)
    (case c16 => k_is)
    (case k16 => k_is)
    (case a17 => k_is)
    (case l17 => k_is)
    (case c17 => k_is)
    (case k17 => k_is)
    (case a18 => k_is)
    (case l18 => k_is)
    (case c18 => k_is)
    (case k18 => k_is)
    (case a19 => k_is)
    (case l19 => k_is)
    (case c19 => k_is)
    (case k19 => k_is)
    (case z0 => k_is)
    (case z1 => k_is)
    (case z2 => k_is)
    (case z3 => k_is)
    (case z4 => k_is)
    (case z5 => k_is)
    (case z6 => k_is)
    (case z7 => k_is)
    (case z8 => k_is)
    (case z9 => k_is)
    (case z10 => k_is)
    (case z11 => k_is)
    (case z12 => k_is)
    (case z13 => k_is)
    (case x0 => k_is)
    (case x1 => k_is)
    (case x2 => k_is)
    (case x3 => k_is)

