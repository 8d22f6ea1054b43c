import PyProof.Rows.All
import Wide.All
import OpenK.AllK
import Wide.FinOn
import HandS.ForMost
import HandS.WordsExc
import HandS.Lambda
import HandS.AnyAll
import HandS.TupAny
import HandS.TupMul
import HandS.IsInst
import HandS.Deep
import HandS.Conv
import HandS.CallSlots
import HandS.Text
import HandS.Style
import HandS.Iter
import HandS.Zip
import KE.GoesEnum
import HandS.SortKw
import KE.SortKeyHeap
import HandS.GenCall
import PyProof.GenQ
import HandS.GenOver
import HandS.ExcInit
import HandS.ExcField
import HandS.Small
import HandS.TryMany
import KE.KStateDown
import HandS.Defaults
import HandS.Head0
import HandS.Head1
import HandS.Head2
import HandS.HeadEnd
import HandS.HeadHook1
import HandS.HeadHook2
import HandS.HeadHook3
import HandS.HeadHook4
import HandS.HeadWalk
import PySem.Challenge.RW_lostlines_k60_whole_texts
set_option Elab.async false
set_option linter.all false
set_option maxRecDepth 100000
-- part DCore
set_option maxHeartbeats 2000000
/-! DCore: data D that stand in the abstract heap; the lifts of plain functions to readings. -/
namespace L2.DL
open PySem PySem.Spec PyProof.Rows

inductive D where
  | non
  | bl (b : Bool)
  | int (i : Int)
  | str (x : List Nat)
  | tup (xs : List D)
  | lst (xs : List D)
  | scr (ns : List Int)
  | mu (n : Nat)
inductive Cell where
  | lst (xs : List D)
  | dct (kvs : List (List Nat × D))
abbrev Sto := List Cell
abbrev DEnv := List (Option D)
/-- the addresses of the store's cells; those that no datum names (a list that is being made) -/
structure Mem where
  c : List Addr
  z : List Addr
instance : Membership Addr Mem := ⟨fun M a => a ∈ M.c ∨ a ∈ M.z⟩
theorem mem_mem {M : Mem} {a : Addr} : a ∈ M ↔ a ∈ M.c ∨ a ∈ M.z := Iff.rfl
abbrev mkS (x : List Nat) : Str := ⟨x.toArray⟩

/-- a list of the written part -/
def KSq (K : PySem.W.Frag) (a : Addr) (xs : List V) : Prop :=
  ∃ (o : Obj) (its : Array Value) (n : Nat), K.lookup a = some o ∧ o.cls = .type "list" ∧ o.dict = none ∧ o.data = .seq its n ∧ its.size ≤ sizeLine ∧ Vals xs its.toList
mutual
/-- the value v stands for the datum -/
def Rep (K : PySem.W.Frag) (M : Mem) (H : Hp) : D → V → Prop
  | .non, v => v = .non
  | .bl b, v => v = .bl b
  | .int i, v => v = .int i
  | .str x, v => v = .str (mkS x)
  | .tup ds, v => ∃ a xs, v = .ref a ∧ a ∉ M ∧ H a = some (.tup xs) ∧ RepL K M H ds xs
  | .lst ds, v => ∃ a xs, v = .ref a ∧ a ∉ M ∧ H a = some (.lst xs) ∧ RepL K M H ds xs
  | .scr ns, v => ∃ a, v = .ref a ∧ ((a ∉ M ∧ Rd H a (.lst (ns.map V.int))) ∨ KSq K a (ns.map V.int))
  | .mu n, v => ∃ a, v = .ref a ∧ M.c[n]? = some a
def RepL (K : PySem.W.Frag) (M : Mem) (H : Hp) : List D → List V → Prop
  | [], xs => xs = []
  | d :: ds, xs => ∃ x r, xs = x :: r ∧ Rep K M H d x ∧ RepL K M H ds r
end

section
variable {K : PySem.W.Frag} {M : Mem} {H : Hp}
theorem RepL.nil : RepL K M H [] [] := by simp [RepL]
theorem RepL.cons {d : D} {x : V} {ds : List D} {xs : List V} (h : Rep K M H d x) (t : RepL K M H ds xs) : RepL K M H (d :: ds) (x :: xs) := by
  simp only [RepL]; exact ⟨x, xs, rfl, h, t⟩
theorem RepL.nil_inv {xs : List V} (h : RepL K M H [] xs) : xs = [] := by simpa [RepL] using h
theorem RepL.cons_inv {d : D} {ds : List D} {xs : List V} (h : RepL K M H (d :: ds) xs) : ∃ x r, xs = x :: r ∧ Rep K M H d x ∧ RepL K M H ds r := by
  simpa only [RepL] using h
theorem RepL.length : ∀ {ds : List D} {xs : List V}, RepL K M H ds xs → ds.length = xs.length
  | [], xs, h => by rw [h.nil_inv]; rfl
  | d :: ds, xs, h => by
    obtain ⟨x, r, rfl, _, t⟩ := h.cons_inv
    rw [List.length_cons, List.length_cons, t.length]
theorem RepL.get : ∀ {ds : List D} {xs : List V} {i : Nat} {d : D}, RepL K M H ds xs → ds[i]? = some d → ∃ x, xs[i]? = some x ∧ Rep K M H d x
  | [], _, _, _, _, e => by simp at e
  | d :: ds, xs, i, d', h, e => by
    obtain ⟨x, r, rfl, hx, t⟩ := h.cons_inv
    cases i with
    | zero => simp at e; subst e; exact ⟨x, rfl, hx⟩
    | succ i => simp at e; obtain ⟨y, h1, h2⟩ := t.get e; exact ⟨y, by simpa using h1, h2⟩
theorem RepL.get' {ds : List D} {xs : List V} {i : Nat} {x : V} (h : RepL K M H ds xs) (e : xs[i]? = some x) : ∃ d, ds[i]? = some d ∧ Rep K M H d x := by
  have hl := h.length
  have hi : i < ds.length := by rw [hl]; exact (List.getElem?_eq_some_iff.mp e).1
  obtain ⟨y, h1, h2⟩ := h.get (List.getElem?_eq_getElem hi)
  rw [e] at h1; cases h1
  exact ⟨_, List.getElem?_eq_getElem hi, h2⟩
theorem RepL.append : ∀ {ds es : List D} {xs ys : List V}, RepL K M H ds xs → RepL K M H es ys → RepL K M H (ds ++ es) (xs ++ ys)
  | [], _, _, _, h, t => by rw [h.nil_inv]; exact t
  | d :: ds, es, xs, ys, h, t => by
    obtain ⟨x, r, rfl, hx, h'⟩ := h.cons_inv
    exact .cons hx (h'.append t)
theorem RepL.snoc {ds : List D} {d : D} {xs : List V} {x : V} (h : RepL K M H ds xs) (hx : Rep K M H d x) : RepL K M H (ds ++ [d]) (xs ++ [x]) := h.append (.cons hx .nil)
theorem RepL.drop : ∀ {ds : List D} {xs : List V} (n : Nat), RepL K M H ds xs → RepL K M H (ds.drop n) (xs.drop n)
  | _, _, 0, h => h
  | [], _, n + 1, h => by rw [h.nil_inv]; exact .nil
  | d :: ds, xs, n + 1, h => by
    obtain ⟨x, r, rfl, hx, h'⟩ := h.cons_inv
    exact h'.drop n
theorem RepL.take : ∀ {ds : List D} {xs : List V} (n : Nat), RepL K M H ds xs → RepL K M H (ds.take n) (xs.take n)
  | _, _, 0, h => .nil
  | [], _, n + 1, h => by rw [h.nil_inv]; exact .nil
  | d :: ds, xs, n + 1, h => by
    obtain ⟨x, r, rfl, hx, h'⟩ := h.cons_inv
    exact .cons hx (h'.take n)
theorem RepL.set : ∀ {ds : List D} {xs : List V} (n : Nat) {d : D} {x : V}, RepL K M H ds xs → Rep K M H d x → RepL K M H (ds.set n d) (xs.set n x)
  | [], _, n, _, _, h, _ => by rw [h.nil_inv]; exact .nil
  | d :: ds, xs, 0, _, _, h, hx => by
    obtain ⟨x, r, rfl, _, h'⟩ := h.cons_inv
    exact .cons hx h'
  | d :: ds, xs, n + 1, _, _, h, hx => by
    obtain ⟨x, r, rfl, hy, h'⟩ := h.cons_inv
    exact .cons hy (h'.set n hx)
theorem RepL.isEmpty {ds : List D} {xs : List V} (h : RepL K M H ds xs) : xs.isEmpty = ds.isEmpty := by
  cases ds with
  | nil => rw [h.nil_inv]; rfl
  | cons d ds => obtain ⟨x, r, rfl, _⟩ := h.cons_inv; rfl
theorem RepL.replicate {d : D} {x : V} (h : Rep K M H d x) : ∀ n, RepL K M H (List.replicate n d) (List.replicate n x)
  | 0 => .nil
  | n + 1 => .cons h (RepL.replicate h n)
theorem RepL.ints : ∀ {ns : List Int}, RepL K M H (ns.map D.int) (ns.map V.int)
  | [] => .nil
  | n :: ns => .cons (by simp [Rep]) RepL.ints
theorem RepL.ints_inv : ∀ {ns : List Int} {xs : List V}, RepL K M H (ns.map D.int) xs → xs = ns.map V.int
  | [], xs, h => h.nil_inv
  | n :: ns, xs, h => by
    obtain ⟨x, r, rfl, hx, t⟩ := h.cons_inv
    have hx' : x = .int n := by simpa [Rep] using hx
    rw [hx', RepL.ints_inv t]; rfl
theorem RepL.strs : ∀ {ns : List (List Nat)}, RepL K M H (ns.map D.str) ((ns.map mkS).map V.str)
  | [] => .nil
  | n :: ns => .cons (by simp [Rep]) RepL.strs
theorem RepL.strs_inv : ∀ {ns : List (List Nat)} {xs : List V}, RepL K M H (ns.map D.str) xs → xs = (ns.map mkS).map V.str
  | [], xs, h => h.nil_inv
  | n :: ns, xs, h => by
    obtain ⟨x, r, rfl, hx, t⟩ := h.cons_inv
    have hx' : x = .str (mkS n) := by simpa [Rep] using hx
    rw [hx', RepL.strs_inv t]; rfl
end

/-! ### growth -/
structure Gr (M : Mem) (H : Hp) (M' : Mem) (H' : Hp) : Prop where
  ext : ∃ N, M'.c = M.c ++ N
  zz : M'.z = M.z
  new : ∀ a, a ∈ M' → a ∈ M ∨ ∀ o, H a = some o → ∃ ps, o = .tbl ps
  keep : ∀ b o, H b = some o → b ∉ M → (∀ ps, o ≠ .tbl ps) → H' b = some o
  hid : ∀ b ∈ M.z, ∀ o, H b = some o → H' b = some o
section
variable {M M1 M2 : Mem} {H H1 H2 : Hp} {K : PySem.W.Frag}
theorem Gr.refl : Gr M H M H := ⟨⟨[], by simp⟩, rfl, fun _ h => .inl h, fun _ _ h _ _ => h, fun _ _ _ h => h⟩
theorem Gr.same (s : Same H H1) : Gr M H M H1 := ⟨⟨[], by simp⟩, rfl, fun _ h => .inl h, fun b o h _ _ => s b o h, fun b _ o h => s b o h⟩
theorem Gr.trans (a : Gr M H M1 H1) (b : Gr M1 H1 M2 H2) : Gr M H M2 H2 where
  ext := by
    obtain ⟨N, e⟩ := a.ext
    obtain ⟨N', e'⟩ := b.ext
    exact ⟨N ++ N', by rw [e', e, List.append_assoc]⟩
  zz := b.zz.trans a.zz
  new := fun c hc => by
    rcases b.new c hc with h | h
    · exact a.new c h
    · by_cases hM : c ∈ M
      · exact .inl hM
      · exact .inr fun o q => Classical.byContradiction fun n => n (h o (a.keep c o q hM fun ps z => n ⟨ps, z⟩))
  keep := fun c o h hn ht => by
    refine b.keep c o (a.keep c o h hn ht) (fun hc => ?_) ht
    rcases a.new c hc with z | z
    · exact hn z
    · obtain ⟨ps, e⟩ := z o h
      exact ht ps e
  hid := fun c hc o h => b.hid c (by rw [a.zz]; exact hc) o (a.hid c hc o h)
theorem Gr.notin (g : Gr M H M1 H1) {a : Addr} {o : HO} (h : H a = some o) (hn : a ∉ M) (ht : ∀ ps, o ≠ .tbl ps) : a ∉ M1 := fun hc => by
  rcases g.new a hc with z | z
  · exact hn z
  · obtain ⟨ps, e⟩ := z o h
    exact ht ps e
mutual
theorem Rep.mono (g : Gr M H M1 H1) : ∀ {d : D} {v : V}, Rep K M H d v → Rep K M1 H1 d v
  | .non, v, h => by simpa [Rep] using h
  | .bl b, v, h => by simpa [Rep] using h
  | .int b, v, h => by simpa [Rep] using h
  | .str b, v, h => by simpa [Rep] using h
  | .tup ds, v, h => by
    simp only [Rep] at h ⊢
    obtain ⟨a, xs, e, hn, h1, h2⟩ := h
    exact ⟨a, xs, e, g.notin h1 hn (fun _ z => by cases z), g.keep a _ h1 hn (fun _ z => by cases z), RepL.mono g h2⟩
  | .lst ds, v, h => by
    simp only [Rep] at h ⊢
    obtain ⟨a, xs, e, hn, h1, h2⟩ := h
    exact ⟨a, xs, e, g.notin h1 hn (fun _ z => by cases z), g.keep a _ h1 hn (fun _ z => by cases z), RepL.mono g h2⟩
  | .scr ns, v, h => by
    simp only [Rep] at h ⊢
    obtain ⟨a, e, h1⟩ := h
    refine ⟨a, e, ?_⟩
    rcases h1 with ⟨hn, h1 | ⟨o, h1⟩⟩ | h1
    · exact .inl ⟨g.notin h1 hn (fun _ z => by cases z), .inl (g.keep a _ h1 hn (fun _ z => by cases z))⟩
    · exact .inl ⟨g.notin h1 hn (fun _ z => by cases z), .inr ⟨o, g.keep a _ h1 hn (fun _ z => by cases z)⟩⟩
    · exact .inr h1
  | .mu n, v, h => by
    simp only [Rep] at h ⊢
    obtain ⟨a, e, h1⟩ := h
    obtain ⟨N, eN⟩ := g.ext
    exact ⟨a, e, by rw [eN, List.getElem?_append_left (List.getElem?_eq_some_iff.mp h1).1]; exact h1⟩
theorem RepL.mono (g : Gr M H M1 H1) : ∀ {ds : List D} {xs : List V}, RepL K M H ds xs → RepL K M1 H1 ds xs
  | [], xs, h => by simpa [RepL] using h
  | d :: ds, xs, h => by
    simp only [RepL] at h ⊢
    obtain ⟨x, r, e, h1, h2⟩ := h
    exact ⟨x, r, e, Rep.mono g h1, RepL.mono g h2⟩
end
end

/-! ### the world: the store's cells, the code tables -/
structure Ctx where
  T : List (Addr × Str)
  CB : Addr
  CL : Addr
def TabOk (H : Hp) (p : Addr × Str) : Prop := LamX.TabS H p.1 p.2
theorem TabOk.same {H H1 : Hp} {p : Addr × Str} (s : Same H H1) (h : TabOk H p) : TabOk H1 p := LamX.TabS.ext h s
def RepK (K : PySem.W.Frag) (M : Mem) (H : Hp) : List (List Nat × D) → List (Key × V) → Prop := Paired fun p q => q.1 = .inr (mkS p.1) ∧ Rep K M H p.2 q.2
def CellOk (K : PySem.W.Frag) (M : Mem) (H : Hp) (a : Addr) : Cell → Prop
  | .lst ds => ∃ xs, H a = some (.lst xs) ∧ RepL K M H ds xs
  | .dct kvs => ∃ ps, H a = some (.dK ps) ∧ RepK K M H kvs ps
structure Wd (K : PySem.W.Frag) (C : Ctx) (M : Mem) (H : Hp) (S : Sto) : Prop where
  len : M.c.length = S.length
  nd : M.c.Nodup
  cell : ∀ (n : Nat) (a : Addr) (c : Cell), M.c[n]? = some a → S[n]? = some c → CellOk K M H a c
  tab : ∀ p ∈ C.T, TabOk H p
  zs : ∀ a ∈ M.z, a ∉ M.c ∧ ∃ xs, H a = some (.lst xs)
section
variable {K : PySem.W.Frag} {C : Ctx} {M M1 : Mem} {H H1 : Hp} {S : Sto}
theorem RepK.mono (g : Gr M H M1 H1) {kvs : List (List Nat × D)} {ps : List (Key × V)} (h : RepK K M H kvs ps) : RepK K M1 H1 kvs ps :=
  Paired.mapP h fun _ _ q => ⟨q.1, q.2.mono g⟩
theorem CellOk.same (s : Same H H1) {a : Addr} {c : Cell} (h : CellOk K M H a c) : CellOk K M H1 a c := by
  cases c with
  | lst ds => obtain ⟨xs, h1, h2⟩ := h; exact ⟨xs, s _ _ h1, h2.mono (.same s)⟩
  | dct kvs => obtain ⟨ps, h1, h2⟩ := h; exact ⟨ps, s _ _ h1, h2.mono (.same s)⟩
theorem Wd.same (w : Wd K C M H S) (s : Same H H1) : Wd K C M H1 S :=
  ⟨w.len, w.nd, fun n a c h1 h2 => (w.cell n a c h1 h2).same s, fun p hp => (w.tab p hp).same s, fun a ha => ⟨(w.zs a ha).1, let ⟨o, h⟩ := (w.zs a ha).2; ⟨o, s a _ h⟩⟩⟩
theorem Wd.at (w : Wd K C M H S) {n : Nat} {c : Cell} (h : S[n]? = some c) : ∃ a, M.c[n]? = some a ∧ CellOk K M H a c := by
  have hn : n < M.c.length := by rw [w.len]; exact (List.getElem?_eq_some_iff.mp h).1
  exact ⟨M.c[n], List.getElem?_eq_getElem hn, w.cell n _ c (List.getElem?_eq_getElem hn) h⟩
end

structure EnvOk (K : PySem.W.Frag) (M : Mem) (H : Hp) (env : DEnv) (σ : St) : Prop where
  len : env.length = σ.length
  get : ∀ (i : Nat) (d : D), env[i]? = some (some d) → ∃ v, σ[i]? = some (some v) ∧ Rep K M H d v
section
variable {K : PySem.W.Frag} {C : Ctx} {M M1 : Mem} {H H1 : Hp} {env : DEnv} {σ : St}
theorem EnvOk.mono (e : EnvOk K M H env σ) (g : Gr M H M1 H1) : EnvOk K M1 H1 env σ :=
  ⟨e.len, fun i d h => let ⟨v, h1, h2⟩ := e.get i d h; ⟨v, h1, h2.mono g⟩⟩
theorem EnvOk.set (e : EnvOk K M H env σ) (i : Nat) {d : D} {v : V} (r : Rep K M H d v) : EnvOk K M H (env.set i (some d)) (σ.set i (some v)) := by
  refine ⟨by simp [e.len], fun j d' h => ?_⟩
  by_cases hj : i = j
  · subst hj
    by_cases hi : i < env.length
    · rw [List.getElem?_set_self hi] at h; cases h
      exact ⟨v, by rw [List.getElem?_set_self (by rw [← e.len]; exact hi)], r⟩
    · rw [List.getElem?_eq_none (by simpa using hi)] at h; cases h
  · rw [List.getElem?_set_ne hj] at h
    rw [List.getElem?_set_ne hj]
    exact e.get j d' h
/-- slots forgotten -/
def wipeD (env : DEnv) : List Nat → DEnv
  | [] => env
  | v :: vs => (wipeD env vs).set v none
theorem EnvOk.wipe (e : EnvOk K M H env σ) : ∀ vs : List Nat, EnvOk K M H (wipeD env vs) (L2.wipe σ vs)
  | [] => e
  | v :: vs => by
    have ih := e.wipe vs
    refine ⟨by simp [wipeD, L2.wipe, ih.len], fun j d' h => ?_⟩
    unfold wipeD at h
    unfold L2.wipe
    by_cases hj : v = j
    · subst hj
      by_cases hi : v < (wipeD env vs).length
      · rw [List.getElem?_set_self hi] at h; cases h
      · rw [List.getElem?_eq_none (by simpa using hi)] at h; cases h
    · rw [List.getElem?_set_ne hj] at h
      rw [List.getElem?_set_ne hj]
      exact ih.get j d' h
/-- less known -/
theorem EnvOk.less (e : EnvOk K M H env σ) (i : Nat) : EnvOk K M H (env.set i none) σ := by
  refine ⟨by simp [e.len], fun j d' h => ?_⟩
  by_cases hj : i = j
  · subst hj
    by_cases hi : i < env.length
    · rw [List.getElem?_set_self hi] at h; cases h
    · rw [List.getElem?_eq_none (by simpa using hi)] at h; cases h
  · rw [List.getElem?_set_ne hj] at h
    exact e.get j d' h
end

/-! ### the lifts -/
abbrev EM := DEnv → Sto → Option (D × Sto)
abbrev AM := DEnv → Sto → Option (List D × Sto)
abbrev BM := DEnv → Sto → Option (Bool × Sto)
abbrev PM := DEnv → Sto → Option (Option Int × Sto)
section
variable (K : PySem.W.Frag) (C : Ctx)
def lE (f : EM) : TE := fun σ H Q => ∃ M env S d S', EnvOk K M H env σ ∧ Wd K C M H S ∧ f env S = some (d, S') ∧ ∀ v M' H', Gr M H M' H' → Wd K C M' H' S' → Rep K M' H' d v → Q v H'
def lT (f : BM) : TT := fun σ H Q => ∃ M env S b S', EnvOk K M H env σ ∧ Wd K C M H S ∧ f env S = some (b, S') ∧ ∀ M' H', Gr M H M' H' → Wd K C M' H' S' → Q b H'
def lA (f : AM) : TA := fun σ H Q => ∃ M env S ds S', EnvOk K M H env σ ∧ Wd K C M H S ∧ f env S = some (ds, S') ∧ ∀ vs M' H', Gr M H M' H' → Wd K C M' H' S' → RepL K M' H' ds vs → Q vs H'
def lO (f : PM) : TO := fun σ H Q => ∃ M env S o S', EnvOk K M H env σ ∧ Wd K C M H S ∧ f env S = some (o, S') ∧ ∀ M' H', Gr M H M' H' → Wd K C M' H' S' → Q o H'
end
section
variable {X : Cx} {e : Expr} {es : List Expr}
theorem impE {t t' : TE} (h : PE X e t) (i : ∀ σ H Q, t' σ H Q → t σ H Q) : PE X e t' := ⟨fun pins s σ H Q I hw => h.run pins s σ H Q I (i σ H Q hw)⟩
theorem impT {t t' : TT} (h : PT X e t) (i : ∀ σ H Q, t' σ H Q → t σ H Q) : PT X e t' := ⟨fun pins s σ H Q I hw => h.run pins s σ H Q I (i σ H Q hw)⟩
theorem impW {t t' : TT} (h : PW X e t) (i : ∀ σ H Q, t' σ H Q → t σ H Q) : PW X e t' := ⟨fun wh pins s σ H Q I hw => h.run wh pins s σ H Q I (i σ H Q hw)⟩
theorem impA {t t' : TA} (h : PA X es t) (i : ∀ σ H Q, t' σ H Q → t σ H Q) : PA X es t' := ⟨fun pos pins s σ H Q I hw => h.run pos pins s σ H Q I (i σ H Q hw)⟩
theorem impO {o : Option Expr} {t t' : TO} (h : PO X o t) (i : ∀ σ H Q, t' σ H Q → t σ H Q) : PO X o t' := ⟨fun pins s σ H Q I hw => h.run pins s σ H Q I (i σ H Q hw)⟩
theorem impS {st : Stmt} {t t' : TS} (h : PS X st t) (i : ∀ D σ H, t' D σ H → t D σ H) : PS X st t' := ⟨fun pins s σ H D I hw => h.run pins s σ H D I (i D σ H hw)⟩
theorem impSs {st : List Stmt} {t t' : TS} (h : PSs X st t) (i : ∀ D σ H, t' D σ H → t D σ H) : PSs X st t' := ⟨fun pins s σ H D I hw => h.run pins s σ H D I (i D σ H hw)⟩
end
abbrev DE (X : Cx) (C : Ctx) (e : Expr) (f : EM) : Prop := PE X e (lE X.K C f)
abbrev DT (X : Cx) (C : Ctx) (e : Expr) (f : BM) : Prop := PT X e (lT X.K C f)
abbrev DW (X : Cx) (C : Ctx) (e : Expr) (f : BM) : Prop := PW X e (lT X.K C f)
abbrev DA (X : Cx) (C : Ctx) (es : List Expr) (f : AM) : Prop := PA X es (lA X.K C f)
abbrev DO (X : Cx) (C : Ctx) (e : Option Expr) (f : PM) : Prop := PO X e (lO X.K C f)

/-! ### names, constants -/
def eVar (i : Nat) : EM := fun env S => match env[i]? with
  | some (some d) => some (d, S)
  | _ => none
def eC (d : D) : EM := fun _ S => some (d, S)
section
variable {X : Cx} {C : Ctx}
theorem d_of {e : Expr} {t : TE} {f : EM} (h : PE X e t) (i : ∀ M env S d S' σ H (Q : VK), EnvOk X.K M H env σ → Wd X.K C M H S → f env S = some (d, S') → (∀ v M' H', Gr M H M' H' → Wd X.K C M' H' S' → Rep X.K M' H' d v → Q v H') → t σ H Q) : DE X C e f :=
  impE h fun σ H Q ⟨M, env, S, d, S', hE, hW, hf, q⟩ => i M env S d S' σ H Q hE hW hf q
theorem d_var (i : Nat) {x : Str} {pos : Pos} (hN : X.N[i]? = some x := by rfl) (hv : Vis X.env.scope x := by first | exact Or.inl rfl | exact Or.inr (Or.inl rfl) | exact Or.inr (Or.inr rfl)) (hd : (x == ("__debug__" : Str)) = false := by decide)
    (hcd : (x == ("__classdict__" : Str)) = false := by decide) : DE X C (.Name x pos) (eVar i) := by
  refine d_of (pe_var hN hv hd hcd) fun M env S d S' σ H Q hE hW hf q => ?_
  unfold eVar at hf
  split at hf
  · rename_i d' h
    cases hf
    obtain ⟨v, h1, h2⟩ := hE.get i d h
    exact ⟨v, h1, q v M H .refl hW h2⟩
  · cases hf
theorem d_c {e : Expr} {v : V} {d : D} (h : PE X e (tC v)) (r : ∀ M H, Rep X.K M H d v) : DE X C e (eC d) := by
  refine d_of h fun M env S d S' σ H Q hE hW hf q => ?_
  cases hf
  exact q v M H .refl hW (r M H)
theorem d_int {i j pos} : DE X C (.Constant (.int i) j pos) (eC (.int i)) := d_c pe_int fun _ _ => by simp [Rep]
theorem d_bl {b j pos} : DE X C (.Constant (.bool b) j pos) (eC (.bl b)) := d_c pe_bl fun _ _ => by simp [Rep]
theorem d_non {j pos} : DE X C (.Constant .none j pos) (eC .non) := d_c pe_non fun _ _ => by simp [Rep]
theorem d_str {x j pos} : DE X C (.Constant (.str x) j pos) (eC (.str x.cps.toList)) := d_c pe_str fun _ _ => by simp [Rep, mkS]
theorem d_globI {x : Str} {i : Int} {t : Tok} {pos : Pos} (hg : Gl X x) (hm : X.mg x = some (.int i t)) (hd : (x == ("__debug__" : Str)) = false := by decide) : DE X C (.Name x pos) (eC (.int i)) :=
  d_c (pe_glob (v := .int i) hg hm ⟨t, rfl⟩ hd) fun _ _ => by simp [Rep]
theorem d_globS {x s : Str} {t : Tok} {pos : Pos} (hg : Gl X x) (hm : X.mg x = some (.str s t)) (hd : (x == ("__debug__" : Str)) = false := by decide) : DE X C (.Name x pos) (eC (.str s.cps.toList)) :=
  d_c (pe_glob (v := .str s) hg hm ⟨t, rfl⟩ hd) fun _ _ => by simp [Rep, mkS]
end

/-! ### operations by values -/
/-- the operation r keeps g: what stood stands -/
def ROp (K : PySem.W.Frag) (C : Ctx) (r : R2) (g : Sto → D → D → Option D) : Prop := ∀ M H S dx dy dz x y (Q : VK), Wd K C M H S → Rep K M H dx x → Rep K M H dy y → g S dx dy = some dz →
  (∀ v H', Same H H' → Rep K M H' dz v → Q v H') → r x y H Q
def RUn (K : PySem.W.Frag) (C : Ctx) (r : V → Hp → VK → Prop) (g : Sto → D → Option D) : Prop := ∀ M H S dx dz x (Q : VK), Wd K C M H S → Rep K M H dx x → g S dx = some dz →
  (∀ v H', Same H H' → Rep K M H' dz v → Q v H') → r x H Q
def RCl (K : PySem.W.Frag) (C : Ctx) (r : List V → Hp → VK → Prop) (g : Sto → List D → Option D) : Prop := ∀ M H S ds dz xs (Q : VK), Wd K C M H S → RepL K M H ds xs → g S ds = some dz →
  (∀ v H', Same H H' → Rep K M H' dz v → Q v H') → r xs H Q
def RMt (K : PySem.W.Frag) (C : Ctx) (r : V → List V → Hp → VK → Prop) (g : Sto → D → List D → Option D) : Prop := ∀ M H S d ds dz x xs (Q : VK), Wd K C M H S → Rep K M H d x → RepL K M H ds xs → g S d ds = some dz →
  (∀ v H', Same H H' → Rep K M H' dz v → Q v H') → r x xs H Q
def RSl (K : PySem.W.Frag) (C : Ctx) (r : V → Option Int → Option Int → Hp → VK → Prop) (g : Sto → D → Option Int → Option Int → Option D) : Prop := ∀ M H S d lo hi dz x (Q : VK), Wd K C M H S → Rep K M H d x → g S d lo hi = some dz →
  (∀ v H', Same H H' → Rep K M H' dz v → Q v H') → r x lo hi H Q
def eOp (g : Sto → D → D → Option D) (fa fb : EM) : EM := fun env S => (fa env S).bind fun p => (fb env p.2).bind fun q => (g q.2 p.1 q.1).map fun z => (z, q.2)
def eUn (g : Sto → D → Option D) (fa : EM) : EM := fun env S => (fa env S).bind fun p => (g p.2 p.1).map fun z => (z, p.2)
def eCl (g : Sto → List D → Option D) (fa : AM) : EM := fun env S => (fa env S).bind fun p => (g p.2 p.1).map fun z => (z, p.2)
def eMt (g : Sto → D → List D → Option D) (fo : EM) (fa : AM) : EM := fun env S => (fo env S).bind fun p => (fa env p.2).bind fun q => (g q.2 p.1 q.1).map fun z => (z, q.2)
def aNil : AM := fun _ S => some ([], S)
def aCons (fa : EM) (fr : AM) : AM := fun env S => (fa env S).bind fun p => (fr env p.2).map fun q => (p.1 :: q.1, q.2)
section
variable {X : Cx} {C : Ctx} {a b : Expr} {es : List Expr} {fa fb : EM} {fr : AM} {pos : Pos}
theorem bop_imp {r : R2} {g : Sto → D → D → Option D} (hr : ROp X.K C r g) {σ : St} {H : Hp} {Q : VK} (h : lE X.K C (eOp g fa fb) σ H Q) : tOp r (lE X.K C fa) (lE X.K C fb) σ H Q := by
  obtain ⟨M, env, S, d, S', hE, hW, hf, q⟩ := h
  obtain ⟨p, h1, hf⟩ := Option.bind_eq_some_iff.mp hf
  obtain ⟨p2, h2, hf⟩ := Option.bind_eq_some_iff.mp hf
  obtain ⟨z, h3, hf⟩ := Option.map_eq_some_iff.mp hf
  cases hf
  refine ⟨M, env, S, p.1, p.2, hE, hW, h1, fun v M1 H1 g1 w1 rv => ⟨M1, env, p.2, p2.1, p2.2, hE.mono g1, w1, h2, fun u M2 H2 g2 w2 ru => ?_⟩⟩
  exact hr M2 H2 p2.2 p.1 p2.1 d v u Q w2 (rv.mono g2) ru h3 fun w' H3 s3 rw' => q w' M2 H3 ((g1.trans g2).trans (.same s3)) (w2.same s3) rw'
theorem d_op {op : Operator} {r : R2} {g : Sto → D → D → Option D} (ho : OpR X (binaryOp op) r) (hr : ROp X.K C r g) (ha : DE X C a fa) (hb : DE X C b fb) : DE X C (.BinOp a op b pos) (eOp g fa fb) :=
  impE (pe_op ho ha hb) fun _ _ _ h => bop_imp hr h
theorem d_cmp {op : CmpOp} {r : R2} {g : Sto → D → D → Option D} (ho : OpR X (compareOp op) r) (hr : ROp X.K C r g) (ha : DE X C a fa) (hb : DE X C b fb) (hm : behindInMarks op b = false) : DE X C (.Compare a [op] [b] pos) (eOp g fa fb) :=
  impE (pe_cmpR ho ha hb hm) fun _ _ _ h => bop_imp hr h
theorem d_ix {r : R2} {g : Sto → D → D → Option D} (ho : IxR X r) (hr : ROp X.K C r g) (ha : DE X C a fa) (hb : DE X C b fb) (hs : PlainIx b) : DE X C (.Subscript a b pos) (eOp g fa fb) :=
  impE (pe_ix ho ha hb hs) fun _ _ _ h => bop_imp hr h
/-- a bool as a test -/
def bOf (f : EM) : BM := fun env S => (f env S).bind fun p => match p.1 with
  | .bl b => some (b, p.2)
  | _ => none
theorem bOf_imp {f : EM} {σ : St} {H : Hp} {Q : Bool → Hp → Prop} (h : lT X.K C (bOf f) σ H Q) : lE X.K C f σ H fun x H1 => ∃ c, x = .bl c ∧ Q c H1 := by
  obtain ⟨M, env, S, d, S', hE, hW, hf, q⟩ := h
  obtain ⟨⟨p, S1⟩, h1, hf⟩ := Option.bind_eq_some_iff.mp hf
  cases p <;> cases hf
  exact ⟨M, env, S, _, _, hE, hW, h1, fun v M1 H1 g1 w1 rv => ⟨_, by simpa [Rep] using rv, q M1 H1 g1 w1⟩⟩
theorem t_cmp {op : CmpOp} {r : R2} {g : Sto → D → D → Option D} (ho : OpR X (compareOp op) r) (hr : ROp X.K C r g) (ha : DE X C a fa) (hb : DE X C b fb) (hm : behindInMarks op b = false) : DT X C (.Compare a [op] [b] pos) (bOf (eOp g fa fb)) :=
  impT (pt_cmpR ho ha hb hm) fun σ H Q h => by
    have h' := bOf_imp h
    exact bop_imp hr h'
theorem t_val {e : Expr} {f : EM} (h : DE X C e f) (he : ∀ whole, isTrue e X.env whole = (do let v ← whole; standAt e.pos; holding [v] (truthy v)) := by intro _; rfl) : DT X C e (bOf f) :=
  impT (pt_val h he) fun _ _ _ h => bOf_imp h
/-- argument lists -/
theorem a_nil : DA X C [] aNil := impA pa_nil fun σ H Q h => by
  obtain ⟨M, env, S, d, S', hE, hW, hf, q⟩ := h
  cases hf
  exact q [] M H .refl hW .nil
theorem a_cons (ha : DE X C a fa) (hr : DA X C es fr) (hs : starEach (a :: es) X.env = (false, eval a X.env) :: starEach es X.env := by rfl) : DA X C (a :: es) (aCons fa fr) := impA (pa_cons ha hr hs) fun σ H Q h => by
  obtain ⟨M, env, S, d, S', hE, hW, hf, q⟩ := h
  obtain ⟨p, h1, hf⟩ := Option.bind_eq_some_iff.mp hf
  obtain ⟨p2, h2, hf⟩ := Option.map_eq_some_iff.mp hf
  cases hf
  refine ⟨M, env, S, p.1, p.2, hE, hW, h1, fun v M1 H1 g1 w1 rv => ⟨M1, env, p.2, p2.1, p2.2, hE.mono g1, w1, h2, fun u M2 H2 g2 w2 ru => ?_⟩⟩
  exact q (v :: u) M2 H2 (g1.trans g2) w2 (.cons (rv.mono g2) ru)
end
end L2.DL
-- part DExp
set_option maxHeartbeats 2000000
/-! DExp: tests, chains, operations by values. -/
namespace L2.DL
open PySem PySem.Spec PyProof.Rows

theorem mkS_len (x : List Nat) : (mkS x).length = x.length := by simp [mkS, Str.length]
theorem mkS_inj {x y : List Nat} (h : mkS x = mkS y) : x = y := by simpa [mkS] using congrArg (fun s : Str => s.cps.toList) h
theorem mkS_app (x y : List Nat) : mkS x ++ mkS y = mkS (x ++ y) := TL.ext_tl (by rw [TL.tl_append])
theorem line_eq : sizeLine = 16777216 := sizeLine_eq

section
variable {K : PySem.W.Frag} {C : Ctx} {M : Mem} {H : Hp} {S : Sto}
theorem Wd.notin (w : Wd K C M H S) {p : Addr} (h : H p = none) : p ∉ M := fun hp => by
  rcases hp with hp | hp
  · obtain ⟨n, hn, e⟩ := List.getElem_of_mem hp
    have h1 : M.c[n]? = some p := by rw [List.getElem?_eq_getElem hn, e]
    have h2 : n < S.length := by rw [← w.len]; exact hn
    have c := w.cell n p _ h1 (List.getElem?_eq_getElem h2)
    cases hc : S[n] with
    | lst ds => rw [hc] at c; obtain ⟨xs, q, _⟩ := c; rw [h] at q; cases q
    | dct kvs => rw [hc] at c; obtain ⟨xs, q, _⟩ := c; rw [h] at q; cases q
  · obtain ⟨_, o, q⟩ := w.zs p hp
    rw [h] at q; cases q
theorem same_new {p : Addr} {o : HO} (h : H p = none) : Same H (upd H p o) := fun b x e => by
  rw [upd_ne (ne_of_none e h)]; exact e
/-- a new list, a new tuple -/
theorem Wd.newL (w : Wd K C M H S) {p : Addr} {ds : List D} {xs : List V} (h : H p = none) (r : RepL K M H ds xs) : Rep K M (upd H p (.lst xs)) (.lst ds) (.ref p) := by
  simp only [Rep]
  exact ⟨p, xs, rfl, w.notin h, upd_same, r.mono (.same (same_new h))⟩
theorem Wd.newT (w : Wd K C M H S) {p : Addr} {ds : List D} {xs : List V} (h : H p = none) (r : RepL K M H ds xs) : Rep K M (upd H p (.tup xs)) (.tup ds) (.ref p) := by
  simp only [Rep]
  exact ⟨p, xs, rfl, w.notin h, upd_same, r.mono (.same (same_new h))⟩

/-- a mutable list seen as a list -/
def der (S : Sto) : D → D
  | .mu n => match S[n]? with
    | some (.lst xs) => .lst xs
    | _ => .mu n
  | d => d
theorem der_cases (d : D) : der S d = d ∨ ∃ n xs, d = .mu n ∧ S[n]? = some (.lst xs) ∧ der S d = .lst xs := by
  cases d with
  | mu n =>
    cases h : S[n]? with
    | none => left; simp [der, h]
    | some c =>
      cases c with
      | lst xs => exact .inr ⟨n, xs, rfl, h, by simp [der, h]⟩
      | dct _ => left; simp [der, h]
  | _ => exact .inl rfl
theorem der_ne {d e : D} (h : der S d = e) (he : ∀ xs, e ≠ .lst xs) : d = e := by
  rcases der_cases (S := S) d with h1 | ⟨n, xs, _, _, h1⟩
  · rw [← h, h1]
  · exact absurd (h.symm.trans h1) (he xs)
theorem Wd.seqL (w : Wd K C M H S) {d : D} {x : V} {ds : List D} (r : Rep K M H d x) (h : der S d = .lst ds) : ∃ a xs, x = .ref a ∧ H a = some (.lst xs) ∧ RepL K M H ds xs := by
  rcases der_cases (S := S) d with h1 | ⟨n, xs, rfl, h2, h1⟩
  · rw [h1] at h; subst h
    simp only [Rep] at r
    obtain ⟨a, xs, e, _, h1, h2⟩ := r
    exact ⟨a, xs, e, h1, h2⟩
  · rw [h] at h1; cases h1
    simp only [Rep] at r
    obtain ⟨a, e, ha⟩ := r
    obtain ⟨ys, q1, q2⟩ := w.cell n a _ ha h2
    exact ⟨a, ys, e, q1, q2⟩
theorem rep_int {i : Int} {x : V} (h : Rep K M H (.int i) x) : x = .int i := by simpa [Rep] using h
theorem rep_bl {b : Bool} {x : V} (h : Rep K M H (.bl b) x) : x = .bl b := by simpa [Rep] using h
theorem rep_str {b : List Nat} {x : V} (h : Rep K M H (.str b) x) : x = .str (mkS b) := by simpa [Rep] using h
theorem rep_non {x : V} (h : Rep K M H .non x) : x = .non := by simpa [Rep] using h
theorem rep_tup {ds : List D} {x : V} (h : Rep K M H (.tup ds) x) : ∃ a xs, x = .ref a ∧ H a = some (.tup xs) ∧ RepL K M H ds xs := by
  simp only [Rep] at h
  obtain ⟨a, xs, e, _, h1, h2⟩ := h
  exact ⟨a, xs, e, h1, h2⟩
theorem rep_scr {ns : List Int} {x : V} (h : Rep K M H (.scr ns) x) : ∃ a, x = .ref a ∧ SqL K H a (ns.map V.int) := by
  simp only [Rep] at h
  obtain ⟨a, e, h1⟩ := h
  refine ⟨a, e, ?_⟩
  rcases h1 with ⟨_, h1⟩ | h1
  · exact .inl h1
  · exact .inr h1
theorem repI (i : Int) : Rep K M H (.int i) (.int i) := by simp [Rep]
theorem repB (i : Bool) : Rep K M H (.bl i) (.bl i) := by simp [Rep]
theorem repS (i : List Nat) : Rep K M H (.str i) (.str (mkS i)) := by simp [Rep]
theorem repN : Rep K M H .non .non := by simp [Rep]
end

/-! ### arithmetic -/
def addD (S : Sto) (a b : D) : Option D := match der S a, der S b with
  | .int i, .int j => some (.int (i + j))
  | .str x, .str y => if x.length + y.length ≤ 16777216 then some (.str (x ++ y)) else none
  | .tup x, .tup y => if x.length + y.length ≤ 16777216 then some (.tup (x ++ y)) else none
  | .lst x, .lst y => if x.length + y.length ≤ 16777216 then some (.lst (x ++ y)) else none
  | _, _ => none
def rAddD (K : PySem.W.Frag) : R2 := fun x y H Q => rI0 (fun i j => .int (i + j)) x y H Q ∨ (∃ i j, x = .str i ∧ y = .str j ∧ i.length + j.length ≤ sizeLine ∧ Q (.str (i ++ j)) H) ∨ rCatA K x y H Q ∨ rCat x y H Q
theorem op_addD {X : Cx} : OpR X (binaryOp .Add) (rAddD X.K) := op_add.or (op_add_str.or (op_catA.or op_cat))
theorem r_addD {K : PySem.W.Frag} {C : Ctx} : ROp K C (rAddD K) addD := by
  intro M H S dx dy dz x y Q w rx ry hg q
  unfold addD at hg
  split at hg
  · rename_i i j h1 h2
    cases hg
    have e1 := der_ne h1 (fun _ z => by cases z)
    have e2 := der_ne h2 (fun _ z => by cases z)
    subst e1; subst e2
    exact .inl ⟨i, j, rep_int rx, rep_int ry, q _ H (Same.refl H) (repI _)⟩
  · rename_i i j h1 h2
    have e1 := der_ne h1 (fun _ z => by cases z)
    have e2 := der_ne h2 (fun _ z => by cases z)
    subst e1; subst e2
    split at hg
    · rename_i hl
      cases hg
      refine .inr (.inl ⟨mkS i, mkS j, rep_str rx, rep_str ry, by rw [mkS_len, mkS_len, line_eq]; exact hl, ?_⟩)
      rw [mkS_app]
      exact q _ H (Same.refl H) (repS _)
    · cases hg
  · rename_i i j h1 h2
    have e1 := der_ne h1 (fun _ z => by cases z)
    have e2 := der_ne h2 (fun _ z => by cases z)
    subst e1; subst e2
    split at hg
    · rename_i hl
      cases hg
      simp only [Rep] at rx ry
      obtain ⟨a, xs, rfl, na, ha, ra⟩ := rx
      obtain ⟨b, ys, rfl, nb, hb, rb⟩ := ry
      refine .inr (.inr (.inl ⟨a, b, xs, ys, rfl, rfl, .of ha, .of hb, by rw [← ra.length, ← rb.length, line_eq]; exact hl, fun e => ?_, fun _ e => ?_, fun _ _ p np => ?_⟩))
      · subst e
        have e1 : i = [] := List.eq_nil_of_length_eq_zero ra.length
        subst e1
        exact q _ H (Same.refl H) (by simp only [Rep]; exact ⟨b, ys, rfl, nb, hb, rb⟩)
      · subst e
        have e1 : j = [] := List.eq_nil_of_length_eq_zero rb.length
        subst e1
        rw [List.append_nil] at q
        exact q _ H (Same.refl H) (by simp only [Rep]; exact ⟨a, xs, rfl, na, ha, ra⟩)
      · exact q _ _ (same_new np) (w.newT np (ra.append rb))
    · cases hg
  · rename_i i j h1 h2
    split at hg
    · rename_i hl
      cases hg
      obtain ⟨a, xs, rfl, ha, ra⟩ := w.seqL rx h1
      obtain ⟨b, ys, rfl, hb, rb⟩ := w.seqL ry h2
      exact .inr (.inr (.inr ⟨a, b, xs, ys, rfl, rfl, ha, hb, by rw [← ra.length, ← rb.length, line_eq]; exact hl, fun p np => q _ _ (same_new np) (w.newL np (ra.append rb))⟩))
    · cases hg
  · cases hg

def intOp (C : Int → Int → Bool) (f : Int → Int → D) (_ : Sto) (a b : D) : Option D := match a, b with
  | .int i, .int j => if C i j = true then some (f i j) else none
  | _, _ => none
def vOf : D → V
  | .int i => .int i
  | .bl b => .bl b
  | _ => .non
theorem r_intOp {K : PySem.W.Frag} {C : Ctx} {P : Int → Int → Prop} {c : Int → Int → Bool} {f : Int → Int → V} {g : Int → Int → D} (hp : ∀ i j, c i j = true → P i j) (hf : ∀ K M H i j, Rep K M H (g i j) (f i j)) : ROp K C (rI P f) (intOp c g) := by
  intro M H S dx dy dz x y Q w rx ry hg q
  unfold intOp at hg
  split at hg
  · rename_i i j
    split at hg
    · rename_i hc
      cases hg
      exact ⟨i, j, rep_int rx, rep_int ry, hp i j hc, q _ H (Same.refl H) (hf _ _ _ _ _)⟩
    · cases hg
  · cases hg
theorem r_intOp0 {K : PySem.W.Frag} {C : Ctx} {f : Int → Int → V} {g : Int → Int → D} (hf : ∀ K M H i j, Rep K M H (g i j) (f i j)) : ROp K C (rI0 f) (intOp (fun _ _ => true) g) := by
  intro M H S dx dy dz x y Q w rx ry hg q
  unfold intOp at hg
  split at hg
  · rename_i i j
    rw [if_pos rfl] at hg
    cases hg
    exact ⟨i, j, rep_int rx, rep_int ry, q _ H (Same.refl H) (hf _ _ _ _ _)⟩
  · cases hg
abbrev subD := intOp (fun _ _ => true) fun i j => .int (i - j)
abbrev ltD := intOp (fun _ _ => true) fun i j => .bl (decide (i < j))
abbrev leD := intOp (fun _ _ => true) fun i j => .bl (decide (i ≤ j))
abbrev gtD := intOp (fun _ _ => true) fun i j => .bl (decide (j < i))
abbrev geD := intOp (fun _ _ => true) fun i j => .bl (decide (j ≤ i))
abbrev mulD := intOp (fun i j => decide (-(2 ^ 64) < j) && decide (j < 2 ^ 64)) fun i j => .int (i * j)
abbrev fdivD := intOp (fun i j => decide (j ≠ 0) && decide (j.natAbs < 1073741824)) fun i j => .int (i.fdiv j)
abbrev modD := intOp (fun i j => decide (j ≠ 0)) fun i j => .int (i.fmod j)
abbrev powD := intOp (fun i j => decide (0 ≤ j) && decide (j ≤ 1000000) && decide (i.natAbs < 2 ^ 64)) fun i j => .int (i ^ j.toNat)
section
variable {K : PySem.W.Frag} {C : Ctx}
theorem r_subD : ROp K C (rI0 fun i j => .int (i - j)) subD := r_intOp0 fun _ _ _ _ _ => repI _
theorem r_ltD : ROp K C (rI0 fun i j => .bl (decide (i < j))) ltD := r_intOp0 fun _ _ _ _ _ => repB _
theorem r_leD : ROp K C (rI0 fun i j => .bl (decide (i ≤ j))) leD := r_intOp0 fun _ _ _ _ _ => repB _
theorem r_gtD : ROp K C (rI0 fun i j => .bl (decide (j < i))) gtD := r_intOp0 fun _ _ _ _ _ => repB _
theorem r_geD : ROp K C (rI0 fun i j => .bl (decide (j ≤ i))) geD := r_intOp0 fun _ _ _ _ _ => repB _
theorem r_mulD : ROp K C (rI CMul fun i j => .int (i * j)) mulD := r_intOp (fun i j h => .inr (by simpa using h)) fun _ _ _ _ _ => repI _
theorem r_fdivD : ROp K C (rI CDivN fun i j => .int (i.fdiv j)) fdivD := r_intOp (fun i j h => by simpa [CDivN] using h) fun _ _ _ _ _ => repI _
theorem r_modD : ROp K C (rI (fun _ j => j ≠ 0) fun i j => .int (i.fmod j)) modD := r_intOp (fun i j h => by simpa using h) fun _ _ _ _ _ => repI _
theorem r_powD : ROp K C (rI CPow fun i j => .int (i ^ j.toNat)) powD := r_intOp (fun i j h => by simpa [CPow, and_assoc] using h) fun _ _ _ _ _ => repI _
end

/-! ### data compared -/
mutual
def toP : D → PyData
  | .non => .none
  | .bl b => .bool b
  | .int i => .int i
  | .str x => .str (mkS x)
  | .tup ds => .tuple (toPL ds)
  | .lst ds => .list (toPL ds)
  | .scr _ => .dict []
  | .mu _ => .dict []
def toPL : List D → List PyData
  | [] => []
  | d :: ds => toP d :: toPL ds
end
mutual
theorem toP_dp {K : PySem.W.Frag} {M : Mem} {H : Hp} : ∀ {d : D} {v : V}, Rep K M H d v → (toP d).canLay0 = true → Dp K H v (toP d)
  | .non, v, h, _ => by rw [rep_non h]; exact .non
  | .bl b, v, h, _ => by rw [rep_bl h]; exact .bl b
  | .int i, v, h, _ => by rw [rep_int h]; exact .int i
  | .str x, v, h, _ => by rw [rep_str h]; exact .str _
  | .tup ds, v, h, c => by
    obtain ⟨a, xs, rfl, h1, h2⟩ := rep_tup h
    exact .tup (.of h1) (toPL_dp h2 (by simpa [toP, PyData.canLay0] using c))
  | .lst ds, v, h, c => by
    simp only [Rep] at h
    obtain ⟨a, xs, rfl, _, h1, h2⟩ := h
    exact .lst (.of h1) (toPL_dp h2 (by simpa [toP, PyData.canLay0] using c))
  | .scr _, v, h, c => by simp [toP, PyData.canLay0] at c
  | .mu _, v, h, c => by simp [toP, PyData.canLay0] at c
theorem toPL_dp {K : PySem.W.Frag} {M : Mem} {H : Hp} : ∀ {ds : List D} {vs : List V}, RepL K M H ds vs → PyData.canLayAll0 (toPL ds) = true → DpAll K H vs (toPL ds)
  | [], vs, h, _ => by rw [h.nil_inv]; exact .nil
  | d :: ds, vs, h, c => by
    obtain ⟨x, r, rfl, h1, h2⟩ := h.cons_inv
    have c' : (toP d).canLay0 = true ∧ PyData.canLayAll0 (toPL ds) = true := by simpa [toPL, PyData.canLayAll0] using c
    exact .cons (toP_dp h1 c'.1) (toPL_dp h2 c'.2)
end
/-- == of data: scalars; lists -/
def eqB (S : Sto) (a b : D) : Option Bool := match der S a, der S b with
  | .non, .non => some true
  | .non, .int _ => some false
  | .non, .str _ => some false
  | .int _, .non => some false
  | .str _, .non => some false
  | .int i, .int j => some (i == j)
  | .bl i, .bl j => some (i == j)
  | .str x, .str y => some (x == y)
  | .int _, .str _ => some false
  | .str _, .int _ => some false
  | .lst xs, .lst ys => if SeqAt.shaped (.list (toPL xs)) && SeqAt.shaped (.list (toPL ys)) then some (PyData.eqvAll (toPL xs) (toPL ys)) else none
  | _, _ => none
def eqD (S : Sto) (a b : D) : Option D := (eqB S a b).map .bl
def neD (S : Sto) (a b : D) : Option D := (eqB S a b).map fun k => .bl (!k)
theorem eqB_ok {K : PySem.W.Frag} {C : Ctx} {M : Mem} {H : Hp} {S : Sto} {dx dy : D} {x y : V} {k : Bool} (w : Wd K C M H S) (rx : Rep K M H dx x) (ry : Rep K M H dy y) (h : eqB S dx dy = some k) :
    (scal x y = true ∧ decide (x = y) = k) ∨ (∃ d e, Dp K H x d ∧ Dp K H y e ∧ SeqAt.shaped d = true ∧ SeqAt.shaped e = true ∧ PyData.eqv d e = k) := by
  unfold eqB at h
  split at h
  case h_11 xs ys h1 h2 =>
    split at h
    · rename_i hc
      rw [Bool.and_eq_true] at hc
      cases h
      obtain ⟨a, vs, rfl, ha, ra⟩ := w.seqL rx h1
      obtain ⟨b, us, rfl, hb, rb⟩ := w.seqL ry h2
      have c1 := SeqAt.canLay_of_shaped hc.1
      have c2 := SeqAt.canLay_of_shaped hc.2
      refine .inr ⟨_, _, .lst (.of ha) (toPL_dp ra (by simpa [PyData.canLay0] using c1)), .lst (.of hb) (toPL_dp rb (by simpa [PyData.canLay0] using c2)), hc.1, hc.2, by simp [PyData.eqv]⟩
    · cases h
  all_goals first | (cases h; done) | skip
  all_goals
    rename_i h1 h2
    have e1 := der_ne h1 (fun _ z => by cases z)
    have e2 := der_ne h2 (fun _ z => by cases z)
    subst e1; subst e2
    cases h
    left
    simp only [Rep] at rx ry
    subst rx; subst ry
    refine ⟨rfl, ?_⟩
    first
      | rfl
      | (rw [Bool.eq_iff_iff]; simp [mkS]; done)
def rEqX (K : PySem.W.Frag) : R2 := fun x y H Q => rEq x y H Q ∨ rEqD K x y H Q
def rNeX (K : PySem.W.Frag) : R2 := fun x y H Q => rNe x y H Q ∨ rNeD K x y H Q
theorem op_eqX {X : Cx} (hu : X.A.units + 64 < cLine) : OpR X (compareOp .Eq) (rEqX X.K) := op_eq.or (op_eqD hu)
theorem op_neX {X : Cx} (hu : X.A.units + 64 < cLine) : OpR X (compareOp .NotEq) (rNeX X.K) := op_ne.or (op_neD hu)
theorem r_eqD {K : PySem.W.Frag} {C : Ctx} : ROp K C (rEqX K) eqD := by
  intro M H S dx dy dz x y Q w rx ry hg q
  obtain ⟨k, h, e⟩ := Option.map_eq_some_iff.mp hg
  subst e
  have q' := q _ H (Same.refl H) (repB k)
  rcases eqB_ok w rx ry h with ⟨h1, h2⟩ | ⟨d, e, h1, h2, h3, h4, h5⟩
  · exact .inl ⟨h1, by rw [h2]; exact q'⟩
  · exact .inr ⟨d, e, h1, h2, h3, h4, by rw [h5]; exact q'⟩
theorem r_neD {K : PySem.W.Frag} {C : Ctx} : ROp K C (rNeX K) neD := by
  intro M H S dx dy dz x y Q w rx ry hg q
  obtain ⟨k, h, e⟩ := Option.map_eq_some_iff.mp hg
  subst e
  have q' := q _ H (Same.refl H) (repB !k)
  rcases eqB_ok w rx ry h with ⟨h1, h2⟩ | ⟨d, e, h1, h2, h3, h4, h5⟩
  · exact .inl ⟨h1, by rw [h2]; exact q'⟩
  · exact .inr ⟨d, e, h1, h2, h3, h4, by rw [h5]; exact q'⟩
/-- is None -/
def isNB : D → Bool
  | .non => true
  | _ => false
def isND (_ : Sto) (a b : D) : Option D := if isNB b then some (.bl (isNB a)) else none
def notND (_ : Sto) (a b : D) : Option D := if isNB b then some (.bl (!isNB a)) else none
theorem isNB_ok {K : PySem.W.Frag} {M : Mem} {H : Hp} {d : D} {x : V} (r : Rep K M H d x) : decide (x = .non) = isNB d := by
  cases d with
  | non => rw [rep_non r]; rfl
  | bl b => rw [rep_bl r]; rfl
  | int b => rw [rep_int r]; rfl
  | str b => rw [rep_str r]; rfl
  | _ =>
    simp only [Rep] at r
    obtain ⟨a, r⟩ := r
    first
      | (obtain ⟨xs, rfl, _⟩ := r; rfl)
      | (obtain ⟨rfl, _⟩ := r; rfl)
theorem isNB_non {d : D} (h : isNB d = true) : d = .non := by
  cases d <;> first | rfl | cases h
theorem r_isND {K : PySem.W.Frag} {C : Ctx} : ROp K C (fun x y H Q => y = .non ∧ Q (.bl (decide (x = .non))) H) isND := by
  intro M H S dx dy dz x y Q w rx ry hg q
  unfold isND at hg
  split at hg
  · rename_i hn
    cases hg
    rw [isNB_non hn] at ry
    exact ⟨rep_non ry, by rw [isNB_ok rx]; exact q _ H (Same.refl H) (repB _)⟩
  · cases hg
theorem r_notND {K : PySem.W.Frag} {C : Ctx} : ROp K C (fun x y H Q => y = .non ∧ Q (.bl (!decide (x = .non))) H) notND := by
  intro M H S dx dy dz x y Q w rx ry hg q
  unfold notND at hg
  split at hg
  · rename_i hn
    cases hg
    rw [isNB_non hn] at ry
    exact ⟨rep_non ry, by rw [isNB_ok rx]; exact q _ H (Same.refl H) (repB _)⟩
  · cases hg

/-! ### in -/
def flatD : D → Bool
  | .non => true
  | .int _ => true
  | .str _ => true
  | _ => false
def eqF : D → D → Bool
  | .non, .non => true
  | .int a, .int b => a == b
  | .str a, .str b => a == b
  | _, _ => false
def inB (S : Sto) (a b : D) : Option Bool := match der S b with
  | .str z => (match a with
    | .str [c] => some (decide (c ∈ z))
    | _ => none)
  | .tup xs => if flatD a && xs.all flatD then some (xs.any fun y => eqF y a) else none
  | .lst xs => if flatD a && xs.all flatD then some (xs.any fun y => eqF y a)
      else if SeqAt.shaped (toP a) && SeqAt.shaped (.list (toPL xs)) then some ((toPL xs).any fun z => PyData.eqv z (toP a)) else none
  | _ => none
def inD (S : Sto) (a b : D) : Option D := (inB S a b).map .bl
def ninD (S : Sto) (a b : D) : Option D := (inB S a b).map fun k => .bl (!k)
theorem flat_v {K : PySem.W.Frag} {M : Mem} {H : Hp} {d : D} {x : V} (r : Rep K M H d x) (f : flatD d = true) : flatV x = true := by
  cases d <;> first | (cases f; done) | (simp only [Rep] at r; subst r; rfl)
theorem eqF_v {K : PySem.W.Frag} {M : Mem} {H : Hp} {d e : D} {x y : V} (r : Rep K M H d x) (f : flatD d = true) (r' : Rep K M H e y) (f' : flatD e = true) : eqV x y = eqF d e := by
  cases d <;> first | (cases f; done) | skip
  all_goals cases e <;> first | (cases f'; done) | skip
  all_goals
    simp only [Rep] at r r'
    subst r; subst r'
    first
      | rfl
      | (simp only [eqV, eqF]; rw [Bool.eq_iff_iff]; simp [mkS]; done)
theorem allF_v {K : PySem.W.Frag} {M : Mem} {H : Hp} : ∀ {ds : List D} {xs : List V}, RepL K M H ds xs → ds.all flatD = true → xs.all flatV = true
  | [], xs, h, _ => by rw [h.nil_inv]; rfl
  | d :: ds, xs, h, f => by
    obtain ⟨x, r, rfl, h1, h2⟩ := h.cons_inv
    rw [List.all_cons, Bool.and_eq_true] at f ⊢
    exact ⟨flat_v h1 f.1, allF_v h2 f.2⟩
theorem inF_v {K : PySem.W.Frag} {M : Mem} {H : Hp} {a : D} {x : V} (ra : Rep K M H a x) (fa : flatD a = true) : ∀ {ds : List D} {xs : List V}, RepL K M H ds xs → ds.all flatD = true → inV x xs = ds.any fun y => eqF y a
  | [], xs, h, _ => by rw [h.nil_inv]; rfl
  | d :: ds, xs, h, f => by
    obtain ⟨y, r, rfl, h1, h2⟩ := h.cons_inv
    rw [List.all_cons, Bool.and_eq_true] at f
    show (eqV y x || inV x r) = (eqF d a || ds.any fun y => eqF y a)
    rw [eqF_v h1 f.1 ra fa, inF_v ra fa h2 f.2]
theorem inB_ok {K : PySem.W.Frag} {C : Ctx} {M : Mem} {H : Hp} {S : Sto} {dx dy : D} {x y : V} {k : Bool} (w : Wd K C M H S) (rx : Rep K M H dx x) (ry : Rep K M H dy y) (h : inB S dx dy = some k) :
    (∃ (c : Nat) (z : Str), x = .str ⟨#[c]⟩ ∧ y = .str z ∧ decide (c ∈ z.cps.toList) = k) ∨
    (∃ p xs, y = .ref p ∧ (SqL K H p xs ∨ SqT K H p xs) ∧ flatV x = true ∧ xs.all flatV = true ∧ inV x xs = k) ∨
    (∃ d ds, Dp K H x d ∧ Dp K H y (.list ds) ∧ SeqAt.shaped d = true ∧ SeqAt.shaped (.list ds) = true ∧ (ds.any fun z => PyData.eqv z d) = k) := by
  unfold inB at h
  split at h
  · rename_i z hz
    have e := der_ne hz (fun _ z => by cases z)
    subst e
    split at h
    · rename_i c
      cases h
      exact .inl ⟨c, mkS z, rep_str rx, rep_str ry, by simp [mkS]⟩
    · cases h
  · rename_i xs hz
    have e := der_ne hz (fun _ z => by cases z)
    subst e
    split at h
    · rename_i hc
      rw [Bool.and_eq_true] at hc
      cases h
      obtain ⟨a, vs, rfl, ha, ra⟩ := rep_tup ry
      exact .inr (.inl ⟨a, vs, rfl, .inr (.of ha), flat_v rx hc.1, allF_v ra hc.2, inF_v rx hc.1 ra hc.2⟩)
    · cases h
  · rename_i xs hz
    obtain ⟨a, vs, rfl, ha, ra⟩ := w.seqL ry hz
    split at h
    · rename_i hc
      rw [Bool.and_eq_true] at hc
      cases h
      exact .inr (.inl ⟨a, vs, rfl, .inl (.of ha), flat_v rx hc.1, allF_v ra hc.2, inF_v rx hc.1 ra hc.2⟩)
    · split at h
      · rename_i hc
        rw [Bool.and_eq_true] at hc
        cases h
        have c1 := SeqAt.canLay_of_shaped hc.1
        have c2 := SeqAt.canLay_of_shaped hc.2
        exact .inr (.inr ⟨_, _, toP_dp rx c1, .lst (.of ha) (toPL_dp ra (by simpa [PyData.canLay0] using c2)), hc.1, hc.2, rfl⟩)
      · cases h
  · cases h
def rInX (K : PySem.W.Frag) : R2 := fun x y H Q => (∃ (c : Nat) (z : Str), x = .str ⟨#[c]⟩ ∧ y = .str z ∧ Q (.bl (decide (c ∈ z.cps.toList))) H) ∨ rIn K false x y H Q ∨ rInD K x y H Q
def rNinX (K : PySem.W.Frag) : R2 := fun x y H Q => (∃ (c : Nat) (z : Str), x = .str ⟨#[c]⟩ ∧ y = .str z ∧ Q (.bl (!decide (c ∈ z.cps.toList))) H) ∨ rIn K true x y H Q ∨ rNotInD K x y H Q
theorem op_inX {X : Cx} (hu : X.A.units + 65 < cLine) : OpR X (compareOp .In) (rInX X.K) := op_in_sign.or (op_in_seq.or (op_inD hu))
theorem op_ninX {X : Cx} (hu : X.A.units + 65 < cLine) : OpR X (compareOp .NotIn) (rNinX X.K) := op_notIn_sign.or (op_notIn_seq.or (op_notInD hu))
theorem r_inD {K : PySem.W.Frag} {C : Ctx} : ROp K C (rInX K) inD := by
  intro M H S dx dy dz x y Q w rx ry hg q
  obtain ⟨k, h, e⟩ := Option.map_eq_some_iff.mp hg
  subst e
  have q' := q _ H (Same.refl H) (repB k)
  rcases inB_ok w rx ry h with ⟨c, z, e1, e2, e3⟩ | ⟨p, xs, e1, e2, e3, e4, e5⟩ | ⟨d, ds, h1, h2, h3, h4, h5⟩
  · exact .inl ⟨c, z, e1, e2, by rw [e3]; exact q'⟩
  · exact .inr (.inl ⟨p, xs, e1, e2, e3, e4, by rw [e5]; exact q'⟩)
  · exact .inr (.inr ⟨d, ds, h1, h2, h3, h4, by rw [h5]; exact q'⟩)
theorem r_ninD {K : PySem.W.Frag} {C : Ctx} : ROp K C (rNinX K) ninD := by
  intro M H S dx dy dz x y Q w rx ry hg q
  obtain ⟨k, h, e⟩ := Option.map_eq_some_iff.mp hg
  subst e
  have q' := q _ H (Same.refl H) (repB !k)
  rcases inB_ok w rx ry h with ⟨c, z, e1, e2, e3⟩ | ⟨p, xs, e1, e2, e3, e4, e5⟩ | ⟨d, ds, h1, h2, h3, h4, h5⟩
  · exact .inl ⟨c, z, e1, e2, by rw [e3]; exact q'⟩
  · exact .inr (.inl ⟨p, xs, e1, e2, e3, e4, by rw [e5]; exact q'⟩)
  · exact .inr (.inr ⟨d, ds, h1, h2, h3, h4, by rw [h5]; exact q'⟩)
end L2.DL
-- part DExp2
set_option maxHeartbeats 2000000
/-! DExp2: tests, chains, subscripts, slices, displays, calls. -/
namespace L2.DL
open PySem PySem.Spec PyProof.Rows

/-! ### tests -/
def bAnd (f g : BM) : BM := fun env S => (f env S).bind fun p => if p.1 = true then g env p.2 else some (false, p.2)
def bOr (f g : BM) : BM := fun env S => (f env S).bind fun p => if p.1 = true then some (true, p.2) else g env p.2
def bNot (f : BM) : BM := fun env S => (f env S).map fun p => (!p.1, p.2)
def eAnd (f g : EM) : EM := fun env S => (f env S).bind fun p => match p.1 with
  | .bl b => if b = true then g env p.2 else some (.bl false, p.2)
  | _ => none
def eOr (f g : EM) : EM := fun env S => (f env S).bind fun p => match p.1 with
  | .bl b => if b = true then some (.bl true, p.2) else g env p.2
  | _ => none
def eNot (f : EM) : EM := fun env S => (f env S).bind fun p => match p.1 with
  | .bl b => some (.bl (!b), p.2)
  | _ => none
def eIf (c : BM) (f g : EM) : EM := fun env S => (c env S).bind fun p => if p.1 = true then f env p.2 else g env p.2
def truD (S : Sto) (d : D) : Option Bool := match der S d with
  | .non => some false
  | .bl b => some b
  | .int i => some (i != 0)
  | .str x => if x.length ≤ 16777216 then some (!x.isEmpty) else none
  | .tup xs => some (!xs.isEmpty)
  | .lst xs => some (!xs.isEmpty)
  | _ => none
def bTru (f : EM) : BM := fun env S => (f env S).bind fun p => (truD p.2 p.1).map fun b => (b, p.2)
section
variable {X : Cx} {C : Ctx} {a b c : Expr} {rest : List Expr} {fa fb fc : EM} {ta tb : BM} {pos : Pos}
theorem w_and1 (ha : DT X C a ta) : DW X C (.BoolOp .And [a] pos) ta := pw_and1 ha
theorem w_or1 (ha : DT X C a ta) : DW X C (.BoolOp .Or [a] pos) ta := pw_or1 ha
theorem w_and (ha : DT X C a ta) (hb : DW X C (.BoolOp .And (b :: rest) pos) tb) : DW X C (.BoolOp .And (a :: b :: rest) pos) (bAnd ta tb) := impW (pw_and ha hb) fun σ H Q h => by
  obtain ⟨M, env, S, d, S', hE, hW, hf, q⟩ := h
  obtain ⟨⟨p, S1⟩, h1, hf⟩ := Option.bind_eq_some_iff.mp hf
  refine ⟨M, env, S, p, S1, hE, hW, h1, fun M1 H1 g1 w1 => ?_⟩
  cases p with
  | true =>
    rw [if_pos rfl] at hf ⊢
    exact ⟨M1, env, S1, d, S', hE.mono g1, w1, hf, fun M2 H2 g2 w2 => q M2 H2 (g1.trans g2) w2⟩
  | false =>
    rw [if_neg Bool.false_ne_true] at hf ⊢
    cases hf
    exact q M1 H1 g1 w1
theorem w_or (ha : DT X C a ta) (hb : DW X C (.BoolOp .Or (b :: rest) pos) tb) : DW X C (.BoolOp .Or (a :: b :: rest) pos) (bOr ta tb) := impW (pw_or ha hb) fun σ H Q h => by
  obtain ⟨M, env, S, d, S', hE, hW, hf, q⟩ := h
  obtain ⟨⟨p, S1⟩, h1, hf⟩ := Option.bind_eq_some_iff.mp hf
  refine ⟨M, env, S, p, S1, hE, hW, h1, fun M1 H1 g1 w1 => ?_⟩
  cases p with
  | false =>
    rw [if_neg Bool.false_ne_true] at hf ⊢
    exact ⟨M1, env, S1, d, S', hE.mono g1, w1, hf, fun M2 H2 g2 w2 => q M2 H2 (g1.trans g2) w2⟩
  | true =>
    rw [if_pos rfl] at hf ⊢
    cases hf
    exact q M1 H1 g1 w1
theorem t_w (h : DW X C a ta) : DT X C a ta := h.pt
theorem t_not (ha : DT X C a ta) : DT X C (.UnaryOp .Not a pos) (bNot ta) := impT (pt_not ha) fun σ H Q h => by
  obtain ⟨M, env, S, d, S', hE, hW, hf, q⟩ := h
  obtain ⟨⟨p, S1⟩, h1, hf⟩ := Option.map_eq_some_iff.mp hf
  cases hf
  exact ⟨M, env, S, p, S1, hE, hW, h1, fun M1 H1 g1 w1 => q M1 H1 g1 w1⟩
theorem d_one {op} (h : DE X C a fa) : DE X C (.BoolOp op [a] pos) fa := pe_one h
theorem d_and (ha : DE X C a fa) (hb : DE X C (.BoolOp .And (b :: rest) pos) fb) : DE X C (.BoolOp .And (a :: b :: rest) pos) (eAnd fa fb) := impE (pe_and ha hb) fun σ H Q h => by
  obtain ⟨M, env, S, d, S', hE, hW, hf, q⟩ := h
  obtain ⟨⟨p, S1⟩, h1, hf⟩ := Option.bind_eq_some_iff.mp hf
  refine ⟨M, env, S, p, S1, hE, hW, h1, fun v M1 H1 g1 w1 rv => ?_⟩
  cases p <;> first | (cases hf; done) | skip
  rename_i k
  refine ⟨k, rep_bl rv, ?_⟩
  cases k with
  | true =>
    rw [if_pos rfl]
    exact ⟨M1, env, S1, d, S', hE.mono g1, w1, hf, fun v2 M2 H2 g2 w2 r2 => q v2 M2 H2 (g1.trans g2) w2 r2⟩
  | false =>
    rw [if_neg Bool.false_ne_true]
    cases hf
    exact q _ M1 H1 g1 w1 (repB _)
theorem d_or (ha : DE X C a fa) (hb : DE X C (.BoolOp .Or (b :: rest) pos) fb) : DE X C (.BoolOp .Or (a :: b :: rest) pos) (eOr fa fb) := impE (pe_or ha hb) fun σ H Q h => by
  obtain ⟨M, env, S, d, S', hE, hW, hf, q⟩ := h
  obtain ⟨⟨p, S1⟩, h1, hf⟩ := Option.bind_eq_some_iff.mp hf
  refine ⟨M, env, S, p, S1, hE, hW, h1, fun v M1 H1 g1 w1 rv => ?_⟩
  cases p <;> first | (cases hf; done) | skip
  rename_i k
  refine ⟨k, rep_bl rv, ?_⟩
  cases k with
  | false =>
    rw [if_neg Bool.false_ne_true]
    exact ⟨M1, env, S1, d, S', hE.mono g1, w1, hf, fun v2 M2 H2 g2 w2 r2 => q v2 M2 H2 (g1.trans g2) w2 r2⟩
  | true =>
    rw [if_pos rfl]
    cases hf
    exact q _ M1 H1 g1 w1 (repB _)
theorem d_not (ha : DE X C a fa) : DE X C (.UnaryOp .Not a pos) (eNot fa) := impE (pe_not ha) fun σ H Q h => by
  obtain ⟨M, env, S, d, S', hE, hW, hf, q⟩ := h
  obtain ⟨⟨p, S1⟩, h1, hf⟩ := Option.bind_eq_some_iff.mp hf
  refine ⟨M, env, S, p, S1, hE, hW, h1, fun v M1 H1 g1 w1 rv => ?_⟩
  cases p <;> cases hf
  exact ⟨_, rep_bl rv, q _ M1 H1 g1 w1 (repB _)⟩
theorem d_if (hc : DT X C c ta) (ha : DE X C a fa) (hb : DE X C b fb) : DE X C (.IfExp c a b pos) (eIf ta fa fb) := impE (pe_ifExp hc ha hb) fun σ H Q h => by
  obtain ⟨M, env, S, d, S', hE, hW, hf, q⟩ := h
  obtain ⟨⟨p, S1⟩, h1, hf⟩ := Option.bind_eq_some_iff.mp hf
  refine ⟨M, env, S, p, S1, hE, hW, h1, fun M1 H1 g1 w1 => ?_⟩
  cases p with
  | true =>
    rw [if_pos rfl] at hf ⊢
    exact ⟨M1, env, S1, d, S', hE.mono g1, w1, hf, fun v2 M2 H2 g2 w2 r2 => q v2 M2 H2 (g1.trans g2) w2 r2⟩
  | false =>
    rw [if_neg Bool.false_ne_true] at hf ⊢
    exact ⟨M1, env, S1, d, S', hE.mono g1, w1, hf, fun v2 M2 H2 g2 w2 r2 => q v2 M2 H2 (g1.trans g2) w2 r2⟩
theorem tru_of {K : PySem.W.Frag} {M : Mem} {H : Hp} {S : Sto} {d : D} {x : V} {k : Bool} (w : Wd K C M H S) (r : Rep K M H d x) (h : truD S d = some k) : TruV K x H k := by
  unfold truD at h
  split at h
  all_goals first | (cases h; done) | skip
  · rename_i h1; have e := der_ne h1 (fun _ z => by cases z); subst e; cases h; rw [rep_non r]; rfl
  · rename_i h1; have e := der_ne h1 (fun _ z => by cases z); subst e; cases h; rw [rep_bl r]; rfl
  · rename_i h1; have e := der_ne h1 (fun _ z => by cases z); subst e; cases h; rw [rep_int r]; rfl
  · rename_i x h1; have e := der_ne h1 (fun _ z => by cases z); subst e
    split at h
    · rename_i hl
      cases h
      rw [rep_str r]
      refine ⟨by rw [mkS_len, line_eq]; exact hl, ?_⟩
      rw [mkS_len]
      cases x with
      | nil => rfl
      | cons z zs =>
        rw [Bool.eq_iff_iff]
        simp
        omega
    · cases h
  · rename_i x h1; have e := der_ne h1 (fun _ z => by cases z); subst e; cases h
    obtain ⟨a, xs, rfl, ha, ra⟩ := rep_tup r
    exact .inr (.inl ⟨xs, .of ha, by rw [ra.isEmpty]⟩)
  · rename_i x h1; cases h
    obtain ⟨a, xs, rfl, ha, ra⟩ := w.seqL r h1
    exact .inl ⟨xs, .of ha, by rw [ra.isEmpty]⟩
theorem t_tru (ha : DE X C a fa) (he : ∀ whole, isTrue a X.env whole = (do let v ← whole; standAt a.pos; holding [v] (truthy v)) := by intro _; rfl) : DT X C a (bTru fa) := impT (pt_truth ha he) fun σ H Q h => by
  obtain ⟨M, env, S, d, S', hE, hW, hf, q⟩ := h
  obtain ⟨⟨p, S1⟩, h1, hf⟩ := Option.bind_eq_some_iff.mp hf
  obtain ⟨k, h2, hf⟩ := Option.map_eq_some_iff.mp hf
  cases hf
  exact ⟨M, env, S, p, _, hE, hW, h1, fun v M1 H1 g1 w1 rv => ⟨_, tru_of w1 rv h2, q M1 H1 g1 w1⟩⟩
/-- a op b op' c -/
def eChain (g g' : Sto → D → D → Option D) (fa fb fc : EM) : EM := fun env S => (fa env S).bind fun p => (fb env p.2).bind fun q => (g q.2 p.1 q.1).bind fun z => match z with
  | .bl k => if k = true then (fc env q.2).bind fun r => (g' r.2 q.1 r.1).map fun z' => (z', r.2) else some (.bl false, q.2)
  | _ => none
theorem chain_imp {r r' : R2} {g g' : Sto → D → D → Option D} (hr : ROp X.K C r g) (hr' : ROp X.K C r' g') {σ : St} {H : Hp} {Q : VK} (h : lE X.K C (eChain g g' fa fb fc) σ H Q) : tChain r r' (lE X.K C fa) (lE X.K C fb) (lE X.K C fc) σ H Q := by
  obtain ⟨M, env, S, d, S', hE, hW, hf, q⟩ := h
  obtain ⟨p, h1, hf⟩ := Option.bind_eq_some_iff.mp hf
  obtain ⟨p2, h2, hf⟩ := Option.bind_eq_some_iff.mp hf
  obtain ⟨z, h3, hf⟩ := Option.bind_eq_some_iff.mp hf
  refine ⟨M, env, S, p.1, p.2, hE, hW, h1, fun v M1 H1 g1 w1 rv => ⟨M1, env, p.2, p2.1, p2.2, hE.mono g1, w1, h2, fun u M2 H2 g2 w2 ru => ?_⟩⟩
  refine hr M2 H2 p2.2 p.1 p2.1 z v u _ w2 (rv.mono g2) ru h3 fun w' H3 s3 rw' => ?_
  cases z <;> first | (cases hf; done) | skip
  rename_i k
  refine ⟨k, rep_bl rw', ?_⟩
  cases k with
  | true =>
    rw [if_pos rfl]
    dsimp only at hf
    rw [if_pos rfl] at hf
    obtain ⟨p3, h4, hf⟩ := Option.bind_eq_some_iff.mp hf
    obtain ⟨z', h5, hf⟩ := Option.map_eq_some_iff.mp hf
    cases hf
    have gg := (g1.trans g2).trans (.same s3)
    refine ⟨M2, env, p2.2, p3.1, p3.2, hE.mono gg, w2.same s3, h4, fun u4 M4 H4 g4 w4 r4 => ?_⟩
    exact hr' M4 H4 p3.2 p2.1 p3.1 _ u u4 Q w4 ((ru.mono (.same s3)).mono g4) r4 h5 fun w5 H5 s5 r5 => q w5 M4 H5 ((gg.trans g4).trans (.same s5)) (w4.same s5) r5
  | false =>
    rw [if_neg Bool.false_ne_true]
    dsimp only at hf
    rw [if_neg Bool.false_ne_true] at hf
    cases hf
    exact q _ M2 H3 ((g1.trans g2).trans (.same s3)) (w2.same s3) (repB _)
theorem d_chain {op op' : CmpOp} {r r' : R2} {g g' : Sto → D → D → Option D} (ho : OpR X (compareOp op) r) (hr : ROp X.K C r g) (ho' : OpR X (compareOp op') r') (hr' : ROp X.K C r' g') (ha : DE X C a fa) (hb : DE X C b fb) (hc : DE X C c fc)
    (hm : lastMarks [op, op'] [b, c] = false := by with_unfolding_all rfl) : DE X C (.Compare a [op, op'] [b, c] pos) (eChain g g' fa fb fc) := impE (pe_chain ho ho' ha hb hc hm) fun _ _ _ h => chain_imp hr hr' h
theorem t_chain {op op' : CmpOp} {r r' : R2} {g g' : Sto → D → D → Option D} (ho : OpR X (compareOp op) r) (hr : ROp X.K C r g) (ho' : OpR X (compareOp op') r') (hr' : ROp X.K C r' g') (ha : DE X C a fa) (hb : DE X C b fb) (hc : DE X C c fc)
    (hm : lastMarks [op, op'] [b, c] = false := by with_unfolding_all rfl) : DT X C (.Compare a [op, op'] [b, c] pos) (bOf (eChain g g' fa fb fc)) := impT (pt_chain ho ho' ha hb hc hm) fun σ H Q h => by
  have h' := bOf_imp h
  exact chain_imp hr hr' h'
end

/-! ### subscripts -/
def ixD (S : Sto) (a b : D) : Option D := match b with
  | .int i => (match der S a with
    | .tup xs => atI xs i
    | .lst xs => atI xs i
    | .str x => if x.length ≤ 16777216 then (atI x i).map fun c => .str [c] else none
    | .scr ns => (atI ns i).map .int
    | _ => none)
  | _ => none
theorem atI_rep {K : PySem.W.Frag} {M : Mem} {H : Hp} {ds : List D} {xs : List V} {i : Int} {d : D} (r : RepL K M H ds xs) (h : atI ds i = some d) : ∃ x, atI xs i = some x ∧ Rep K M H d x := by
  unfold atI at h ⊢
  obtain ⟨j, h1, h2⟩ := Option.bind_eq_some_iff.mp h
  obtain ⟨x, h3, h4⟩ := r.get h2
  exact ⟨x, by rw [← r.length, h1]; exact h3, h4⟩
theorem atI_map {α β : Type} (f : α → β) (xs : List α) (i : Int) : atI (xs.map f) i = (atI xs i).map f := by
  unfold atI
  rw [List.length_map]
  cases ixN xs.length i with
  | none => rfl
  | some j => simp
theorem r_ixD {K : PySem.W.Frag} {C : Ctx} : ROp K C (rIx K) ixD := by
  intro M H S dx dy dz x y Q w rx ry hg q
  unfold ixD at hg
  split at hg
  · rename_i i
    have ey := rep_int ry
    subst ey
    split at hg
    · rename_i xs h1
      have e := der_ne h1 (fun _ z => by cases z)
      subst e
      obtain ⟨a, vs, rfl, ha, ra⟩ := rep_tup rx
      obtain ⟨v, hv, rv⟩ := atI_rep ra hg
      exact .inr (.inl ⟨a, vs, i, v, rfl, rfl, .of ha, hv, q v H (Same.refl H) rv⟩)
    · rename_i xs h1
      obtain ⟨a, vs, rfl, ha, ra⟩ := w.seqL rx h1
      obtain ⟨v, hv, rv⟩ := atI_rep ra hg
      exact .inl ⟨a, vs, i, v, rfl, rfl, .of ha, hv, q v H (Same.refl H) rv⟩
    · rename_i z h1
      have e := der_ne h1 (fun _ z => by cases z)
      subst e
      split at hg
      · rename_i hl
        obtain ⟨c, hc, e⟩ := Option.map_eq_some_iff.mp hg
        subst e
        exact .inr (.inr ⟨mkS z, i, c, rep_str rx, rfl, by rw [mkS_len, line_eq]; exact hl, hc, q _ H (Same.refl H) (repS [c])⟩)
      · cases hg
    · rename_i ns h1
      have e := der_ne h1 (fun _ z => by cases z)
      subst e
      obtain ⟨a, rfl, ha⟩ := rep_scr rx
      obtain ⟨c, hc, e⟩ := Option.map_eq_some_iff.mp hg
      subst e
      exact .inl ⟨a, _, i, .int c, rfl, rfl, ha, by rw [atI_map, hc]; rfl, q _ H (Same.refl H) (repI _)⟩
    · cases hg
  · cases hg

/-! ### slices -/
def cutG {α : Type} (xs : List α) (lo hi : Option Int) : List α := (xs.drop (HT.sIx xs.length 0 lo)).take (HT.sIx xs.length xs.length hi - HT.sIx xs.length 0 lo)
def slD (S : Sto) (a : D) (lo hi : Option Int) : Option D := match der S a with
  | .tup xs => some (.tup (cutG xs lo hi))
  | .lst xs => some (.lst (cutG xs lo hi))
  | .str x => if x.length ≤ 16777216 then some (.str (cutG x lo hi)) else none
  | _ => none
def rSlX (K : PySem.W.Frag) : V → Option Int → Option Int → Hp → VK → Prop := fun x lo hi H Q => rSlA K x lo hi H Q ∨ rSlL K x lo hi H Q ∨ rSlS x lo hi H Q
theorem sl_X {X : Cx} : SlR X (rSlX X.K) := sl_tupA.or (sl_list.or sl_str)
theorem cut_rep {K : PySem.W.Frag} {M : Mem} {H : Hp} {ds : List D} {xs : List V} (r : RepL K M H ds xs) (lo hi : Option Int) : RepL K M H (cutG ds lo hi) (cutV xs lo hi) := by
  unfold cutG cutV
  rw [r.length]
  exact (r.drop _).take _
theorem cut_whole {α : Type} (xs : List α) (lo hi : Option Int) (h : HT.sIx xs.length 0 lo = 0 ∧ HT.sIx xs.length xs.length hi = xs.length) : cutG xs lo hi = xs := by
  unfold cutG
  rw [h.1, h.2]
  simp
theorem cutS_mk (x : List Nat) (lo hi : Option Int) : cutS (mkS x) lo hi = mkS (cutG x lo hi) := by
  unfold cutS cutG
  rw [mkS_len]
theorem r_slD {K : PySem.W.Frag} {C : Ctx} : RSl K C (rSlX K) slD := by
  intro M H S d lo hi dz x Q w rx hg q
  unfold slD at hg
  split at hg
  · rename_i xs h1
    have e := der_ne h1 (fun _ z => by cases z)
    subst e
    cases hg
    simp only [Rep] at rx
    obtain ⟨a, vs, rfl, na, ha, ra⟩ := rx
    refine .inl ⟨a, vs, rfl, .of ha, fun hw => ?_, fun _ p np => q _ _ (same_new np) (w.newT np (cut_rep ra lo hi))⟩
    refine q _ H (Same.refl H) ?_
    rw [← ra.length] at hw
    rw [cut_whole xs lo hi hw]
    simp only [Rep]
    exact ⟨a, vs, rfl, na, ha, ra⟩
  · rename_i xs h1
    cases hg
    obtain ⟨a, vs, rfl, ha, ra⟩ := w.seqL rx h1
    exact .inr (.inl ⟨a, vs, rfl, .of ha, fun p np => q _ _ (same_new np) (w.newL np (cut_rep ra lo hi))⟩)
  · rename_i z h1
    have e := der_ne h1 (fun _ z => by cases z)
    subst e
    split at hg
    · rename_i hl
      cases hg
      refine .inr (.inr ⟨mkS z, rep_str rx, by rw [mkS_len, line_eq]; exact hl, ?_⟩)
      rw [cutS_mk]
      exact q _ H (Same.refl H) (repS _)
    · cases hg
  · cases hg
def oNone : PM := fun _ S => some (none, S)
def oSome (f : EM) : PM := fun env S => (f env S).bind fun p => match p.1 with
  | .int i => some (some i, p.2)
  | _ => none
def eSl (g : Sto → D → Option Int → Option Int → Option D) (fa : EM) (fl fh : PM) : EM := fun env S => (fa env S).bind fun p => (fl env p.2).bind fun l => (fh env l.2).bind fun h => (g h.2 p.1 l.1 h.1).map fun z => (z, h.2)
section
variable {X : Cx} {C : Ctx} {a b : Expr} {fa fb : EM} {pos p2 : Pos} {lo hi : Option Expr} {fl fh : PM}
theorem o_none : DO X C none oNone := impO po_none fun σ H Q h => by
  obtain ⟨M, env, S, d, S', hE, hW, hf, q⟩ := h
  cases hf
  exact q M H .refl hW
theorem o_some (h : DE X C a fa) : DO X C (some a) (oSome fa) := impO (po_some h) fun σ H Q h => by
  obtain ⟨M, env, S, d, S', hE, hW, hf, q⟩ := h
  obtain ⟨⟨p, S1⟩, h1, hf⟩ := Option.bind_eq_some_iff.mp hf
  cases p <;> cases hf
  exact ⟨M, env, S, _, _, hE, hW, h1, fun v M1 H1 g1 w1 rv => ⟨_, rep_int rv, q M1 H1 g1 w1⟩⟩
theorem d_sl {r : V → Option Int → Option Int → Hp → VK → Prop} {g : Sto → D → Option Int → Option Int → Option D} (hr : SlR X r) (hg : RSl X.K C r g) (ha : DE X C a fa) (hl : DO X C lo fl) (hh : DO X C hi fh) : DE X C (.Subscript a (.Slice lo hi none p2) pos) (eSl g fa fl fh) :=
  impE (pe_slice hr ha hl hh) fun σ H Q h => by
    obtain ⟨M, env, S, d, S', hE, hW, hf, q⟩ := h
    obtain ⟨p, h1, hf⟩ := Option.bind_eq_some_iff.mp hf
    obtain ⟨l, h2, hf⟩ := Option.bind_eq_some_iff.mp hf
    obtain ⟨u, h3, hf⟩ := Option.bind_eq_some_iff.mp hf
    obtain ⟨z, h4, hf⟩ := Option.map_eq_some_iff.mp hf
    cases hf
    refine ⟨M, env, S, p.1, p.2, hE, hW, h1, fun v M1 H1 g1 w1 rv => ⟨M1, env, p.2, l.1, l.2, hE.mono g1, w1, h2, fun M2 H2 g2 w2 => ⟨M2, env, l.2, u.1, u.2, hE.mono (g1.trans g2), w2, h3, fun M3 H3 g3 w3 => ?_⟩⟩⟩
    exact hg M3 H3 u.2 p.1 l.1 u.1 d v Q w3 ((rv.mono g2).mono g3) h4 fun w' H4 s4 r4 => q w' M3 H4 (((g1.trans g2).trans g3).trans (.same s4)) (w3.same s4) r4
/-- .. the very rules -/
theorem dx_ix (ha : DE X C a fa) (hb : DE X C b fb) (hs : PlainIx b := by exact fun _ _ => rfl) : DE X C (.Subscript a b pos) (eOp ixD fa fb) := d_ix ix_seq r_ixD ha hb hs
theorem dx_sl (ha : DE X C a fa) (hl : DO X C lo fl) (hh : DO X C hi fh) : DE X C (.Subscript a (.Slice lo hi none p2) pos) (eSl slD fa fl fh) := d_sl sl_X r_slD ha hl hh
end

/-! ### displays -/
def eTup (fa : AM) : EM := fun env S => (fa env S).bind fun p => if p.1.length ≤ 16777216 then some (.tup p.1, p.2) else none
def eLst (fa : AM) : EM := fun env S => (fa env S).bind fun p => if p.1.length ≤ 16777216 then some (.lst p.1, p.2) else none
/-- a list that will be changed -/
def eMut (fa : AM) : EM := fun env S => (fa env S).bind fun p => if p.1.length ≤ 16777216 then some (.mu p.2.length, p.2 ++ [.lst p.1]) else none
section
variable {K : PySem.W.Frag} {C : Ctx} {M : Mem} {H : Hp} {S : Sto}
theorem nodup_snoc {α : Type} {l : List α} {a : α} (h : l.Nodup) (ha : a ∉ l) : (l ++ [a]).Nodup := by
  rw [List.nodup_append]
  exact ⟨h, by simp, fun x hx y hy => by
    have e : y = a := by simpa using hy
    subst e
    intro z
    subst z
    exact ha hx⟩
abbrev Mem.push (M : Mem) (p : Addr) : Mem := { M with c := M.c ++ [p] }
theorem Gr.push {p : Addr} {o : HO} (np : H p = none) : Gr M H (M.push p) (upd H p o) :=
  ⟨⟨[p], rfl⟩, rfl, fun a ha => by
    rcases ha with ha | ha
    · rcases List.mem_append.mp ha with h | h
      · exact .inl (.inl h)
      · have e : a = p := by simpa using h
        subst e
        exact .inr fun o h => by rw [np] at h; cases h
    · exact .inl (.inr ha), fun b u h _ _ => same_new np b u h, fun b _ u h => same_new np b u h⟩
/-- a new cell -/
theorem Wd.push (w : Wd K C M H S) {p : Addr} {o : HO} {c : Cell} (np : H p = none) (hc : CellOk K (M.push p) (upd H p o) p c) : Wd K C (M.push p) (upd H p o) (S ++ [c]) := by
  refine ⟨by simp [w.len], nodup_snoc w.nd (fun z => w.notin np (.inl z)), fun n a c' h1 h2 => ?_, fun q hq => (w.tab q hq).same (same_new np), fun a ha => ?_⟩
  · have h1 : (M.c ++ [p])[n]? = some a := h1
    by_cases hn : n < M.c.length
    · rw [List.getElem?_append_left hn] at h1
      rw [List.getElem?_append_left (by rw [← w.len]; exact hn)] at h2
      have q := w.cell n a c' h1 h2
      have g : Gr M H (M.push p) (upd H p o) := Gr.push np
      cases c' with
      | lst ds => obtain ⟨xs, e1, e2⟩ := q; exact ⟨xs, same_new np _ _ e1, e2.mono g⟩
      | dct kvs => obtain ⟨xs, e1, e2⟩ := q; exact ⟨xs, same_new np _ _ e1, e2.mono g⟩
    · have e : n = M.c.length := by
        have := (List.getElem?_eq_some_iff.mp h1).1
        simp at this
        omega
      subst e
      rw [List.getElem?_append_right (Nat.le_refl _)] at h1
      rw [List.getElem?_append_right (by rw [w.len]; exact Nat.le_refl _)] at h2
      simp [w.len] at h1 h2
      rw [← h1, ← h2]
      exact hc
  · obtain ⟨h1, u, h2⟩ := w.zs a ha
    refine ⟨fun z => ?_, u, same_new np a _ h2⟩
    rcases List.mem_append.mp z with z | z
    · exact h1 z
    · have e : a = p := by simpa using z
      rw [e, np] at h2
      cases h2
theorem Wd.newM (w : Wd K C M H S) {p : Addr} {ds : List D} {xs : List V} (np : H p = none) (r : RepL K M H ds xs) : Wd K C (M.push p) (upd H p (.lst xs)) (S ++ [.lst ds]) ∧ Rep K (M.push p) (upd H p (.lst xs)) (.mu S.length) (.ref p) := by
  refine ⟨w.push np ⟨xs, upd_same, r.mono (Gr.push np)⟩, ?_⟩
  simp only [Rep]
  refine ⟨p, rfl, ?_⟩
  show (M.c ++ [p])[S.length]? = some p
  rw [← w.len, List.getElem?_append_right (Nat.le_refl _)]
  simp
end
section
variable {X : Cx} {C : Ctx} {es : List Expr} {fa : AM} {pos : Pos}
theorem d_tup {x1} (h : DA X C es fa) : DE X C (.Tuple es x1 pos) (eTup fa) := impE (pe_tup h) fun σ H Q h => by
  obtain ⟨M, env, S, d, S', hE, hW, hf, q⟩ := h
  obtain ⟨p, h1, hf⟩ := Option.bind_eq_some_iff.mp hf
  split at hf
  · rename_i hl
    cases hf
    exact ⟨M, env, S, p.1, p.2, hE, hW, h1, fun vs M1 H1 g1 w1 r1 => ⟨by rw [← r1.length, line_eq]; exact hl, fun a na => q _ M1 _ (g1.trans (.same (same_new na))) (w1.same (same_new na)) (w1.newT na r1)⟩⟩
  · cases hf
theorem d_lst (h : DA X C es fa) : DE X C (.List es pos) (eLst fa) := impE (pe_lst h) fun σ H Q h => by
  obtain ⟨M, env, S, d, S', hE, hW, hf, q⟩ := h
  obtain ⟨p, h1, hf⟩ := Option.bind_eq_some_iff.mp hf
  split at hf
  · rename_i hl
    cases hf
    exact ⟨M, env, S, p.1, p.2, hE, hW, h1, fun vs M1 H1 g1 w1 r1 => ⟨by rw [← r1.length, line_eq]; exact hl, fun a na => q _ M1 _ (g1.trans (.same (same_new na))) (w1.same (same_new na)) (w1.newL na r1)⟩⟩
  · cases hf
theorem d_mut (h : DA X C es fa) : DE X C (.List es pos) (eMut fa) := impE (pe_lst h) fun σ H Q h => by
  obtain ⟨M, env, S, d, S', hE, hW, hf, q⟩ := h
  obtain ⟨p, h1, hf⟩ := Option.bind_eq_some_iff.mp hf
  split at hf
  · rename_i hl
    cases hf
    exact ⟨M, env, S, p.1, p.2, hE, hW, h1, fun vs M1 H1 g1 w1 r1 => ⟨by rw [← r1.length, line_eq]; exact hl, fun a na => q _ _ _ (g1.trans (.push na)) (w1.newM na r1).1 (w1.newM na r1).2⟩⟩
  · cases hf
end
end L2.DL
-- part DCall
set_option maxHeartbeats 2000000
/-! DCall: calls of built-ins, of methods, of the text's own defs. -/
namespace L2.DL
open PySem PySem.Spec PyProof.Rows

/-! ### built-ins -/
def lenD (S : Sto) (ds : List D) : Option D := match ds with
  | [d] => (match der S d with
    | .tup xs => some (.int xs.length)
    | .lst xs => some (.int xs.length)
    | .scr ns => some (.int ns.length)
    | .str x => if x.length ≤ 16777216 then some (.int x.length) else none
    | _ => none)
  | _ => none
def rLenX (K : PySem.W.Frag) : List V → Hp → VK → Prop := fun xs H Q => (∃ p ys, xs = [.ref p] ∧ (SqL K H p ys ∨ SqT K H p ys) ∧ Q (.int ys.length) H) ∨ (∃ z, xs = [.str z] ∧ z.length ≤ sizeLine ∧ Q (.int z.length) H)
theorem call_lenX {X : Cx} : CallR X (.builtin "len") (rLenX X.K) := call_len_seq.or call_len_str
theorem one_inv {K : PySem.W.Frag} {M : Mem} {H : Hp} {d : D} {xs : List V} (r : RepL K M H [d] xs) : ∃ x, xs = [x] ∧ Rep K M H d x := by
  obtain ⟨x, r, rfl, h, t⟩ := r.cons_inv
  rw [t.nil_inv]
  exact ⟨x, rfl, h⟩
theorem r_lenD {K : PySem.W.Frag} {C : Ctx} : RCl K C (rLenX K) lenD := by
  intro M H S ds dz xs Q w rxs hg q
  unfold lenD at hg
  split at hg
  · rename_i d
    obtain ⟨x, rfl, rx⟩ := one_inv rxs
    split at hg
    · rename_i ys h1
      have e := der_ne h1 (fun _ z => by cases z)
      subst e
      cases hg
      obtain ⟨a, vs, rfl, ha, ra⟩ := rep_tup rx
      exact .inl ⟨a, vs, rfl, .inr (.of ha), by rw [← ra.length]; exact q _ H (Same.refl H) (repI _)⟩
    · rename_i ys h1
      cases hg
      obtain ⟨a, vs, rfl, ha, ra⟩ := w.seqL rx h1
      exact .inl ⟨a, vs, rfl, .inl (.of ha), by rw [← ra.length]; exact q _ H (Same.refl H) (repI _)⟩
    · rename_i ns h1
      have e := der_ne h1 (fun _ z => by cases z)
      subst e
      cases hg
      obtain ⟨a, rfl, ha⟩ := rep_scr rx
      exact .inl ⟨a, _, rfl, .inl ha, by rw [List.length_map]; exact q _ H (Same.refl H) (repI _)⟩
    · rename_i z h1
      have e := der_ne h1 (fun _ z => by cases z)
      subst e
      split at hg
      · rename_i hl
        cases hg
        rw [rep_str rx]
        exact .inr ⟨mkS z, rfl, by rw [mkS_len, line_eq]; exact hl, by rw [mkS_len]; exact q _ H (Same.refl H) (repI _)⟩
      · cases hg
    · cases hg
  · cases hg
def intDD (_ : Sto) (ds : List D) : Option D := match ds with
  | [.int i] => some (.int i)
  | [.bl b] => some (.int (if b then 1 else 0))
  | [.str [c]] => if 48 ≤ c ∧ c ≤ 57 then some (.int ((c : Int) - 48)) else none
  | _ => none
theorem digit_text {c : Nat} (h : 48 ≤ c ∧ c ≤ 57) : PySem.intText? (mkS [c]) = some ((c : Int) - 48) := by
  have hc : c = 48 ∨ c = 49 ∨ c = 50 ∨ c = 51 ∨ c = 52 ∨ c = 53 ∨ c = 54 ∨ c = 55 ∨ c = 56 ∨ c = 57 := by omega
  rcases hc with rfl | rfl | rfl | rfl | rfl | rfl | rfl | rfl | rfl | rfl <;> decide +kernel
def rIntX : List V → Hp → VK → Prop := fun xs H Q => ((∃ i, xs = [.int i] ∧ Q (.int i) H) ∨ ∃ k, xs = [.bl k] ∧ Q (.int (if k then 1 else 0)) H) ∨ ∃ a n, xs = [.str a] ∧ PySem.intText? a = some n ∧ a.length ≤ 640 ∧ Q (.int n) H
theorem call_intX {X : Cx} : CallR X (.type "int") rIntX := call_int1.or call_int_str
theorem r_intDD {K : PySem.W.Frag} {C : Ctx} : RCl K C rIntX intDD := by
  intro M H S ds dz xs Q w rxs hg q
  unfold intDD at hg
  split at hg
  · cases hg
    obtain ⟨x, rfl, rx⟩ := one_inv rxs
    rw [rep_int rx]
    exact .inl (.inl ⟨_, rfl, q _ H (Same.refl H) (repI _)⟩)
  · cases hg
    obtain ⟨x, rfl, rx⟩ := one_inv rxs
    rw [rep_bl rx]
    exact .inl (.inr ⟨_, rfl, q _ H (Same.refl H) (repI _)⟩)
  · split at hg
    · rename_i c hc
      cases hg
      obtain ⟨x, rfl, rx⟩ := one_inv rxs
      rw [rep_str rx]
      exact .inr ⟨_, _, rfl, digit_text hc, by rw [mkS_len]; simp, q _ H (Same.refl H) (repI _)⟩
    · cases hg
  · cases hg
def strDD (_ : Sto) (ds : List D) : Option D := match ds with
  | [.int i] => if 0 ≤ i ∧ i < 1000000 then some (.str (TL.numL i.toNat)) else none
  | _ => none
theorem r_strDD {K : PySem.W.Frag} {C : Ctx} : RCl K C (fun xs H Q => ∃ i, xs = [.int i] ∧ i.natAbs.log2 < 1920 ∧ Q (.str (toString i)) H) strDD := by
  intro M H S ds dz xs Q w rxs hg q
  unfold strDD at hg
  split at hg
  · rename_i i
    split at hg
    · rename_i hi
      cases hg
      obtain ⟨x, rfl, rx⟩ := one_inv rxs
      rw [rep_int rx]
      refine ⟨i, rfl, ?_, ?_⟩
      · have h1 : i.natAbs < 2 ^ 20 := by
          have : i.natAbs < 1000000 := by omega
          exact Nat.lt_of_lt_of_le this (by decide)
        by_cases h0 : i.natAbs = 0
        · rw [h0]; decide +kernel
        · exact Nat.lt_trans ((Nat.log2_lt h0).mpr h1) (by decide)
      · have e : Str.ofString (toString i) = mkS (TL.numL i.toNat) := TL.ext_tl (by
          have h3 : i = ((i.toNat : Nat) : Int) := by omega
          conv => lhs; rw [h3]
          rw [TL.tl_num])
        rw [e]
        exact q _ H (Same.refl H) (repS _)
    · cases hg
  · cases hg
def tupDD (S : Sto) (ds : List D) : Option D := match ds with
  | [d] => (match der S d with
    | .tup xs => some (.tup xs)
    | .lst xs => some (.tup xs)
    | _ => none)
  | _ => none
theorem r_tupDD {K : PySem.W.Frag} {C : Ctx} : RCl K C (fun xs H Q => ∃ p ys, xs = [.ref p] ∧ ((SqL K H p ys ∧ ∀ l, H l = none → Q (.ref l) (upd H l (.tup ys))) ∨ (SqT K H p ys ∧ Q (.ref p) H))) tupDD := by
  intro M H S ds dz xs Q w rxs hg q
  unfold tupDD at hg
  split at hg
  · obtain ⟨x, rfl, rx⟩ := one_inv rxs
    split at hg
    · rename_i ys h1
      have e := der_ne h1 (fun _ z => by cases z)
      subst e
      cases hg
      have rx' := rx
      obtain ⟨a, vs, rfl, ha, ra⟩ := rep_tup rx
      exact ⟨a, vs, rfl, .inr ⟨.of ha, q _ H (Same.refl H) rx'⟩⟩
    · rename_i ys h1
      cases hg
      obtain ⟨a, vs, rfl, ha, ra⟩ := w.seqL rx h1
      exact ⟨a, vs, rfl, .inl ⟨.of ha, fun l nl => q _ _ (same_new nl) (w.newT nl ra)⟩⟩
    · cases hg
  · cases hg
def listDD (S : Sto) (ds : List D) : Option D := match ds with
  | [.mu n] => (match S[n]? with
    | some (.dct kvs) => some (.lst (kvs.map fun p => .str p.1))
    | _ => none)
  | _ => none
theorem repK_keys {K : PySem.W.Frag} {M : Mem} {H : Hp} : ∀ {kvs : List (List Nat × D)} {ps : List (Key × V)}, RepK K M H kvs ps → RepL K M H (kvs.map fun p => .str p.1) (ps.map fun kv => kV kv.1)
  | _, _, .nil => .nil
  | _, _, .cons h t => .cons (by dsimp only; rw [h.1]; exact repS _) (repK_keys t)
theorem r_listDD {K : PySem.W.Frag} {C : Ctx} : RCl K C rListD listDD := by
  intro M H S ds dz xs Q w rxs hg q
  unfold listDD at hg
  split at hg
  · rename_i n
    obtain ⟨x, rfl, rx⟩ := one_inv rxs
    split at hg
    · rename_i kvs h1
      cases hg
      simp only [Rep] at rx
      obtain ⟨a, rfl, ha⟩ := rx
      obtain ⟨ps, h2, h3⟩ := w.cell n a _ ha h1
      exact ⟨a, ps, rfl, h2, fun l nl => q _ _ (same_new nl) (w.newL nl (repK_keys h3))⟩
    · cases hg
  · cases hg
/-- the greatest of ints -/
def maxL : Int → List Int → Int
  | m, [] => m
  | m, x :: r => maxL (if m < x then x else m) r
theorem maxL_mem : ∀ (r : List Int) (m : Int), maxL m r ∈ m :: r
  | [], m => List.mem_singleton.mpr rfl
  | x :: r, m => by
    have h := maxL_mem r (if m < x then x else m)
    show maxL (if m < x then x else m) r ∈ m :: x :: r
    rcases List.mem_cons.mp h with e | h
    · rw [e]
      split
      · exact List.mem_cons_of_mem _ List.mem_cons_self
      · exact List.mem_cons_self
    · exact List.mem_cons_of_mem _ (List.mem_cons_of_mem _ h)
theorem maxL_ge : ∀ (r : List Int) (m : Int) (y : Int), y ∈ m :: r → y ≤ maxL m r
  | [], m, y, h => by rw [List.mem_singleton.mp h]; exact Int.le_refl _
  | x :: r, m, y, h => by
    by_cases hx : m < x
    · have e : maxL m (x :: r) = maxL x r := by show maxL (if m < x then x else m) r = _; rw [if_pos hx]
      rw [e]
      have h0 := maxL_ge r x x List.mem_cons_self
      rcases List.mem_cons.mp h with e | h
      · omega
      · exact maxL_ge r x y h
    · have e : maxL m (x :: r) = maxL m r := by show maxL (if m < x then x else m) r = _; rw [if_neg hx]
      rw [e]
      have h0 := maxL_ge r m m List.mem_cons_self
      rcases List.mem_cons.mp h with e | h
      · omega
      · rcases List.mem_cons.mp h with e | h
        · omega
        · exact maxL_ge r m y (List.mem_cons_of_mem _ h)
def intsOf : List D → Option (List Int)
  | [] => some []
  | .int i :: r => (intsOf r).map (i :: ·)
  | _ :: _ => none
theorem intsOf_eq : ∀ {ds : List D} {ns : List Int}, intsOf ds = some ns → ds = ns.map D.int
  | [], ns, h => by cases h; rfl
  | d :: r, ns, h => by
    cases d <;> first | (cases h; done) | skip
    obtain ⟨m, h1, e⟩ := Option.map_eq_some_iff.mp h
    subst e
    rw [intsOf_eq h1]; rfl
theorem intsOf_map (ns : List Int) : intsOf (ns.map D.int) = some ns := by
  induction ns with
  | nil => rfl
  | cons n r ih => simp [intsOf, ih]
def maxDD (S : Sto) (ds : List D) : Option D := match ds with
  | [d] => (match der S d with
    | .lst xs => (match intsOf xs with
      | some (m :: r) => some (.int (maxL m r))
      | _ => none)
    | _ => none)
  | _ => none
theorem r_maxDD {K : PySem.W.Frag} {C : Ctx} : RCl K C (rMax K) maxDD := by
  intro M H S ds dz xs Q w rxs hg q
  unfold maxDD at hg
  split at hg
  · obtain ⟨x, rfl, rx⟩ := one_inv rxs
    split at hg
    · rename_i ys h1
      split at hg
      · rename_i m r h2
        cases hg
        obtain ⟨a, vs, rfl, ha, ra⟩ := w.seqL rx h1
        have e := intsOf_eq h2
        rw [e] at ra
        have e2 := ra.ints_inv
        refine ⟨a, m :: r, rfl, .of (by rw [← e2]; exact ha), by simp, fun z hz hge => ?_⟩
        have e3 : z = maxL m r := by
          have g1 := maxL_ge r m z hz
          have g2 := hge _ (maxL_mem r m)
          omega
        rw [e3]
        exact q _ H (Same.refl H) (repI _)
      · cases hg
    · cases hg
  · cases hg
section
variable {X : Cx} {C : Ctx} {x : Str} {p pos : Pos} {e : Expr} {es : List Expr} {fa : AM} {id T : String} {r : List V → Hp → VK → Prop} {g : Sto → List D → Option D}
theorem cl_imp (hr : RCl X.K C r g) {σ : St} {H : Hp} {Q : VK} (h : lE X.K C (eCl g fa) σ H Q) : tCB r (lA X.K C fa) σ H Q := by
  obtain ⟨M, env, S, d, S', hE, hW, hf, q⟩ := h
  obtain ⟨p, h1, hf⟩ := Option.bind_eq_some_iff.mp hf
  obtain ⟨z, h2, hf⟩ := Option.map_eq_some_iff.mp hf
  cases hf
  exact ⟨M, env, S, p.1, p.2, hE, hW, h1, fun vs M1 H1 g1 w1 r1 => hr M1 H1 p.2 p.1 d vs Q w1 r1 h2 fun v H2 s2 r2 => q v M1 H2 (g1.trans (.same s2)) (w1.same s2) r2⟩
theorem d_callB (hc : CallR X (.builtin id) r) (hr : RCl X.K C r g) (hg : Gl X x) (hm : X.mg x = none) (hv : bootBuiltins x = some (.builtin id)) (ha : DA X C (e :: es) fa) (hn : x ≠ "__name__" := by decide) (hdb : (x == ("__debug__" : Str)) = false := by decide)
    (he : starEach (e :: es) X.env = (false, eval e X.env) :: starEach es X.env := by rfl) (hpl : (backTo pos (starEach es X.env)).any (·.1) = false := by rfl) : DE X C (.Call (.Name x p) (e :: es) [] pos) (eCl g fa) :=
  impE (pe_callB hc hg hm hv ha hn hdb he hpl) fun _ _ _ h => cl_imp hr h
theorem d_callTy (hc : CallR X (.type T) r) (hr : RCl X.K C r g) (hg : Gl X x) (hm : X.mg x = none) (hv : bootBuiltins x = some (.type T)) (ha : DA X C (e :: es) fa) (hn : x ≠ "__name__" := by decide) (hdb : (x == ("__debug__" : Str)) = false := by decide)
    (he : starEach (e :: es) X.env = (false, eval e X.env) :: starEach es X.env := by rfl) (hpl : (backTo pos (starEach es X.env)).any (·.1) = false := by rfl) : DE X C (.Call (.Name x p) (e :: es) [] pos) (eCl g fa) :=
  impE (pe_callTy hc hg hm hv ha hn hdb he hpl) fun _ _ _ h => cl_imp hr h
theorem d_len (hm : X.mg "len" = none) (ha : DA X C [e] fa) (hg : Gl X "len" := by rfl) (he : starEach [e] X.env = (false, eval e X.env) :: starEach [] X.env := by rfl) : DE X C (.Call (.Name "len" p) [e] [] pos) (eCl lenD fa) :=
  d_callB call_lenX r_lenD hg hm PySem.boot_len ha (by decide) (by decide) he rfl
theorem d_intC (hm : X.mg "int" = none) (ha : DA X C [e] fa) (hg : Gl X "int" := by rfl) (he : starEach [e] X.env = (false, eval e X.env) :: starEach [] X.env := by rfl) : DE X C (.Call (.Name "int" p) [e] [] pos) (eCl intDD fa) :=
  d_callTy call_intX r_intDD hg hm PyProof.Rows.boot_int ha (by decide) (by decide) he rfl
theorem d_strC (hm : X.mg "str" = none) (ha : DA X C [e] fa) (hg : Gl X "str" := by rfl) (he : starEach [e] X.env = (false, eval e X.env) :: starEach [] X.env := by rfl) : DE X C (.Call (.Name "str" p) [e] [] pos) (eCl strDD fa) :=
  d_callTy call_str_int r_strDD hg hm PyProof.Rows.boot_str ha (by decide) (by decide) he rfl
theorem d_tupC (hm : X.mg "tuple" = none) (ha : DA X C [e] fa) (hg : Gl X "tuple" := by rfl) (he : starEach [e] X.env = (false, eval e X.env) :: starEach [] X.env := by rfl) : DE X C (.Call (.Name "tuple" p) [e] [] pos) (eCl tupDD fa) :=
  d_callTy call_tuple_of r_tupDD hg hm PyProof.Rows.boot_tuple ha (by decide) (by decide) he rfl
theorem d_listC (hc : X.calm = true) (hm : X.mg "list" = none) (ha : DA X C [e] fa) (hg : Gl X "list" := by rfl) (he : starEach [e] X.env = (false, eval e X.env) :: starEach [] X.env := by rfl) : DE X C (.Call (.Name "list" p) [e] [] pos) (eCl listDD fa) :=
  d_callTy (call_list_dK hc) r_listDD hg hm PyProof.Rows.boot_list ha (by decide) (by decide) he rfl
theorem d_maxC (hc : X.calm = true) (hm : X.mg "max" = none) (ha : DA X C [e] fa) (hg : Gl X "max" := by rfl) (he : starEach [e] X.env = (false, eval e X.env) :: starEach [] X.env := by rfl) : DE X C (.Call (.Name "max" p) [e] [] pos) (eCl maxDD fa) :=
  d_callB (cr_max hc) r_maxDD hg hm PyProof.Rows.boot_max ha (by decide) (by decide) he rfl
end

/-! ### isinstance -/
def kindOf (S : Sto) (d : D) : Option String := match der S d with
  | .non => some "NoneType"
  | .bl _ => some "bool"
  | .int _ => some "int"
  | .str _ => some "str"
  | .tup _ => some "tuple"
  | .lst _ => some "list"
  | _ => none
theorem kind_tyX {K : PySem.W.Frag} {C : Ctx} {M : Mem} {H : Hp} {S : Sto} {d : D} {x : V} {k : String} (w : Wd K C M H S) (r : Rep K M H d x) (h : kindOf S d = some k) : TyX K H x (.type k) := by
  unfold kindOf at h
  split at h
  all_goals first | (cases h; done) | skip
  · rename_i h1; have e := der_ne h1 (fun _ z => by cases z); subst e; cases h; rw [rep_non r]; exact .base .non
  · rename_i h1; have e := der_ne h1 (fun _ z => by cases z); subst e; cases h; rw [rep_bl r]; exact .base (.bl _)
  · rename_i h1; have e := der_ne h1 (fun _ z => by cases z); subst e; cases h; rw [rep_int r]; exact .base (.int _)
  · rename_i h1; have e := der_ne h1 (fun _ z => by cases z); subst e; cases h; rw [rep_str r]; exact .base (.str _)
  · rename_i h1; have e := der_ne h1 (fun _ z => by cases z); subst e; cases h
    obtain ⟨a, vs, rfl, ha, _⟩ := rep_tup r
    exact .base (.tup ha)
  · rename_i h1; cases h
    obtain ⟨a, vs, rfl, ha, _⟩ := w.seqL r h1
    exact .base (.lst ha)
def isiD (T : String) (S : Sto) (d : D) : Option D := (kindOf S d).bind fun k => (kitB k T).map .bl
def isi2D (T U : String) (S : Sto) (d : D) : Option D := (kindOf S d).bind fun k => (kitB k T).bind fun a => (kitB k U).map fun b => .bl (a || b)
section
variable {X : Cx} {C : Ctx} {p p2 p3 p4 p5 pos : Pos} {e : Expr} {fa : EM} {T U : Str} {k : Nat}
theorem pe_tyName {n : String} (hg : Gl X T) (hm : X.mg T = none) (hv : bootBuiltins T = some (.type n)) (hn : T ≠ "__name__" := by decide) (hd : (T == ("__debug__" : Str)) = false := by decide) : PE X (.Name T p) (tC (.ty n)) := pe_bltn hg hm hv rfl hn hd
theorem d_isi {n : String} (hmi : X.mg "isinstance" = none) (hg : Gl X T) (hm : X.mg T = none) (hv : bootBuiltins T = some (.type n)) (he : DE X C e fa) (hgi : Gl X "isinstance" := by rfl) (hn : T ≠ "__name__" := by decide) (hd : (T == ("__debug__" : Str)) = false := by decide)
    (hs : starEach [e, .Name T p2] X.env = (false, eval e X.env) :: starEach [.Name T p2] X.env := by rfl) (hs2 : starEach [.Name T p2] X.env = (false, eval (.Name T p2) X.env) :: starEach [] X.env := by rfl) (hpl : (backTo pos (starEach [.Name T p2] X.env)).any (·.1) = false := by rfl) :
    DE X C (.Call (.Name "isinstance" p) [e, .Name T p2] [] pos) (eUn (isiD n) fa) :=
  impE (pe_callB call_isi hgi hmi PyProof.Rows.boot_isinstance (pa_cons he (pa_cons (pe_tyName hg hm hv hn hd) pa_nil hs2) hs) (by decide) (by decide) hs hpl) fun σ H Q h => by
    obtain ⟨M, env, S, d, S', hE, hW, hf, q⟩ := h
    obtain ⟨p, h1, hf⟩ := Option.bind_eq_some_iff.mp hf
    obtain ⟨z, h2, hf⟩ := Option.map_eq_some_iff.mp hf
    cases hf
    obtain ⟨kk, h3, h4⟩ := Option.bind_eq_some_iff.mp h2
    obtain ⟨b, h5, h6⟩ := Option.map_eq_some_iff.mp h4
    subst h6
    exact ⟨M, env, S, p.1, p.2, hE, hW, h1, fun v M1 H1 g1 w1 r1 => ⟨v, .ty n, .type kk, .type n, b, rfl, .ty n, kind_tyX w1 r1 h3, kit_ty h5, q _ M1 H1 g1 w1 (repB b)⟩⟩
theorem d_isi2 {n m : String} {kt : Nat} (hmi : X.mg "isinstance" = none) (hg : Gl X T) (hm : X.mg T = none) (hv : bootBuiltins T = some (.type n)) (hgU : Gl X U) (hmU : X.mg U = none) (hvU : bootBuiltins U = some (.type m)) (he : DE X C e fa) (hgi : Gl X "isinstance" := by rfl)
    (hn : T ≠ "__name__" := by decide) (hd : (T == ("__debug__" : Str)) = false := by decide) (hnU : U ≠ "__name__" := by decide) (hdU : (U == ("__debug__" : Str)) = false := by decide)
    (hs : starEach [e, .Tuple [.Name T p2, .Name U p3] kt p4] X.env = (false, eval e X.env) :: starEach [.Tuple [.Name T p2, .Name U p3] kt p4] X.env := by rfl) (hs2 : starEach [.Tuple [.Name T p2, .Name U p3] kt p4] X.env = (false, eval (.Tuple [.Name T p2, .Name U p3] kt p4) X.env) :: starEach [] X.env := by rfl)
    (hs3 : starEach [.Name T p2, .Name U p3] X.env = (false, eval (.Name T p2) X.env) :: starEach [.Name U p3] X.env := by rfl) (hs4 : starEach [.Name U p3] X.env = (false, eval (.Name U p3) X.env) :: starEach [] X.env := by rfl)
    (hpl : (backTo pos (starEach [.Tuple [.Name T p2, .Name U p3] kt p4] X.env)).any (·.1) = false := by rfl) :
    DE X C (.Call (.Name "isinstance" p) [e, .Tuple [.Name T p2, .Name U p3] kt p4] [] pos) (eUn (isi2D n m) fa) :=
  impE (pe_callB call_isiT hgi hmi PyProof.Rows.boot_isinstance (pa_cons he (pa_cons (pe_tup (pa_cons (pe_tyName hg hm hv hn hd) (pa_cons (pe_tyName hgU hmU hvU hnU hdU) pa_nil hs4) hs3)) pa_nil hs2) hs) (by decide) (by decide) hs hpl) fun σ H Q h => by
    obtain ⟨M, env, S, d, S', hE, hW, hf, q⟩ := h
    obtain ⟨p, h1, hf⟩ := Option.bind_eq_some_iff.mp hf
    obtain ⟨z, h2, hf⟩ := Option.map_eq_some_iff.mp hf
    cases hf
    obtain ⟨kk, h3, h4⟩ := Option.bind_eq_some_iff.mp h2
    obtain ⟨b, h5, h4⟩ := Option.bind_eq_some_iff.mp h4
    obtain ⟨b2, h6, h7⟩ := Option.map_eq_some_iff.mp h4
    subst h7
    refine ⟨M, env, S, p.1, p.2, hE, hW, h1, fun v M1 H1 g1 w1 r1 => ⟨by rw [line_eq]; simp, fun tp ntp => ?_⟩⟩
    have s1 := same_new (o := .tup [.ty n, .ty m]) ntp
    refine ⟨v, tp, [.ty n, .ty m], .type kk, [.type n, .type m], b || b2, rfl, upd_same, .cons (.ty n) (.cons (.ty m) .nil), kind_tyX (w1.same s1) (r1.mono (.same s1)) h3, ?_, q _ M1 _ (g1.trans (.same s1)) (w1.same s1) (repB _)⟩
    refine kitAny_cons (kit_ty h5) (fun e => ?_) (fun e => by rw [e]; rfl)
    rw [e]
    refine kitAny_cons (kit_ty h6) (fun e => ?_) (fun e => by rw [e]; rfl)
    rw [e]
    exact kitAny_nil
end

/-! ### methods of texts -/
def okSep (b : List Nat) : Bool := !b.isEmpty && b.all (· < 256)
def splitDD (_ : Sto) (a : D) (ds : List D) : Option D := match a, ds with
  | .str x, [.str y] => if okSep y && decide (x.length + 2 ≤ 16777216) then some (.lst ((TL.spl y 0 [] x).map .str)) else none
  | _, _ => none
def strsOf : List D → Option (List (List Nat))
  | [] => some []
  | .str i :: r => (strsOf r).map (i :: ·)
  | _ :: _ => none
theorem strsOf_eq : ∀ {ds : List D} {ns : List (List Nat)}, strsOf ds = some ns → ds = ns.map D.str
  | [], ns, h => by cases h; rfl
  | d :: r, ns, h => by
    cases d <;> first | (cases h; done) | skip
    obtain ⟨m, h1, e⟩ := Option.map_eq_some_iff.mp h
    subst e
    rw [strsOf_eq h1]; rfl
theorem strsOf_map (ns : List (List Nat)) : strsOf (ns.map D.str) = some ns := by
  induction ns with
  | nil => rfl
  | cons n r ih => simp [strsOf, ih]
def joinDD (S : Sto) (a : D) (ds : List D) : Option D := match a, ds with
  | .str x, [d] => (match der S d with
    | .lst xs => (strsOf xs).bind fun ys => if (ys.map (·.length)).sum + ys.length * x.length ≤ 16777216 then some (.str (TL.joinL x ys)) else none
    | _ => none)
  | _, _ => none
def countDD (_ : Sto) (a : D) (ds : List D) : Option D := match a, ds with
  | .str x, [.str y] => if okSep y && decide (y.length ≤ x.length) then some (.int (((TL.spl y 0 [] x).length : Int) - 1)) else none
  | _, _ => none
theorem okSep_ne {b : List Nat} (h : okSep b = true) : b ≠ [] ∧ (mkS b).cps.all (· < 256) = true ∧ ((mkS b).length == 0) = false := by
  unfold okSep at h
  rw [Bool.and_eq_true] at h
  refine ⟨fun e => ?_, by simpa [mkS] using h.2, ?_⟩
  · rw [e] at h; cases h.1
  · rw [mkS_len]
    cases b with
    | nil => cases h.1
    | cons c r => rfl
theorem split_mk {x y : List Nat} (h : okSep y = true) : Txt.split (mkS x) (mkS y) = (TL.spl y 0 [] x).map mkS := by
  obtain ⟨h1, h2, _⟩ := okSep_ne h
  have e := TL.split_spl (mkS x) (mkS y) h1 (TL.kind_ok h2)
  apply TL.map_tl_inj
  rw [e, List.map_map]
  show TL.spl y 0 [] x = _
  have : (TL.tl ∘ mkS) = id := by funext z; rfl
  rw [this, List.map_id]
theorem r_splitDD {K : PySem.W.Frag} {C : Ctx} : RMt K C (fun x xs H Q => ∃ a b, x = .str a ∧ xs = [.str b] ∧ (b.length == 0) = false ∧ a.length + 2 ≤ sizeLine ∧ rNewStrs (Txt.split a b) H Q) splitDD := by
  intro M H S d ds dz x xs Q w rd rx hg q
  unfold splitDD at hg
  split at hg
  · rename_i a b
    split at hg
    · rename_i hc
      rw [Bool.and_eq_true, decide_eq_true_eq] at hc
      cases hg
      obtain ⟨y, rfl, ry⟩ := one_inv rx
      rw [rep_str rd, rep_str ry]
      refine ⟨mkS a, mkS b, rfl, rfl, (okSep_ne hc.1).2.2, by rw [mkS_len, line_eq]; exact hc.2, fun p np => ?_⟩
      rw [split_mk hc.1]
      exact q _ _ (same_new np) (w.newL np RepL.strs)
    · cases hg
  · cases hg
theorem join_mk (x : List Nat) (ys : List (List Nat)) : Txt.join (mkS x) (ys.map mkS) = mkS (TL.joinL x ys) := by
  rw [TL.join_eq]
  apply TL.ext_tl
  rw [TL.tl_join, List.map_map]
  have : (TL.tl ∘ mkS) = id := by funext z; rfl
  rw [this, List.map_id]
theorem r_joinDD {K : PySem.W.Frag} {C : Ctx} : RMt K C (fun x xs H Q => ∃ a p, ∃ ys : List Str, x = .str a ∧ xs = [.ref p] ∧ (SqL K H p (ys.map V.str) ∨ SqT K H p (ys.map V.str)) ∧
    (ys.map (·.length)).sum + ys.length * a.length ≤ 16777216 ∧ Q (.str (Txt.join a ys)) H) joinDD := by
  intro M H S d ds dz x xs Q w rd rx hg q
  unfold joinDD at hg
  split at hg
  · rename_i a b
    split at hg
    · rename_i zs h1
      obtain ⟨ys, h2, hg⟩ := Option.bind_eq_some_iff.mp hg
      split at hg
      · rename_i hl
        cases hg
        obtain ⟨y, rfl, ry⟩ := one_inv rx
        obtain ⟨l, vs, rfl, hl2, rl⟩ := w.seqL ry h1
        rw [strsOf_eq h2] at rl
        have e := rl.strs_inv
        rw [rep_str rd]
        refine ⟨mkS a, l, ys.map mkS, rfl, rfl, .inl (.of (by rw [← e]; exact hl2)), ?_, ?_⟩
        · rw [List.length_map, mkS_len, List.map_map]
          have : ((fun s : Str => s.length) ∘ mkS) = fun l => l.length := by funext z; exact mkS_len z
          rw [this]
          exact hl
        · rw [join_mk]
          exact q _ H (Same.refl H) (repS _)
      · cases hg
    · cases hg
  · cases hg
theorem r_countDD {K : PySem.W.Frag} {C : Ctx} : RMt K C (fun x xs H Q => ∃ a b, x = .str a ∧ xs = [.str b] ∧ Q (.int (Txt.count a b)) H) countDD := by
  intro M H S d ds dz x xs Q w rd rx hg q
  unfold countDD at hg
  split at hg
  · rename_i a b
    split at hg
    · rename_i hc
      rw [Bool.and_eq_true, decide_eq_true_eq] at hc
      cases hg
      obtain ⟨y, rfl, ry⟩ := one_inv rx
      rw [rep_str rd, rep_str ry]
      refine ⟨mkS a, mkS b, rfl, rfl, ?_⟩
      have e := congrArg List.length (split_mk (x := a) hc.1)
      rw [List.length_map] at e
      have hk := TL.kind_ok (x := mkS a) (okSep_ne hc.1).2.1
      have e2 : Txt.count (mkS a) (mkS b) = ((TL.spl b 0 [] a).length : Int) - 1 := by
        rw [← e]
        unfold Txt.split Txt.count
        rw [if_neg (by rw [Bool.or_eq_true, decide_eq_true_eq, decide_eq_true_eq, mkS_len, mkS_len]; intro z; rcases z with z | z; exact absurd z (by omega); exact hk z)]
        split
        · rename_i hz
          rw [List.isEmpty_iff] at hz
          rw [hz]; rfl
        · rw [length_partsBetween]
          omega
      rw [e2]
      exact q _ H (Same.refl H) (repI _)
    · cases hg
  · cases hg
def eM1 (g : Sto → D → List D → Option D) (fo fe : EM) : EM := fun env S => (fo env S).bind fun p => match p.1 with
  | .str _ => (fe env p.2).bind fun q => (g q.2 p.1 [q.1]).map fun z => (z, q.2)
  | _ => none
section
variable {X : Cx} {C : Ctx} {o e : Expr} {fo fe : EM} {pos apos : Pos}
theorem m1_imp {r : V → List V → Hp → VK → Prop} {g : Sto → D → List D → Option D} (hr : RMt X.K C r g) {σ : St} {H : Hp} {Q : VK} (h : lE X.K C (eM1 g fo fe) σ H Q) : tM1 r (lE X.K C fo) (lE X.K C fe) σ H Q := by
  obtain ⟨M, env, S, d, S', hE, hW, hf, q⟩ := h
  obtain ⟨⟨p, S1⟩, h1, hf⟩ := Option.bind_eq_some_iff.mp hf
  refine ⟨M, env, S, p, S1, hE, hW, h1, fun v M1 H1 g1 w1 r1 => ?_⟩
  cases p <;> first | (cases hf; done) | skip
  obtain ⟨p2, h2, hf⟩ := Option.bind_eq_some_iff.mp hf
  obtain ⟨z, h3, hf⟩ := Option.map_eq_some_iff.mp hf
  cases hf
  refine ⟨⟨_, rep_str r1⟩, M1, env, S1, p2.1, p2.2, hE.mono g1, w1, h2, fun u M2 H2 g2 w2 r2 => ?_⟩
  exact hr M2 H2 p2.2 _ [p2.1] d v [u] Q w2 (r1.mono g2) (.cons r2 .nil) h3 fun v3 H3 s3 r3 => q v3 M2 H3 ((g1.trans g2).trans (.same s3)) (w2.same s3) r3
theorem d_split (ho : DE X C o fo) (he : DE X C e fe) (hs : starEach [e] X.env = [(false, eval e X.env)] := by rfl) (hbase : attributeBase o "split" X.env (eval o X.env) = eval o X.env := by rfl) (hline : (apos.endLine == pos.line) = true := by rfl) :
    DE X C (.Call (.Attribute o "split" apos) [e] [] pos) (eM1 splitDD fo fe) := impE (pe_split ho he hs hbase hline) fun _ _ _ h => m1_imp r_splitDD h
theorem d_join (ho : DE X C o fo) (he : DE X C e fe) (hs : starEach [e] X.env = [(false, eval e X.env)] := by rfl) (hbase : attributeBase o "join" X.env (eval o X.env) = eval o X.env := by rfl) (hline : (apos.endLine == pos.line) = true := by rfl) :
    DE X C (.Call (.Attribute o "join" apos) [e] [] pos) (eM1 joinDD fo fe) := impE (pe_join ho he hs hbase hline) fun _ _ _ h => m1_imp r_joinDD h
theorem d_count (ho : DE X C o fo) (he : DE X C e fe) (hs : starEach [e] X.env = [(false, eval e X.env)] := by rfl) (hbase : attributeBase o "count" X.env (eval o X.env) = eval o X.env := by rfl) (hline : (apos.endLine == pos.line) = true := by rfl) :
    DE X C (.Call (.Attribute o "count" apos) [e] [] pos) (eM1 countDD fo fe) := impE (pe_m1 PySem.F.slot_str_count PySem.F.type_str_count mt_count ho he hs hbase hline) fun _ _ _ h => m1_imp r_countDD h
end
end L2.DL
-- part DStmt
set_option maxHeartbeats 2000000
/-! DStmt: exceptions, promises, calls of defs, statements. -/
namespace L2.DL
open PySem PySem.Spec PyProof.Rows

inductive Ex where
  | bad (n : Int)
  | loss
def ExRep (C : Ctx) (H : Hp) : Ex → Value → Option Addr → Prop
  | .bad n, cls, dd => cls = .ref C.CB ∧ ∃ a, dd = some a ∧ H a = some (.xd [("line", .int n)])
  | .loss, cls, dd => cls = .ref C.CL ∧ dd = none
abbrev XM := DEnv → Sto → Option (Except Ex D × Sto)
abbrev DF := List D → Sto → Option (Except Ex D × Sto)
inductive Out where
  | nx
  | rt (d : D)
  | ex (x : Ex)
abbrev SM := DEnv → Sto → Option (Out × DEnv × Sto)
section
variable (K : PySem.W.Frag) (C : Ctx)
/-- what is wanted behind a call: a value, or an exception -/
def CallPost (M : Mem) (H : Hp) (r : Except Ex D) (S' : Sto) (Q : VK) (E : XK) : Prop :=
  match r with
  | .ok d => ∀ v M' H', Gr M H M' H' → Wd K C M' H' S' → Rep K M' H' d v → Q v H'
  | .error x => ∀ cls dd M' H', Gr M H M' H' → Wd K C M' H' S' → ExRep C H' x cls dd → E cls dd H'
def spD (n : Nat) (F : DF) : Sp := fun vs H Q E => ∃ M S ds r S', ds.length = n ∧ Wd K C M H S ∧ RepL K M H ds vs ∧ F ds S = some (r, S') ∧ CallPost K C M H r S' Q E
/-- an expression that may raise -/
def lX (W : WX) (f : XM) : TE := fun σ H Q => ∃ M env S r S', EnvOk K M H env σ ∧ Wd K C M H S ∧ f env S = some (r, S') ∧ CallPost K C M H r S' Q (fun cls dd H' => W cls dd σ H')
/-- what is wanted behind a statement -/
def StPost (W : WX) (D : Ends) (M : Mem) (H : Hp) (o : Out) (env' : DEnv) (S' : Sto) : Prop :=
  match o with
  | .nx => ∀ M' H' σ', Gr M H M' H' → Wd K C M' H' S' → EnvOk K M' H' env' σ' → D.nx σ' H'
  | .rt d => ∀ v M' H', Gr M H M' H' → Wd K C M' H' S' → Rep K M' H' d v → D.rt v H'
  | .ex x => ∀ cls dd M' H' σ', Gr M H M' H' → Wd K C M' H' S' → EnvOk K M' H' env' σ' → ExRep C H' x cls dd → W cls dd σ' H'
def lS (W : WX) (f : SM) : TS := fun D σ H => ∃ M env S o env' S', EnvOk K M H env σ ∧ Wd K C M H S ∧ f env S = some (o, env', S') ∧ StPost K C W D M H o env' S'
end
theorem StPost.after {K : PySem.W.Frag} {C : Ctx} {W : WX} {D : Ends} {M M1 : Mem} {H H1 : Hp} {o : Out} {env' : DEnv} {S' : Sto} (q : StPost K C W D M H o env' S') (g : Gr M H M1 H1) : StPost K C W D M1 H1 o env' S' := by
  cases o with
  | nx => exact fun M2 H2 σ2 g2 w2 e2 => q M2 H2 σ2 (g.trans g2) w2 e2
  | rt d => exact fun v M2 H2 g2 w2 e2 => q v M2 H2 (g.trans g2) w2 e2
  | ex x => exact fun cls dd M2 H2 σ2 g2 w2 e2 r2 => q cls dd M2 H2 σ2 (g.trans g2) w2 e2 r2
abbrev DX (X : Cx) (C : Ctx) (W : WX) (e : Expr) (f : XM) : Prop := PE X e (lX X.K C W f)
abbrev DS (X : Cx) (C : Ctx) (W : WX) (st : Stmt) (f : SM) : Prop := PS X st (lS X.K C W f)
abbrev DSs (X : Cx) (C : Ctx) (W : WX) (st : List Stmt) (f : SM) : Prop := PSs X st (lS X.K C W f)

/-! ### a def as it is called -/
structure DFn (P : Program) (w : World) (K : PySem.W.Frag) (mg : Str → Option Value) (base : Heap) (C : Ctx) (CX : CXT) (k : Nat) (x : Str) (n : Nat) (F : DF) : Prop where
  ex : ∃ f fd ps, FnOk P w K mg base CX k f fd ps (spD K C n F) ∧ mg x = some (.ref f) ∧ PySem.W.keepIn K (.ref f) = true ∧ Binds K fd ps []
/-- .. with one default, an int -/
structure DFnD (P : Program) (w : World) (K : PySem.W.Frag) (mg : Str → Option Value) (base : Heap) (C : Ctx) (CX : CXT) (k : Nat) (x : Str) (n : Nat) (i : Int) (F : DF) : Prop where
  ex : ∃ f fd ps u, FnOk P w K mg base CX k f fd ps (spD K C n F) ∧ mg x = some (.ref f) ∧ PySem.W.keepIn K (.ref f) = true ∧ Binds K fd ps [u] ∧ RelV (.int i) u
section
variable {P : Program} {w : World} {K : PySem.W.Frag} {mg : Str → Option Value} {base : Heap} {C : Ctx} {CX : CXT} {j k n : Nat} {x : Str} {F : DF}
theorem DFn.mono (G : DFn P w K mg base C CX j x n F) (h : j ≤ k) : DFn P w K mg base C CX k x n F := by
  obtain ⟨f, fd, ps, h1, h2⟩ := G.ex
  exact ⟨f, fd, ps, h1.mono h, h2⟩
end
def eCall (F : DF) (fa : AM) : EM := fun env S => (fa env S).bind fun p => (F p.1 p.2).bind fun q => match q.1 with
  | .ok d => some (d, q.2)
  | .error _ => none
def eCallD (F : DF) (d0 : D) (fa : AM) : EM := fun env S => (fa env S).bind fun p => (F (p.1 ++ [d0]) p.2).bind fun q => match q.1 with
  | .ok d => some (d, q.2)
  | .error _ => none
def xCall (F : DF) (fa : AM) : XM := fun env S => (fa env S).bind fun p => F p.1 p.2
section
variable {X : Cx} {C : Ctx} {CX : CXT} {k n : Nat} {x : Str} {F : DF} {e : Expr} {es : List Expr} {fa : AM} {p pos : Pos}
theorem spD_len {K : PySem.W.Frag} {ps : List Str} {f : Addr} {fd : FuncData} (F0 : FnOk X.prog X.w X.K X.mg X.base CX k f fd ps (spD X.K C n F)) : True := trivial
theorem d_call (G : DFn X.prog X.w X.K X.mg X.base C CX k x n F) (hr : Room k X.A) (hx : Passes CX X E0) (ha : DA X C (e :: es) fa) (hn : ∀ env S p, fa env S = some p → p.1.length = n) (hg : Gl X x := by rfl)
    (hdb : (x == ("__debug__" : Str)) = false := by decide) (he : starEach (e :: es) X.env = (false, eval e X.env) :: starEach es X.env := by rfl) (hpl : (backTo pos (starEach es X.env)).any (·.1) = false := by rfl) :
    DE X C (.Call (.Name x p) (e :: es) [] pos) (eCall F fa) := by
  obtain ⟨f, fd, ps, h1, h2, h3, h4⟩ := G.ex
  refine impE (pe_call h1 hr hg h2 h3 h4 .nil hx ha hdb he hpl) fun σ H Q h => ?_
  obtain ⟨M, env, S, d, S', hE, hW, hf, q⟩ := h
  obtain ⟨p, q1, hf⟩ := Option.bind_eq_some_iff.mp hf
  obtain ⟨⟨r, S2⟩, q2, hf⟩ := Option.bind_eq_some_iff.mp hf
  cases r <;> cases hf
  refine ⟨M, env, S, p.1, p.2, hE, hW, q1, fun vs M1 H1 g1 w1 r1 => ⟨M1, p.2, p.1, .ok d, _, hn _ _ _ q1, w1, by rw [List.append_nil]; exact r1, q2, fun v M2 H2 g2 w2 r2 => q v M2 H2 (g1.trans g2) w2 r2⟩⟩
theorem d_callD {i : Int} (G : DFnD X.prog X.w X.K X.mg X.base C CX k x n i F) (hr : Room k X.A) (hx : Passes CX X E0) (ha : DA X C (e :: es) fa) (hn : ∀ env S p, fa env S = some p → p.1.length + 1 = n) (hg : Gl X x := by rfl)
    (hdb : (x == ("__debug__" : Str)) = false := by decide) (he : starEach (e :: es) X.env = (false, eval e X.env) :: starEach es X.env := by rfl) (hpl : (backTo pos (starEach es X.env)).any (·.1) = false := by rfl) :
    DE X C (.Call (.Name x p) (e :: es) [] pos) (eCallD F (.int i) fa) := by
  obtain ⟨f, fd, ps, u, h1, h2, h3, h4, h5⟩ := G.ex
  refine impE (pe_call h1 hr hg h2 h3 h4 (.cons h5 .nil) hx ha hdb he hpl) fun σ H Q h => ?_
  obtain ⟨M, env, S, d, S', hE, hW, hf, q⟩ := h
  obtain ⟨p, q1, hf⟩ := Option.bind_eq_some_iff.mp hf
  obtain ⟨⟨r, S2⟩, q2, hf⟩ := Option.bind_eq_some_iff.mp hf
  cases r <;> cases hf
  refine ⟨M, env, S, p.1, p.2, hE, hW, q1, fun vs M1 H1 g1 w1 r1 => ⟨M1, p.2, p.1 ++ [.int i], .ok d, _, by rw [List.length_append]; exact hn _ _ _ q1, w1, r1.snoc (repI i), q2, fun v M2 H2 g2 w2 r2 => q v M2 H2 (g1.trans g2) w2 r2⟩⟩
/-- a call that may raise -/
theorem x_call {W : WX} (G : DFn X.prog X.w X.K X.mg X.base C (L2.CX X.prog X.w) k x n F) (hr : Room k X.A) (tk : Takes X W) (ha : DA X C (e :: es) fa) (hn : ∀ env S p, fa env S = some p → p.1.length = n) (hg : Gl X x := by rfl)
    (hdb : (x == ("__debug__" : Str)) = false := by decide) (he : starEach (e :: es) X.env = (false, eval e X.env) :: starEach es X.env := by rfl) (hpl : (backTo pos (starEach es X.env)).any (·.1) = false := by rfl) :
    DX X C W (.Call (.Name x p) (e :: es) [] pos) (xCall F fa) := by
  obtain ⟨f, fd, ps, h1, h2, h3, h4⟩ := G.ex
  refine impE (pe_callSD (E := fun σ => fun cls d H => W cls d σ H) h1 hr hg h2 h3 h4 .nil (fun σ => passAt tk σ) ha hdb he hpl) fun σ H Q h => ?_
  obtain ⟨M, env, S, r, S', hE, hW, hf, q⟩ := h
  obtain ⟨p, q1, hf⟩ := Option.bind_eq_some_iff.mp hf
  refine ⟨M, env, S, p.1, p.2, hE, hW, q1, fun vs M1 H1 g1 w1 r1 => ⟨M1, p.2, p.1, r, S', hn _ _ _ q1, w1, by rw [List.append_nil]; exact r1, hf, ?_⟩⟩
  cases r with
  | ok d => exact fun v M2 H2 g2 w2 r2 => q v M2 H2 (g1.trans g2) w2 r2
  | error x => exact fun cls dd M2 H2 g2 w2 r2 => q cls dd M2 H2 (g1.trans g2) w2 r2
/-- lengths of argument lists -/
theorem len_nil : ∀ env S p, aNil env S = some p → p.1.length = 0 := fun _ _ _ h => by cases h; rfl
theorem len_cons {fe : EM} {fr : AM} {n : Nat} (h : ∀ env S p, fr env S = some p → p.1.length = n) : ∀ env S p, aCons fe fr env S = some p → p.1.length = n + 1 := fun env S p hp => by
  obtain ⟨a, _, hp⟩ := Option.bind_eq_some_iff.mp hp
  obtain ⟨b, h2, hp⟩ := Option.map_eq_some_iff.mp hp
  subst hp
  show (a.1 :: b.1).length = _
  rw [List.length_cons, h _ _ _ h2]
end

/-! ### statements -/
def sNil : SM := fun env S => some (.nx, env, S)
def sSeq (f g : SM) : SM := fun env S => (f env S).bind fun p => match p.1 with
  | .nx => g p.2.1 p.2.2
  | o => some (o, p.2)
def sSet (i : Nat) (f : EM) : SM := fun env S => (f env S).map fun p => (.nx, env.set i (some p.1), p.2)
def sSetX (i : Nat) (f : XM) : SM := fun env S => (f env S).map fun p => match p.1 with
  | .ok d => (.nx, env.set i (some d), p.2)
  | .error x => (.ex x, env, p.2)
def sRet (f : EM) : SM := fun env S => (f env S).map fun p => (.rt p.1, env, p.2)
def sRetX (f : XM) : SM := fun env S => (f env S).map fun p => match p.1 with
  | .ok d => (.rt d, env, p.2)
  | .error x => (.ex x, env, p.2)
def sExpr (f : EM) : SM := fun env S => (f env S).map fun p => (.nx, env, p.2)
def sIf (c : BM) (f g : SM) : SM := fun env S => (c env S).bind fun p => if p.1 = true then f env p.2 else g env p.2
def sNever : SM := fun _ _ => none
def setAll : DEnv → List Nat → List D → DEnv
  | env, i :: is, d :: ds => setAll (env.set i (some d)) is ds
  | env, _, _ => env
def sPar (is : List Nat) (f : AM) : SM := fun env S => (f env S).bind fun p => if p.1.length = is.length then some (.nx, setAll env is p.1, p.2) else none
/-- (a, b, ..) = a tuple -/
def gTupD (is : List Nat) (d : D) (env : DEnv) : Option DEnv := match d with
  | .tup ds => if ds.length = is.length then some (setAll env is ds) else none
  | _ => none
def gNameD (i : Nat) (d : D) (env : DEnv) : Option DEnv := some (env.set i (some d))
def sAsg (g : D → DEnv → Option DEnv) (f : EM) : SM := fun env S => (f env S).bind fun p => (g p.1 env).map fun env' => (.nx, env', p.2)
section
variable {X : Cx} {C : Ctx} {W : WX} {st : Stmt} {rest a b : List Stmt} {e : Expr} {es : List Expr} {f g : SM} {fe : EM} {fx : XM} {fa : AM} {c : BM} {ce : Expr} {pos pos' : Pos}
theorem ds_nil : DSs X C W [] sNil := impSs pss_nil fun D σ H h => by
  obtain ⟨M, env, S, o, env', S', hE, hW, hf, q⟩ := h
  cases hf
  exact q M H σ .refl hW hE
theorem ds_cons (h1 : DS X C W st f) (h2 : DSs X C W rest g) : DSs X C W (st :: rest) (sSeq f g) := impSs (pss_cons h1 h2) fun D σ H h => by
  obtain ⟨M, env, S, o, env', S', hE, hW, hf, q⟩ := h
  obtain ⟨⟨o1, env1, S1⟩, h1, hf⟩ := Option.bind_eq_some_iff.mp hf
  refine ⟨M, env, S, o1, env1, S1, hE, hW, h1, ?_⟩
  cases o1 with
  | nx =>
    intro M1 H1 σ1 g1 w1 e1
    exact ⟨M1, env1, S1, o, env', S', e1, w1, hf, q.after g1⟩
  | rt d => cases hf; exact q
  | ex x => cases hf; exact q
theorem ds_one (h1 : DS X C W st f) : DSs X C W [st] f := pss_one h1
theorem ds_pass : DS X C W (.Pass pos) sNil := impS ps_pass fun D σ H h => by
  obtain ⟨M, env, S, o, env', S', hE, hW, hf, q⟩ := h
  cases hf
  exact q M H σ .refl hW hE
theorem ds_never : DS X C W st sNever := impS ps_never fun D σ H h => by
  obtain ⟨M, env, S, o, env', S', hE, hW, hf, q⟩ := h
  cases hf
theorem ds_set {i : Nat} {x : Str} (hN : X.N.Nodup) (he : DE X C e fe) (hi : X.N[i]? = some x := by rfl) (hx : Loc X.env.scope x := by first | exact Or.inl rfl | exact Or.inr rfl) (hs : swapsWith e (some (.Name x pos')) pos.line X.env = pure false := by rfl)
    (hf : X.fn x = true ∨ X.env.scope.names.lookup x = some .local := by first | exact .inl rfl | exact .inr rfl | assumption) : DS X C W (.Assign [.Name x pos'] e pos) (sSet i fe) := impS (ps_set hN hi hx he hs hf) fun D σ H h => by
  obtain ⟨M, env, S, o, env', S', hE, hW, hf, q⟩ := h
  obtain ⟨p, h1, hf⟩ := Option.map_eq_some_iff.mp hf
  cases hf
  exact ⟨M, env, S, p.1, p.2, hE, hW, h1, fun v M1 H1 g1 w1 r1 => q M1 H1 _ g1 w1 ((hE.mono g1).set i r1)⟩
theorem ds_setX {i : Nat} {x : Str} (hN : X.N.Nodup) (he : DX X C W e fx) (hi : X.N[i]? = some x := by rfl) (hx : Loc X.env.scope x := by first | exact Or.inl rfl | exact Or.inr rfl) (hs : swapsWith e (some (.Name x pos')) pos.line X.env = pure false := by rfl)
    (hf : X.fn x = true ∨ X.env.scope.names.lookup x = some .local := by first | exact .inl rfl | exact .inr rfl | assumption) : DS X C W (.Assign [.Name x pos'] e pos) (sSetX i fx) := impS (ps_set hN hi hx he hs hf) fun D σ H h => by
  obtain ⟨M, env, S, o, env', S', hE, hW, hf, q⟩ := h
  obtain ⟨⟨r, S1⟩, h1, hf⟩ := Option.map_eq_some_iff.mp hf
  refine ⟨M, env, S, r, S1, hE, hW, h1, ?_⟩
  cases r with
  | ok d => cases hf; exact fun v M1 H1 g1 w1 r1 => q M1 H1 _ g1 w1 ((hE.mono g1).set i r1)
  | error x => cases hf; exact fun cls dd M1 H1 g1 w1 r1 => q cls dd M1 H1 σ g1 w1 (hE.mono g1) r1
theorem ds_ret (he : DE X C e fe) : DS X C W (.Return (some e) pos) (sRet fe) := impS (ps_ret he) fun D σ H h => by
  obtain ⟨M, env, S, o, env', S', hE, hW, hf, q⟩ := h
  obtain ⟨p, h1, hf⟩ := Option.map_eq_some_iff.mp hf
  cases hf
  exact ⟨M, env, S, p.1, p.2, hE, hW, h1, fun v M1 H1 g1 w1 r1 => q v M1 H1 g1 w1 r1⟩
theorem ds_retX (he : DX X C W e fx) : DS X C W (.Return (some e) pos) (sRetX fx) := impS (ps_ret he) fun D σ H h => by
  obtain ⟨M, env, S, o, env', S', hE, hW, hf, q⟩ := h
  obtain ⟨⟨r, S1⟩, h1, hf⟩ := Option.map_eq_some_iff.mp hf
  refine ⟨M, env, S, r, S1, hE, hW, h1, ?_⟩
  cases r with
  | ok d => cases hf; exact fun v M1 H1 g1 w1 r1 => q v M1 H1 g1 w1 r1
  | error x => cases hf; exact fun cls dd M1 H1 g1 w1 r1 => q cls dd M1 H1 σ g1 w1 (hE.mono g1) r1
theorem ds_expr (he : DE X C e fe) (hs : swapsWith e none pos.line X.env = pure false := by rfl) : DS X C W (.Expr e pos) (sExpr fe) := impS (ps_expr he hs) fun D σ H h => by
  obtain ⟨M, env, S, o, env', S', hE, hW, hf, q⟩ := h
  obtain ⟨p, h1, hf⟩ := Option.map_eq_some_iff.mp hf
  cases hf
  exact ⟨M, env, S, p.1, p.2, hE, hW, h1, fun v M1 H1 g1 w1 r1 => q M1 H1 σ g1 w1 (hE.mono g1)⟩
theorem ds_if (hc : DT X C ce c) (ha : DSs X C W a f) (hb : DSs X C W b g) : DS X C W (.If ce a b pos) (sIf c f g) := impS (ps_if hc ha hb) fun D σ H h => by
  obtain ⟨M, env, S, o, env', S', hE, hW, hf, q⟩ := h
  obtain ⟨⟨k, S1⟩, h1, hf⟩ := Option.bind_eq_some_iff.mp hf
  refine ⟨M, env, S, k, S1, hE, hW, h1, fun M1 H1 g1 w1 => ?_⟩
  cases k with
  | true =>
    rw [if_pos rfl] at hf ⊢
    exact ⟨M1, env, S1, o, env', S', hE.mono g1, w1, hf, q.after g1⟩
  | false =>
    rw [if_neg Bool.false_ne_true] at hf ⊢
    exact ⟨M1, env, S1, o, env', S', hE.mono g1, w1, hf, q.after g1⟩
/-- a, b = x, y -/
theorem ds_par2 {i j : Nat} {x y : Str} {a b : Expr} {px py pt : Pos} {kt k2 pt2} (hc : X.calm = true) (hN : X.N.Nodup) (ha : DA X C [a, b] fa) (hi : X.N[i]? = some x := by rfl) (hj : X.N[j]? = some y := by rfl) (hij : i ≠ j := by decide)
    (hx : X.env.scope.names.lookup x = some .local := by rfl) (hy : X.env.scope.names.lookup y = some .local := by rfl)
    (hw : swappedStores [.Tuple [.Name x px, .Name y py] kt pt] (.Tuple [a, b] k2 pt2) X.env = pure (some [x, y]) := by rfl)
    (hs : swapsWithSole [.Tuple [.Name x px, .Name y py] kt pt] (.Tuple [a, b] k2 pt2) pos.line X.env = pure false := by rfl) :
    DS X C W (.Assign [.Tuple [.Name x px, .Name y py] kt pt] (.Tuple [a, b] k2 pt2) pos) (sPar [i, j] fa) := impS (ps_par hc hN hi hj hij hx hy ha hw hs) fun D σ H h => by
  obtain ⟨M, env, S, o, env', S', hE, hW, hf, q⟩ := h
  obtain ⟨⟨ds, S1⟩, h1, hf⟩ := Option.bind_eq_some_iff.mp hf
  split at hf
  · rename_i hl
    cases hf
    refine ⟨M, env, S, ds, S1, hE, hW, h1, fun vs M1 H1 g1 w1 r1 => ?_⟩
    match ds, hl with
    | [d1, d2], _ =>
      obtain ⟨v1, r, rfl, k1, t⟩ := r1.cons_inv
      obtain ⟨v2, r, rfl, k2, t⟩ := t.cons_inv
      rw [t.nil_inv]
      exact ⟨v1, v2, rfl, q M1 H1 _ g1 w1 (((hE.mono g1).set i k1).set j k2)⟩
  · cases hf
theorem ds_par3 {i j l : Nat} {x y z : Str} {a b c : Expr} {px py pz pt : Pos} {kt k2 pt2} (hc : X.calm = true) (hN : X.N.Nodup) (ha : DA X C [a, b, c] fa) (hi : X.N[i]? = some x := by rfl) (hj : X.N[j]? = some y := by rfl) (hl : X.N[l]? = some z := by rfl) (hij : i ≠ j := by decide) (hil : i ≠ l := by decide) (hjl : j ≠ l := by decide)
    (hx : X.env.scope.names.lookup x = some .local := by rfl) (hy : X.env.scope.names.lookup y = some .local := by rfl) (hz : X.env.scope.names.lookup z = some .local := by rfl)
    (hw : swappedStores [.Tuple [.Name x px, .Name y py, .Name z pz] kt pt] (.Tuple [a, b, c] k2 pt2) X.env = pure (some [x, y, z]) := by rfl)
    (hs : swapsWithSole [.Tuple [.Name x px, .Name y py, .Name z pz] kt pt] (.Tuple [a, b, c] k2 pt2) pos.line X.env = pure false := by rfl) :
    DS X C W (.Assign [.Tuple [.Name x px, .Name y py, .Name z pz] kt pt] (.Tuple [a, b, c] k2 pt2) pos) (sPar [i, j, l] fa) := impS (ps_par3 hc hN hi hj hl hij hil hjl hx hy hz ha hw hs) fun D σ H h => by
  obtain ⟨M, env, S, o, env', S', hE, hW, hf, q⟩ := h
  obtain ⟨⟨ds, S1⟩, h1, hf⟩ := Option.bind_eq_some_iff.mp hf
  split at hf
  · rename_i hl
    cases hf
    refine ⟨M, env, S, ds, S1, hE, hW, h1, fun vs M1 H1 g1 w1 r1 => ?_⟩
    match ds, hl with
    | [d1, d2, d3], _ =>
      obtain ⟨v1, r, rfl, k1, t⟩ := r1.cons_inv
      obtain ⟨v2, r, rfl, k2, t⟩ := t.cons_inv
      obtain ⟨v3, r, rfl, k3, t⟩ := t.cons_inv
      rw [t.nil_inv]
      exact ⟨v1, v2, v3, rfl, q M1 H1 _ g1 w1 ((((hE.mono g1).set i k1).set j k2).set l k3)⟩
  · cases hf
end

/-! ### targets -/
/-- slots is alone are set -/
def Only (is : List Nat) (σ σ' : St) : Prop := ∀ vs : List Nat, (∀ i ∈ is, i ∈ vs) → L2.wipe σ' vs = L2.wipe σ vs
def lG (K : PySem.W.Frag) (is : List Nat) (g : D → DEnv → Option DEnv) : TG := fun v σ H Q => ∃ M env d env', EnvOk K M H env σ ∧ Rep K M H d v ∧ g d env = some env' ∧ ∀ σ', EnvOk K M H env' σ' → Only is σ σ' → Q σ' H
def lGs (K : PySem.W.Frag) (is : List Nat) : TGs := fun vs σ H Q => ∃ M env ds, EnvOk K M H env σ ∧ RepL K M H ds vs ∧ ds.length = is.length ∧ ∀ σ', EnvOk K M H (setAll env is ds) σ' → Only is σ σ' → Q σ' H
abbrev DG (X : Cx) (e : Expr) (is : List Nat) (g : D → DEnv → Option DEnv) : Prop := PG X e (lG X.K is g)
abbrev DGs (X : Cx) (es : List Expr) (is : List Nat) : Prop := PGs X es (lGs X.K is)
theorem wipe_set {σ : St} {i : Nat} {x : Option V} : ∀ {vs : List Nat}, i ∈ vs → L2.wipe (σ.set i x) vs = L2.wipe σ vs
  | v :: vs, h => by
    show (L2.wipe (σ.set i x) vs).set v none = (L2.wipe σ vs).set v none
    by_cases hi : i ∈ vs
    · rw [wipe_set hi]
    · have e : i = v := by
        rcases List.mem_cons.mp h with e | h
        · exact e
        · exact absurd h hi
      subst e
      have : ∀ (vs : List Nat), i ∉ vs → (L2.wipe (σ.set i x) vs).set i none = (L2.wipe σ vs).set i none := by
        intro vs
        induction vs with
        | nil => intro _; show (σ.set i x).set i none = σ.set i none; rw [List.set_set]
        | cons w ws ih =>
          intro hn
          rw [List.mem_cons, not_or] at hn
          show ((L2.wipe (σ.set i x) ws).set w none).set i none = ((L2.wipe σ ws).set w none).set i none
          rw [List.set_comm _ _ (Ne.symm hn.1), List.set_comm _ _ (Ne.symm hn.1), ih hn.2]
      exact this vs hi
theorem Only.set (σ : St) (i : Nat) (x : Option V) : Only [i] σ (σ.set i x) := fun vs h => wipe_set (h i List.mem_cons_self)
theorem Only.refl (σ : St) : Only [] σ σ := fun _ _ => rfl
theorem Only.cons {σ σ1 σ2 : St} {i : Nat} {is : List Nat} (a : Only [i] σ σ1) (b : Only is σ1 σ2) : Only (i :: is) σ σ2 := fun vs h =>
  (b vs fun j hj => h j (List.mem_cons_of_mem _ hj)).trans (a vs fun j hj => by
    have e : j = i := by simpa using hj
    rw [e]; exact h i List.mem_cons_self)
theorem wipe_wipe (σ : St) (vs : List Nat) : L2.wipe (L2.wipe σ vs) vs = L2.wipe σ vs := by
  have : ∀ ws, (∀ w ∈ ws, w ∈ vs) → L2.wipe (L2.wipe σ ws) vs = L2.wipe σ vs := by
    intro ws
    induction ws with
    | nil => intro _; rfl
    | cons w ws ih =>
      intro h
      show L2.wipe ((L2.wipe σ ws).set w none) vs = _
      rw [wipe_set (h w List.mem_cons_self)]
      exact ih fun x hx => h x (List.mem_cons_of_mem _ hx)
  exact this vs fun _ h => h
section
variable {X : Cx} {C : Ctx} {W : WX} {pos : Pos} {e tg : Expr} {es : List Expr} {fe : EM} {is : List Nat}
theorem impG {t t' : TG} (h : PG X e t) (i : ∀ v σ H Q, t' v σ H Q → t v σ H Q) : PG X e t' := ⟨fun pins s σ H v u Q I r hw => h.run pins s σ H v u Q I r (i v σ H Q hw)⟩
theorem impGs {t t' : TGs} (h : PGs X es t) (i : ∀ v σ H Q, t' v σ H Q → t v σ H Q) : PGs X es t' := ⟨fun pins s σ H v u Q I r hw => h.run pins s σ H v u Q I r (i v σ H Q hw)⟩
theorem g_name {i : Nat} {x : Str} (hN : X.N.Nodup) (hi : X.N[i]? = some x := by rfl) (hx : Loc X.env.scope x := by first | exact Or.inl rfl | exact Or.inr rfl) (hf : X.fn x = true ∨ X.env.scope.names.lookup x = some .local := by first | exact .inl rfl | exact .inr rfl | assumption) : DG X (.Name x pos) [i] (gNameD i) :=
  impG (pg_name hN hi hx hf) fun v σ H Q h => by
    obtain ⟨M, env, d, env', hE, r, hg, q⟩ := h
    cases hg
    exact q _ (hE.set i r) (Only.set σ i _)
theorem gs_nil : DGs X [] [] := impGs pgs_nil fun v σ H Q h => by
  obtain ⟨M, env, ds, hE, r, hl, q⟩ := h
  have e := List.eq_nil_of_length_eq_zero hl
  subst e
  exact ⟨r.nil_inv, q σ hE (Only.refl σ)⟩
theorem gs_cons {i : Nat} (h1 : DG X e [i] (gNameD i)) (h2 : DGs X es is) (hs : (assignEach (e :: es) X.env).map (·.2) = assign e X.env :: (assignEach es X.env).map (·.2) := by rfl) : DGs X (e :: es) (i :: is) := impGs (pgs_cons h1 h2 hs) fun v σ H Q h => by
  obtain ⟨M, env, ds, hE, r, hl, q⟩ := h
  cases ds with
  | nil => cases hl
  | cons d ds =>
    obtain ⟨x, xs, rfl, r1, r2⟩ := r.cons_inv
    exact ⟨x, xs, rfl, M, env, d, _, hE, r1, rfl, fun σ' e' o => ⟨M, _, ds, e', r2, by simpa using hl, fun σ2 e2 o2 => q σ2 e2 (o.cons o2)⟩⟩
theorem g_tup {k : Nat} (hc : X.calm = true) (h : DGs X es is) (hn : (assignEach es X.env).length = is.length := by rfl) (hst : (assignEach es X.env).findIdx? (·.1) = none := by rfl) : DG X (.Tuple es k pos) is (gTupD is) :=
  impG (pg_tup hc h hn hst) fun v σ H Q h => by
    obtain ⟨M, env, d, env', hE, r, hg, q⟩ := h
    unfold gTupD at hg
    split at hg
    · rename_i ds
      split at hg
      · rename_i hl
        cases hg
        obtain ⟨a, xs, rfl, ha, ra⟩ := rep_tup r
        exact ⟨a, xs, rfl, .of ha, by rw [← ra.length]; exact hl, M, env, ds, hE, ra, hl, q⟩
      · cases hg
    · cases hg
theorem ds_asg {g : D → DEnv → Option DEnv} (hg : DG X tg is g) (he : DE X C e fe) (hs : swapsWithSole [tg] e pos.line X.env = pure false := by rfl) (hw : swappedStores [tg] e X.env = pure none := by rfl)
    (h1 : (assignEach [tg] X.env).map (·.2) = [assign tg X.env] := by rfl) : DS X C W (.Assign [tg] e pos) (sAsg g fe) := impS (ps_asg he hg hs hw h1) fun D σ H h => by
  obtain ⟨M, env, S, o, env', S', hE, hW, hf, q⟩ := h
  obtain ⟨p, h1, hf⟩ := Option.bind_eq_some_iff.mp hf
  obtain ⟨env1, h2, hf⟩ := Option.map_eq_some_iff.mp hf
  cases hf
  exact ⟨M, env, S, p.1, p.2, hE, hW, h1, fun v M1 H1 g1 w1 r1 => ⟨M1, env, p.1, env', hE.mono g1, r1, h2, fun σ' e' _ => q M1 H1 σ' g1 w1 e'⟩⟩
end
end L2.DL
-- part DLoop
set_option maxHeartbeats 2000000
/-! DLoop: what is walked; for; list comprehensions. -/
namespace L2.DL
open PySem PySem.Spec PyProof.Rows

/-- what a datum leans on is kept -/
structure Mv (M : Mem) (H : Hp) (M' : Mem) (H' : Hp) : Prop where
  keep : ∀ a o, H a = some o → a ∉ M → (∀ ps, o ≠ .tbl ps) → a ∉ M' ∧ H' a = some o
  cell : ∀ (n : Nat) (a : Addr), M.c[n]? = some a → M'.c[n]? = some a
section
variable {K : PySem.W.Frag} {M M1 : Mem} {H H1 : Hp}
theorem Gr.mv (g : Gr M H M1 H1) : Mv M H M1 H1 := ⟨fun a o h hn ht => ⟨g.notin h hn ht, g.keep a o h hn ht⟩, fun n a h => by
  obtain ⟨N, e⟩ := g.ext
  rw [e, List.getElem?_append_left (List.getElem?_eq_some_iff.mp h).1]; exact h⟩
mutual
theorem Rep.move (g : Mv M H M1 H1) : ∀ {d : D} {v : V}, Rep K M H d v → Rep K M1 H1 d v
  | .non, v, h => by simpa [Rep] using h
  | .bl b, v, h => by simpa [Rep] using h
  | .int b, v, h => by simpa [Rep] using h
  | .str b, v, h => by simpa [Rep] using h
  | .tup ds, v, h => by
    simp only [Rep] at h ⊢
    obtain ⟨a, xs, e, hn, h1, h2⟩ := h
    obtain ⟨k1, k2⟩ := g.keep a _ h1 hn (fun _ z => by cases z)
    exact ⟨a, xs, e, k1, k2, RepL.move g h2⟩
  | .lst ds, v, h => by
    simp only [Rep] at h ⊢
    obtain ⟨a, xs, e, hn, h1, h2⟩ := h
    obtain ⟨k1, k2⟩ := g.keep a _ h1 hn (fun _ z => by cases z)
    exact ⟨a, xs, e, k1, k2, RepL.move g h2⟩
  | .scr ns, v, h => by
    simp only [Rep] at h ⊢
    obtain ⟨a, e, h1⟩ := h
    refine ⟨a, e, ?_⟩
    rcases h1 with ⟨hn, h1 | ⟨o, h1⟩⟩ | h1
    · obtain ⟨k1, k2⟩ := g.keep a _ h1 hn (fun _ z => by cases z)
      exact .inl ⟨k1, .inl k2⟩
    · obtain ⟨k1, k2⟩ := g.keep a _ h1 hn (fun _ z => by cases z)
      exact .inl ⟨k1, .inr ⟨o, k2⟩⟩
    · exact .inr h1
  | .mu n, v, h => by
    simp only [Rep] at h ⊢
    obtain ⟨a, e, h1⟩ := h
    exact ⟨a, e, g.cell n a h1⟩
theorem RepL.move (g : Mv M H M1 H1) : ∀ {ds : List D} {xs : List V}, RepL K M H ds xs → RepL K M1 H1 ds xs
  | [], xs, h => by simpa [RepL] using h
  | d :: ds, xs, h => by
    simp only [RepL] at h ⊢
    obtain ⟨x, r, e, h1, h2⟩ := h
    exact ⟨x, r, e, Rep.move g h1, RepL.move g h2⟩
end
theorem EnvOk.move {env : DEnv} {σ : St} (g : Mv M H M1 H1) (e : EnvOk K M H env σ) : EnvOk K M1 H1 env σ :=
  ⟨e.len, fun i d h => let ⟨v, h1, h2⟩ := e.get i d h; ⟨v, h1, h2.move g⟩⟩
end
/-- J walks the data ds as long as what stands stands -/
def Walk (K : PySem.W.Frag) (M : Mem) (H : Hp) (J : It) (ds : List D) : Prop := ∀ (i : Nat) (M2 : Mem) (H2 : Hp), Mv M H M2 H2 → (∀ a ∈ M2, ∃ o, H2 a = some o) →
  (∀ d, ds[i]? = some d → J.go i H2 ∧ ∀ x H3, J.yld i H2 x H3 → Same H2 H3 ∧ Rep K M2 H3 d x) ∧ (ds.length ≤ i → J.stop i H2)
def lI (K : PySem.W.Frag) (C : Ctx) (f : AM) : TI := fun σ H R => ∃ M env S ds S', EnvOk K M H env σ ∧ Wd K C M H S ∧ f env S = some (ds, S') ∧ ∀ J M' H', Gr M H M' H' → Wd K C M' H' S' → Walk K M' H' J ds → R J H'
abbrev DI (X : Cx) (C : Ctx) (tg e : Expr) (f : AM) : Prop := PI X tg e (lI X.K C f)
theorem impI {X : Cx} {tg e : Expr} {t t' : TI} (h : PI X tg e t) (i : ∀ σ H R, t' σ H R → t σ H R) : PI X tg e t' := ⟨fun pins s σ H R I hw => h.run pins s σ H R I (i σ H R hw)⟩
theorem Wd.there {K : PySem.W.Frag} {C : Ctx} {M : Mem} {H : Hp} {S : Sto} (w : Wd K C M H S) : ∀ a ∈ M, ∃ o, H a = some o := fun a ha => by
  cases h : H a with
  | some o => exact ⟨o, rfl⟩
  | none => exact absurd ha (w.notin h)

/-! ### lists, tuples, ranges, texts -/
theorem list_once {K : PySem.W.Frag} {H : Hp} {a : Addr} {xs ys : List V} (h : H a = some (.lst xs)) (q : Rd H a (.lst ys)) : ys = xs := by
  rcases q with q | ⟨o, q⟩
  · rw [h] at q; cases q; rfl
  · rw [h] at q; cases q
def lstOf (f : EM) : AM := fun env S => (f env S).bind fun p => match p.1 with
  | .lst ds => some (ds, p.2)
  | _ => none
def tupOf (f : EM) : AM := fun env S => (f env S).bind fun p => match p.1 with
  | .tup ds => some (ds, p.2)
  | _ => none
def strOf (f : EM) : AM := fun env S => (f env S).bind fun p => match p.1 with
  | .str x => some (x.map fun c => .str [c], p.2)
  | _ => none
def rgL (lo : Int) (n : Nat) : List D := (List.range n).map fun (i : Nat) => .int (lo + i)
def inRg (i : Int) : Bool := decide (-(2 ^ 62) ≤ i) && decide (i < 2 ^ 62)
def rg1 (f : AM) : AM := fun env S => (f env S).bind fun p => match p.1 with
  | [.int j] => if inRg j then some (rgL 0 j.toNat, p.2) else none
  | _ => none
def rg2 (f : AM) : AM := fun env S => (f env S).bind fun p => match p.1 with
  | [.int i, .int j] => if inRg i && inRg j then some (rgL i (j - i).toNat, p.2) else none
  | _ => none
theorem inRg_ok {i : Int} (h : inRg i = true) : -(2 ^ 62) ≤ i ∧ i < 2 ^ 62 := by simpa [inRg] using h
theorem walk_range {K : PySem.W.Frag} {M : Mem} {H : Hp} (lo : Int) (n : Nat) : Walk K M H (Itr lo n) (rgL lo n) := by
  intro i M2 H2 g _
  refine ⟨fun d hd => ?_, fun hl => ?_⟩
  · unfold rgL at hd
    rw [List.getElem?_map] at hd
    obtain ⟨j, hj, e⟩ := Option.map_eq_some_iff.mp hd
    obtain ⟨h1, h2⟩ := List.getElem?_eq_some_iff.mp hj
    rw [List.getElem_range] at h2
    subst h2
    refine ⟨show i < n by simpa using h1, fun x H3 hy => ?_⟩
    obtain ⟨rfl, rfl⟩ := hy
    subst e
    exact ⟨Same.refl _, repI _⟩
  · show n ≤ i
    simpa [rgL] using hl
theorem walk_list {K : PySem.W.Frag} {M : Mem} {H : Hp} {a : Addr} {ds : List D} {xs : List V} (hn : a ∉ M) (ha : H a = some (.lst xs)) (r : RepL K M H ds xs) : Walk K M H (Itl K a) ds := by
  intro i M2 H2 g _
  have h2 := (g.keep a _ ha hn (fun _ z => by cases z)).2
  have r2 := r.move g
  refine ⟨fun d hd => ?_, fun hl => ?_⟩
  · obtain ⟨x, hx, rx⟩ := r2.get hd
    refine ⟨⟨xs, x, .of h2, hx⟩, fun y H3 hy => ?_⟩
    obtain ⟨rfl, hy⟩ := hy
    have e := hy xs (.of h2)
    rw [hx] at e; cases e
    exact ⟨Same.refl _, rx⟩
  · exact ⟨xs, .of h2, by rw [← r2.length]; exact hl⟩
theorem walk_tup {K : PySem.W.Frag} {M : Mem} {H : Hp} {a : Addr} {ds : List D} {xs : List V} (hn : a ∉ M) (ha : H a = some (.tup xs)) (r : RepL K M H ds xs) : Walk K M H (Itt K a) ds := by
  intro i M2 H2 g _
  have h2 := (g.keep a _ ha hn (fun _ z => by cases z)).2
  have r2 := r.move g
  refine ⟨fun d hd => ?_, fun hl => ?_⟩
  · obtain ⟨x, hx, rx⟩ := r2.get hd
    refine ⟨⟨xs, x, .of h2, hx⟩, fun y H3 hy => ?_⟩
    obtain ⟨rfl, hy⟩ := hy
    have e := hy xs (.of h2)
    rw [hx] at e; cases e
    exact ⟨Same.refl _, rx⟩
  · exact ⟨xs, .of h2, by rw [← r2.length]; exact hl⟩
theorem walk_str {K : PySem.W.Frag} {M : Mem} {H : Hp} (x : List Nat) : Walk K M H (Its (mkS x)) (x.map fun c => .str [c]) := by
  intro i M2 H2 g _
  refine ⟨fun d hd => ?_, fun hl => ?_⟩
  · rw [List.getElem?_map] at hd
    obtain ⟨c, hc, e⟩ := Option.map_eq_some_iff.mp hd
    have hi := (List.getElem?_eq_some_iff.mp hc).1
    refine ⟨by show i < x.toArray.size; simpa using hi, fun y H3 hy => ?_⟩
    obtain ⟨rfl, c', hc', rfl⟩ := hy
    have e2 : c' = c := by
      have h3 : x[i]? = some c' := by simpa [mkS] using hc'
      rw [hc] at h3; cases h3; rfl
    subst e2; subst e
    exact ⟨Same.refl _, repS _⟩
  · show x.toArray.size ≤ i
    simpa using hl
section
variable {X : Cx} {C : Ctx} {tg e e2 : Expr} {es : List Expr} {f : EM} {fa : AM} {p pos tpos : Pos} {elts : List Expr} {kk : Nat}
theorem i_list (he : DE X C e f) : DI X C tg e (lstOf f) := impI (pi_list he) fun σ H R h => by
  obtain ⟨M, env, S, ds, S', hE, hW, hf, q⟩ := h
  obtain ⟨⟨d, S1⟩, h1, hf⟩ := Option.bind_eq_some_iff.mp hf
  cases d <;> cases hf
  refine ⟨M, env, S, _, _, hE, hW, h1, fun v M1 H1 g1 w1 r1 => ?_⟩
  simp only [Rep] at r1
  obtain ⟨a, xs, rfl, hn, ha, ra⟩ := r1
  exact ⟨a, rfl, ⟨xs, .of ha⟩, q _ M1 H1 g1 w1 (walk_list hn ha ra)⟩
theorem i_tup (he : DE X C e f) : DI X C tg e (tupOf f) := impI (pi_tup he) fun σ H R h => by
  obtain ⟨M, env, S, ds, S', hE, hW, hf, q⟩ := h
  obtain ⟨⟨d, S1⟩, h1, hf⟩ := Option.bind_eq_some_iff.mp hf
  cases d <;> cases hf
  refine ⟨M, env, S, _, _, hE, hW, h1, fun v M1 H1 g1 w1 r1 => ?_⟩
  simp only [Rep] at r1
  obtain ⟨a, xs, rfl, hn, ha, ra⟩ := r1
  exact ⟨a, rfl, ⟨xs, .of ha⟩, q _ M1 H1 g1 w1 (walk_tup hn ha ra)⟩
theorem i_str (he : DE X C e f) : DI X C tg e (strOf f) := impI (pi_str he) fun σ H R h => by
  obtain ⟨M, env, S, ds, S', hE, hW, hf, q⟩ := h
  obtain ⟨⟨d, S1⟩, h1, hf⟩ := Option.bind_eq_some_iff.mp hf
  cases d <;> cases hf
  refine ⟨M, env, S, _, _, hE, hW, h1, fun v M1 H1 g1 w1 r1 => ⟨_, rep_str r1, q _ M1 H1 g1 w1 (walk_str _)⟩⟩
theorem i_rg1 (hm : X.mg "range" = none) (ha : DA X C [e] fa) (hg : Gl X "range" := by rfl) (hs : starEach [e] X.env = [(false, eval e X.env)] := by rfl) : DI X C tg (.Call (.Name "range" p) [e] [] pos) (rg1 fa) := impI (pi_range1 hg hm ha hs) fun σ H R h => by
  obtain ⟨M, env, S, ds, S', hE, hW, hf, q⟩ := h
  obtain ⟨⟨d, S1⟩, h1, hf⟩ := Option.bind_eq_some_iff.mp hf
  dsimp only at hf
  split at hf
  · split at hf
    · rename_i j hj
      cases hf
      refine ⟨M, env, S, _, _, hE, hW, h1, fun v M1 H1 g1 w1 rs => ?_⟩
      obtain ⟨x, rfl, r1⟩ := one_inv rs
      rw [rep_int r1]
      exact ⟨j, rfl, (inRg_ok hj).1, (inRg_ok hj).2, q _ M1 H1 g1 w1 (walk_range 0 _)⟩
    · cases hf
  · cases hf
theorem i_rg2 (hm : X.mg "range" = none) (ha : DA X C [e, e2] fa) (hg : Gl X "range" := by rfl) (hs : starEach [e, e2] X.env = [(false, eval e X.env), (false, eval e2 X.env)] := by rfl) (hs2 : starEach [e2] X.env = [(false, eval e2 X.env)] := by rfl) : DI X C tg (.Call (.Name "range" p) [e, e2] [] pos) (rg2 fa) := impI (pi_range2 hg hm ha hs hs2) fun σ H R h => by
  obtain ⟨M, env, S, ds, S', hE, hW, hf, q⟩ := h
  obtain ⟨⟨d, S1⟩, h1, hf⟩ := Option.bind_eq_some_iff.mp hf
  dsimp only at hf
  split at hf
  · split at hf
    · rename_i i j hj
      rw [Bool.and_eq_true] at hj
      cases hf
      refine ⟨M, env, S, _, _, hE, hW, h1, fun v M1 H1 g1 w1 r1 => ?_⟩
      obtain ⟨x, r, rfl, rx, r1⟩ := r1.cons_inv
      obtain ⟨y, rfl, ry⟩ := one_inv r1
      rw [rep_int rx, rep_int ry]
      exact ⟨i, j, rfl, ⟨(inRg_ok hj.1).1, (inRg_ok hj.1).2, (inRg_ok hj.2).1, (inRg_ok hj.2).2⟩, q _ M1 H1 g1 w1 (walk_range i _)⟩
    · cases hf
  · cases hf
end

/-! ### for -/
def forD (g : D → DEnv → Option DEnv) (b : SM) : List D → SM
  | [], env, S => some (.nx, env, S)
  | d :: ds, env, S => (g d env).bind fun env1 => (b env1 S).bind fun p => match p.1 with
    | .nx => forD g b ds p.2.1 p.2.2
    | o => some (o, p.2)
def sFor (src : AM) (g : D → DEnv → Option DEnv) (b : SM) : SM := fun env S => (src env S).bind fun p => forD g b p.1 env p.2
theorem drop_get {α : Type} {ds : List α} {i : Nat} (h : i < ds.length) : ds.drop i = ds[i] :: ds.drop (i + 1) := List.drop_eq_getElem_cons h
/-- the loop's reading from the plain loop -/
theorem for_core {K : PySem.W.Frag} {C : Ctx} {W : WX} {is : List Nat} {g : D → DEnv → Option DEnv} {b : SM} {J : It} {ds : List D} {M : Mem} {H : Hp} {env : DEnv} {σ : St} {S : Sto} {o : Out} {env' : DEnv} {S' : Sto} {D : Ends}
    (hE : EnvOk K M H env σ) (hW : Wd K C M H S) (wk : Walk K M H J ds) (hf : forD g b ds env S = some (o, env', S')) (q : StPost K C W D M H o env' S') :
    ∃ Wi : Nat → Nat → St → Hp → Prop, (∃ m, Wi 0 m σ H) ∧ ∀ i m σ H, Wi i m σ H →
      (J.stop i H ∧ D.nx σ H) ∨ (J.go i H ∧ ∃ N : St → Hp → Prop, (∀ σ' H', N σ' H' → ∃ m', m' < m ∧ Wi (i + 1) m' σ' H') ∧ ∀ x H', J.yld i H x H' → lG K is g x σ H' fun σ2 H2 => lS K C W b { D with nx := N, ct := N, bk := D.nx } σ2 H2) := by
  refine ⟨fun i m σ2 H2 => ∃ M2 env2 S2, EnvOk K M2 H2 env2 σ2 ∧ Wd K C M2 H2 S2 ∧ Gr M H M2 H2 ∧ i ≤ ds.length ∧ m = ds.length - i ∧ forD g b (ds.drop i) env2 S2 = some (o, env', S'),
    ⟨_, M, env, S, hE, hW, .refl, Nat.zero_le _, rfl, hf⟩, ?_⟩
  rintro i m σ2 H2 ⟨M2, env2, S2, e2, w2, g2, hi, rfl, hf2⟩
  obtain ⟨wgo, wstop⟩ := wk i M2 H2 g2.mv w2.there
  by_cases hlt : i < ds.length
  · rw [drop_get hlt] at hf2
    obtain ⟨env3, h3, hf2⟩ := Option.bind_eq_some_iff.mp hf2
    obtain ⟨⟨o1, env4, S4⟩, h4, hf2⟩ := Option.bind_eq_some_iff.mp hf2
    obtain ⟨go, yl⟩ := wgo _ (List.getElem?_eq_getElem hlt)
    refine .inr ⟨go, fun σ' H' => ∃ M2 env2 S2, EnvOk K M2 H' env2 σ' ∧ Wd K C M2 H' S2 ∧ Gr M H M2 H' ∧ forD g b (ds.drop (i + 1)) env2 S2 = some (o, env', S'), fun σ' H' ⟨M5, env5, S5, k1, k2, k3, k4⟩ => ⟨ds.length - (i + 1), by omega, M5, env5, S5, k1, k2, k3, hlt, rfl, k4⟩, fun x H3 hy => ?_⟩
    obtain ⟨sm, rx⟩ := yl x H3 hy
    have g3 : Gr M H M2 H3 := g2.trans (.same sm)
    refine ⟨M2, env2, _, env3, e2.mono (.same sm), rx, h3, fun σ3 e3 _ => ⟨M2, env3, S2, o1, env4, S4, e3, w2.same sm, h4, ?_⟩⟩
    cases o1 with
    | nx => exact fun M5 H5 σ5 g5 w5 e5 => ⟨M5, env4, S4, e5, w5, g3.trans g5, hf2⟩
    | rt d => cases hf2; exact q.after g3
    | ex x => cases hf2; exact q.after g3
  · have e : i = ds.length := by omega
    subst e
    rw [List.drop_length] at hf2
    cases hf2
    exact .inl ⟨wstop (Nat.le_refl _), q M2 H2 σ2 g2 w2 e2⟩
section
variable {X : Cx} {C : Ctx} {W : WX} {tg iter : Expr} {body : List Stmt} {src : AM} {is : List Nat} {g : D → DEnv → Option DEnv} {b : SM} {pos : Pos}
theorem ds_for (hp : PassesOwn (model X.prog X.w) X.A X.env X.xe) (hc : X.calm = true) (hi : DI X C tg iter src) (hg : DG X tg is g) (hb : DSs X C W body b)
    (hs : ∀ x, foldedSetIterable iter X.env x = pure x := by intro _; rfl) : DS X C W (.For tg iter body [] pos) (sFor src g b) := impS (ps_for hp hc hi hg hb hs) fun D σ H h => by
  obtain ⟨M, env, S, o, env', S', hE, hW, hf, q⟩ := h
  obtain ⟨⟨ds, S1⟩, h1, hf⟩ := Option.bind_eq_some_iff.mp hf
  refine ⟨M, env, S, ds, S1, hE, hW, h1, fun J M1 H1 g1 w1 wk => ?_⟩
  exact for_core (hE.mono g1) w1 wk hf (q.after g1)
end

/-! ### comprehensions -/
def bYes : BM := fun _ S => some (true, S)
def compD (g : D → DEnv → Option DEnv) (t : BM) (fe : EM) (vs : List Nat) : List D → DEnv → Sto → Option (List D × Sto)
  | [], _, S => some ([], S)
  | d :: ds, env, S => (g d (wipeD env vs)).bind fun env1 => (t env1 S).bind fun k =>
    if k.1 = true then (fe env1 k.2).bind fun y => (compD g t fe vs ds env y.2).map fun r => (y.1 :: r.1, r.2)
    else compD g t fe vs ds env k.2
def eComp (src : AM) (g : D → DEnv → Option DEnv) (t : BM) (fe : EM) (vs : List Nat) : EM := fun env S => (src env S).bind fun p => (compD g t fe vs p.1 env p.2).bind fun r =>
  if r.1.length ≤ 16777216 then some (.lst r.1, r.2) else none
abbrev DTs (X : Cx) (C : Ctx) (ifs : List Expr) (t : BM) : Prop := PTs X ifs (lT X.K C t)
section
variable {K : PySem.W.Frag} {C : Ctx} {M : Mem} {H : Hp} {S : Sto} {A : Addr} {o : HO}
/-- an address hidden -/
abbrev Mem.hide (M : Mem) (A : Addr) : Mem := { M with z := A :: M.z }
theorem hide_mem {a : Addr} (h : a ∉ M) (ne : a ≠ A) : a ∉ M.hide A := fun z => by
  rcases z with z | z
  · exact h (.inl z)
  · rcases List.mem_cons.mp z with z | z
    · exact ne z
    · exact h (.inr z)
mutual
theorem Rep.hide (hA : H A = none) : ∀ {d : D} {v : V}, Rep K M H d v → Rep K (M.hide A) (upd H A o) d v
  | .non, v, h => by simpa [Rep] using h
  | .bl b, v, h => by simpa [Rep] using h
  | .int b, v, h => by simpa [Rep] using h
  | .str b, v, h => by simpa [Rep] using h
  | .tup ds, v, h => by
    simp only [Rep] at h ⊢
    obtain ⟨a, xs, e, hn, h1, h2⟩ := h
    exact ⟨a, xs, e, hide_mem hn (ne_of_none h1 hA), same_new hA _ _ h1, RepL.hide hA h2⟩
  | .lst ds, v, h => by
    simp only [Rep] at h ⊢
    obtain ⟨a, xs, e, hn, h1, h2⟩ := h
    exact ⟨a, xs, e, hide_mem hn (ne_of_none h1 hA), same_new hA _ _ h1, RepL.hide hA h2⟩
  | .scr ns, v, h => by
    simp only [Rep] at h ⊢
    obtain ⟨a, e, h1⟩ := h
    refine ⟨a, e, ?_⟩
    rcases h1 with ⟨hn, h1 | ⟨o, h1⟩⟩ | h1
    · exact .inl ⟨hide_mem hn (ne_of_none h1 hA), .inl (same_new hA _ _ h1)⟩
    · exact .inl ⟨hide_mem hn (ne_of_none h1 hA), .inr ⟨o, same_new hA _ _ h1⟩⟩
    · exact .inr h1
  | .mu n, v, h => by simpa only [Rep] using h
theorem RepL.hide (hA : H A = none) : ∀ {ds : List D} {xs : List V}, RepL K M H ds xs → RepL K (M.hide A) (upd H A o) ds xs
  | [], xs, h => by simpa [RepL] using h
  | d :: ds, xs, h => by
    simp only [RepL] at h ⊢
    obtain ⟨x, r, e, h1, h2⟩ := h
    exact ⟨x, r, e, Rep.hide hA h1, RepL.hide hA h2⟩
end
mutual
/-- fewer are left out -/
theorem Rep.weak {M' : Mem} (hc : M'.c = M.c) (hz : ∀ a, a ∈ M'.z → a ∈ M.z) : ∀ {d : D} {v : V}, Rep K M H d v → Rep K M' H d v
  | .non, v, h => by simpa [Rep] using h
  | .bl b, v, h => by simpa [Rep] using h
  | .int b, v, h => by simpa [Rep] using h
  | .str b, v, h => by simpa [Rep] using h
  | .tup ds, v, h => by
    simp only [Rep] at h ⊢
    obtain ⟨a, xs, e, hn, h1, h2⟩ := h
    exact ⟨a, xs, e, fun z => hn (z.elim (fun z => .inl (hc ▸ z)) fun z => .inr (hz a z)), h1, RepL.weak hc hz h2⟩
  | .lst ds, v, h => by
    simp only [Rep] at h ⊢
    obtain ⟨a, xs, e, hn, h1, h2⟩ := h
    exact ⟨a, xs, e, fun z => hn (z.elim (fun z => .inl (hc ▸ z)) fun z => .inr (hz a z)), h1, RepL.weak hc hz h2⟩
  | .scr ns, v, h => by
    simp only [Rep] at h ⊢
    obtain ⟨a, e, h1⟩ := h
    refine ⟨a, e, ?_⟩
    rcases h1 with ⟨hn, h1⟩ | h1
    · exact .inl ⟨fun z => hn (z.elim (fun z => .inl (hc ▸ z)) fun z => .inr (hz a z)), h1⟩
    · exact .inr h1
  | .mu n, v, h => by
    simp only [Rep] at h ⊢
    rw [hc]; exact h
theorem RepL.weak {M' : Mem} (hc : M'.c = M.c) (hz : ∀ a, a ∈ M'.z → a ∈ M.z) : ∀ {ds : List D} {xs : List V}, RepL K M H ds xs → RepL K M' H ds xs
  | [], xs, h => by simpa [RepL] using h
  | d :: ds, xs, h => by
    simp only [RepL] at h ⊢
    obtain ⟨x, r, e, h1, h2⟩ := h
    exact ⟨x, r, e, Rep.weak hc hz h1, RepL.weak hc hz h2⟩
end
theorem EnvOk.hide {env : DEnv} {σ : St} (hA : H A = none) (e : EnvOk K M H env σ) : EnvOk K (M.hide A) (upd H A o) env σ :=
  ⟨e.len, fun i d h => let ⟨v, h1, h2⟩ := e.get i d h; ⟨v, h1, h2.hide hA⟩⟩
theorem CellOk.hide {a : Addr} {c : Cell} (hA : H A = none) (h : CellOk K M H a c) : CellOk K (M.hide A) (upd H A o) a c := by
  cases c with
  | lst ds => obtain ⟨xs, h1, h2⟩ := h; exact ⟨xs, same_new hA _ _ h1, h2.hide hA⟩
  | dct kvs => obtain ⟨ps, h1, h2⟩ := h; exact ⟨ps, same_new hA _ _ h1, Paired.mapP h2 fun _ _ q => ⟨q.1, q.2.hide hA⟩⟩
theorem CellOk.weak {M' : Mem} {a : Addr} {c : Cell} (hc : M'.c = M.c) (hz : ∀ a, a ∈ M'.z → a ∈ M.z) (h : CellOk K M H a c) : CellOk K M' H a c := by
  cases c with
  | lst ds => obtain ⟨xs, h1, h2⟩ := h; exact ⟨xs, h1, h2.weak hc hz⟩
  | dct kvs => obtain ⟨ps, h1, h2⟩ := h; exact ⟨ps, h1, Paired.mapP h2 fun _ _ q => ⟨q.1, q.2.weak hc hz⟩⟩
theorem Wd.hide {ys : List V} (w : Wd K C M H S) (hA : H A = none) : Wd K C (M.hide A) (upd H A (.lst ys)) S :=
  ⟨w.len, w.nd, fun n a c h1 h2 => (w.cell n a c h1 h2).hide hA, fun p hp => (w.tab p hp).same (same_new hA), fun a ha => by
    rcases List.mem_cons.mp ha with e | ha
    · subst e
      exact ⟨fun z => w.notin hA (.inl z), ys, upd_same⟩
    · exact ⟨(w.zs a ha).1, let ⟨u, h⟩ := (w.zs a ha).2; ⟨u, same_new hA a _ h⟩⟩⟩
end
/-- a hidden list written anew: nothing else is moved -/
theorem mut_hid {K : PySem.W.Frag} {M : Mem} {H : Hp} {A : Addr} {u : HO} (hA : A ∈ M.z) : (∀ {d : D} {v : V}, Rep K M H d v → Rep K M (upd H A u) d v) ∧ (∀ {ds : List D} {xs : List V}, RepL K M H ds xs → RepL K M (upd H A u) ds xs) := by
  have at_ : ∀ {a : Addr} {o : HO}, a ∉ M → H a = some o → upd H A u a = some o := fun {a o} hn h => by
    rw [upd_ne (fun e => hn (by rw [e]; exact .inr hA))]; exact h
  have main : ∀ n : Nat, (∀ {d : D} {v : V}, sizeOf d ≤ n → Rep K M H d v → Rep K M (upd H A u) d v) ∧ (∀ {ds : List D} {xs : List V}, sizeOf ds ≤ n → RepL K M H ds xs → RepL K M (upd H A u) ds xs) := by
    intro n
    induction n with
    | zero =>
      refine ⟨fun {d v} h => ?_, fun {ds xs} h => ?_⟩
      · cases d <;> simp at h
      · cases ds <;> simp at h
    | succ n ih =>
      refine ⟨fun {d v} hs h => ?_, fun {ds xs} hs h => ?_⟩
      · cases d with
        | tup ds =>
          simp only [Rep] at h ⊢
          obtain ⟨a, xs, e, hn, h1, h2⟩ := h
          exact ⟨a, xs, e, hn, at_ hn h1, ih.2 (by simp at hs; omega) h2⟩
        | lst ds =>
          simp only [Rep] at h ⊢
          obtain ⟨a, xs, e, hn, h1, h2⟩ := h
          exact ⟨a, xs, e, hn, at_ hn h1, ih.2 (by simp at hs; omega) h2⟩
        | scr ns =>
          simp only [Rep] at h ⊢
          obtain ⟨a, e, h1⟩ := h
          refine ⟨a, e, ?_⟩
          rcases h1 with ⟨hn, h1 | ⟨o, h1⟩⟩ | h1
          · exact .inl ⟨hn, .inl (at_ hn h1)⟩
          · exact .inl ⟨hn, .inr ⟨o, at_ hn h1⟩⟩
          · exact .inr h1
        | _ => simpa [Rep] using h
      · cases ds with
        | nil => simpa [RepL] using h
        | cons d ds =>
          simp only [RepL] at h ⊢
          obtain ⟨x, r, e, h1, h2⟩ := h
          exact ⟨x, r, e, ih.1 (by simp at hs; omega) h1, ih.2 (by simp at hs; omega) h2⟩
  exact ⟨fun h => (main _).1 (Nat.le_refl _) h, fun h => (main _).2 (Nat.le_refl _) h⟩
theorem Wd.mut_hid {K : PySem.W.Frag} {C : Ctx} {M : Mem} {H : Hp} {S : Sto} {A : Addr} {us : List V} (w : Wd K C M H S) {ys : List V} (hA : A ∈ M.z) (ht : H A = some (.lst ys)) : Wd K C M (upd H A (.lst us)) S := by
  refine ⟨w.len, w.nd, fun n a c h1 h2 => ?_, fun p hp => ?_, fun a ha => ⟨(w.zs a ha).1, ?_⟩⟩
  · have na : a ≠ A := fun e => (w.zs A hA).1 (by rw [← e]; exact List.mem_of_getElem? h1)
    have q := w.cell n a c h1 h2
    cases c with
    | lst ds => obtain ⟨xs, k1, k2⟩ := q; exact ⟨xs, by rw [upd_ne na]; exact k1, (L2.DL.mut_hid hA).2 k2⟩
    | dct kvs => obtain ⟨ps, k1, k2⟩ := q; exact ⟨ps, by rw [upd_ne na]; exact k1, Paired.mapP k2 fun _ _ q => ⟨q.1, (L2.DL.mut_hid hA).1 q.2⟩⟩
  · have q := w.tab p hp
    obtain ⟨a, r⟩ := p
    obtain ⟨ps, k1, k2, k3⟩ := q
    refine ⟨ps, by rw [upd_ne (ne_of k1 ht (fun z => by cases z))]; exact k1, k2, fun pos cv hc => ?_⟩
    obtain ⟨c, e, k4⟩ := k3 pos cv hc
    refine ⟨c, e, ?_⟩
    rw [upd_ne (ne_of k4 ht (fun z => by unfold LamX.CodeO at z; cases z))]; exact k4
  · by_cases e : a = A
    · subst e; exact ⟨us, upd_same⟩
    · rw [upd_ne e]; exact (w.zs a ha).2

theorem gr_unhide {K : PySem.W.Frag} {C : Ctx} {M2 M5 : Mem} {H3 H5 : Hp} {S5 : Sto} {z : List Addr} {A : Addr} (hz : M2.z = A :: z) (w5 : Wd K C M5 H5 S5) (g : Gr M2 H3 M5 H5) : Gr ⟨M2.c, z⟩ H3 ⟨M5.c, z⟩ H5 := by
  have hA2 : A ∈ M2.z := by rw [hz]; exact List.mem_cons_self
  refine ⟨g.ext, rfl, fun a ha => ?_, fun b o h hn ht => ?_, fun b hb o h => g.hid b (by rw [hz]; exact List.mem_cons_of_mem _ hb) o h⟩
  · have ha5 : a ∈ M5 := ha.elim (fun h => .inl h) fun h => .inr (by rw [g.zz, hz]; exact List.mem_cons_of_mem _ h)
    rcases g.new a ha5 with h | h
    · rcases h with h | h
      · exact .inl (.inl h)
      · rw [hz] at h
        rcases List.mem_cons.mp h with e | h
        · rcases ha with ha | ha
          · exact absurd ha (by rw [e]; exact (w5.zs A (by rw [g.zz]; exact hA2)).1)
          · exact .inl (.inr ha)
        · exact .inl (.inr h)
    · exact .inr h
  · by_cases e : b = A
    · subst e
      exact g.hid b hA2 o h
    · refine g.keep b o h (fun z => hn ?_) ht
      rcases z with z | z
      · exact .inl z
      · rw [hz] at z
        rcases List.mem_cons.mp z with z | z
        · exact absurd z e
        · exact .inr z
theorem comp_core {K : PySem.W.Frag} {C : Ctx} {is vs : List Nat} {g : D → DEnv → Option DEnv} {t : BM} {fe : EM} {J : It} {ds ys : List D} {M : Mem} {H : Hp} {env : DEnv} {σ : St} {S S' : Sto} {Q : VK} {A : Addr}
    (his : ∀ i ∈ is, i ∈ vs) (hE : EnvOk K M H env σ) (hW : Wd K C M H S) (wk : Walk K M H J ds) (hf : compD g t fe vs ds env S = some (ys, S')) (hl : ys.length ≤ 16777216)
    (q : ∀ v M' H', Gr M H M' H' → Wd K C M' H' S' → Rep K M' H' (.lst ys) v → Q v H') (hA : H A = none) :
    ∃ W : Nat → Nat → Hp → Prop, (∃ m, W 0 m (upd H A (.lst []))) ∧ ∀ i m H, W i m H →
      (J.stop i H ∧ Q (.ref A) H) ∨ (J.go i H ∧ ∃ Nx : Hp → Prop, (∀ H', Nx H' → ∃ m', m' < m ∧ W (i + 1) m' H') ∧ ∀ x H', J.yld i H x H' → lG K is g x (L2.wipe σ vs) H' fun σ2 H2 => L2.wipe σ2 vs = L2.wipe σ vs ∧ lT K C t σ2 H2 fun b H3 =>
        if b = true then lE K C fe σ2 H3 fun y H4 => ∃ acc, H4 A = some (.lst acc) ∧ acc.length < sizeLine ∧ Nx (upd H4 A (.lst (acc ++ [y]))) else Nx H3) := by
  refine ⟨fun i m H2 => ∃ M2 S2 accD acc ysr, m = ds.length - i ∧ i ≤ ds.length ∧ Wd K C M2 H2 S2 ∧ M2.z = A :: M.z ∧ Gr M H ⟨M2.c, M.z⟩ H2 ∧ H2 A = some (.lst acc) ∧ RepL K M2 H2 accD acc ∧ compD g t fe vs (ds.drop i) env S2 = some (ysr, S') ∧ accD ++ ysr = ys,
    ⟨_, M.hide A, S, [], [], ys, rfl, Nat.zero_le _, hW.hide hA, rfl, .same (same_new hA), upd_same, .nil, hf, rfl⟩, ?_⟩
  rintro i m H2 ⟨M2, S2, accD, acc, ysr, rfl, hi, w2, hz, g2, hD, ra, hf2, hys⟩
  have hA2 : A ∈ M2.z := by rw [hz]; exact List.mem_cons_self
  have nz : A ∉ M.z := fun z => by
    obtain ⟨_, o, h⟩ := hW.zs A z
    rw [hA] at h; cases h
  have mv : Mv M H M2 H2 := ⟨fun a o h hn ht => ⟨fun z => by
    rcases z with z | z
    · exact (g2.mv.keep a o h hn ht).1 (.inl z)
    · rw [hz] at z
      rcases List.mem_cons.mp z with z | z
      · subst z; rw [hA] at h; cases h
      · exact hn (.inr z), g2.keep a o h hn ht⟩, fun n a h => (g2.mv).cell n a h⟩
  obtain ⟨wgo, wstop⟩ := wk i M2 H2 mv w2.there
  by_cases hlt : i < ds.length
  · rw [drop_get hlt] at hf2
    obtain ⟨env1, h1, hf2⟩ := Option.bind_eq_some_iff.mp hf2
    obtain ⟨⟨k, S3⟩, h3, hf2⟩ := Option.bind_eq_some_iff.mp hf2
    obtain ⟨go, yl⟩ := wgo _ (List.getElem?_eq_getElem hlt)
    refine .inr ⟨go, fun H' => ∃ M2 S2 accD acc ysr, Wd K C M2 H' S2 ∧ M2.z = A :: M.z ∧ Gr M H ⟨M2.c, M.z⟩ H' ∧ H' A = some (.lst acc) ∧ RepL K M2 H' accD acc ∧ compD g t fe vs (ds.drop (i + 1)) env S2 = some (ysr, S') ∧ accD ++ ysr = ys,
      fun H' ⟨M5, S5, aD, ac, yr, k1, k2, k3, k4, k5, k6, k7⟩ => ⟨ds.length - (i + 1), by omega, M5, S5, aD, ac, yr, rfl, hlt, k1, k2, k3, k4, k5, k6, k7⟩, fun x H3 hy => ?_⟩
    obtain ⟨sm, rx⟩ := yl x H3 hy
    refine ⟨M2, wipeD env vs, _, env1, ((hE.move mv).mono (.same sm)).wipe vs, rx, h1, fun σ2 e2 on => ⟨(on vs his).trans (wipe_wipe σ vs), M2, env1, S2, k, S3, e2, w2.same sm, h3, fun M3 H4 g3 w3 => ?_⟩⟩
    have g3' : Gr M2 H2 M3 H4 := (Gr.same sm).trans g3
    cases k with
    | true =>
      rw [if_pos rfl] at hf2
      show lE K C fe σ2 H4 _
      obtain ⟨⟨y, S4⟩, h4, hf2⟩ := Option.bind_eq_some_iff.mp hf2
      obtain ⟨⟨yr, S6⟩, h5, hf2⟩ := Option.map_eq_some_iff.mp hf2
      cases hf2
      refine ⟨M3, env1, S3, y, S4, e2.mono g3, w3, h4, fun v M5 H5 g5 w5 r5 => ?_⟩
      have gg : Gr M2 H2 M5 H5 := g3'.trans g5
      have hD5 : H5 A = some (.lst acc) := gg.hid A hA2 _ hD
      have z5 : M5.z = A :: M.z := gg.zz.trans hz
      have hA5 : A ∈ M5.z := by rw [z5]; exact List.mem_cons_self
      have gg2 : Gr M H ⟨M5.c, M.z⟩ H5 := g2.trans (gr_unhide hz w5 gg)
      refine ⟨acc, hD5, ?_, M5, S4, accD ++ [y], acc ++ [v], yr, w5.mut_hid hA5 hD5, z5, ?_, upd_same, ?_, h5, by rw [List.append_assoc]; exact hys⟩
      · rw [← ra.length, line_eq]
        have := congrArg List.length hys
        rw [List.length_append, List.length_cons] at this
        omega
      · refine ⟨gg2.ext, rfl, gg2.new, fun b o h hn ht => ?_, fun b hb o h => ?_⟩
        · rw [upd_ne (ne_of_none h hA)]; exact gg2.keep b o h hn ht
        · rw [upd_ne (ne_of_none h hA)]; exact gg2.hid b hb o h
      · exact (L2.DL.mut_hid hA5).2 ((ra.mono gg).snoc r5)
    | false =>
      rw [if_neg Bool.false_ne_true] at hf2
      exact ⟨M3, S3, accD, acc, ysr, w3, g3'.zz.trans hz, g2.trans (gr_unhide hz w3 g3'), g3'.hid A hA2 _ hD, ra.mono g3', hf2, hys⟩
  · have e : i = ds.length := by omega
    subst e
    rw [List.drop_length] at hf2
    cases hf2
    rw [List.append_nil] at hys
    subst hys
    refine .inl ⟨wstop (Nat.le_refl _), q _ ⟨M2.c, M.z⟩ H2 g2 ⟨w2.len, w2.nd, fun n a c h1 h2 => (w2.cell n a c h1 h2).weak (M := M2) (M' := ⟨M2.c, M.z⟩) rfl (fun a h => by rw [hz]; exact List.mem_cons_of_mem _ h), w2.tab, fun a ha => w2.zs a (by rw [hz]; exact List.mem_cons_of_mem _ ha)⟩ ?_⟩
    simp only [Rep]
    exact ⟨A, acc, rfl, fun z => z.elim (w2.zs A hA2).1 nz, hD, ra.weak (M := M2) (M' := ⟨M2.c, M.z⟩) rfl (fun a h => by rw [hz]; exact List.mem_cons_of_mem _ h)⟩
section
variable {X : Cx} {C : Ctx} {W : WX} {elt tg iter : Expr} {ifs : List Expr} {scope : Scope} {own : List (Str × Nat)} {pos spos py : Pos} {src : AM} {is : List Nat} {g : D → DEnv → Option DEnv} {t : BM} {fe : EM}
theorem comp_imp (his : ∀ i ∈ is, i ∈ own.map (·.2)) {σ : St} {H : Hp} {Q : VK} (h : lE X.K C (eComp src g t fe (own.map (·.2))) σ H Q) : tLc (lI X.K C src) (lG X.K is g) (lT X.K C t) (lE X.K C fe) (own.map (·.2)) σ H Q := by
  obtain ⟨M, env, S, d, S', hE, hW, hf, q⟩ := h
  obtain ⟨⟨ds, S1⟩, h1, hf⟩ := Option.bind_eq_some_iff.mp hf
  obtain ⟨⟨ys, S2⟩, h2, hf⟩ := Option.bind_eq_some_iff.mp hf
  split at hf
  · rename_i hl
    cases hf
    exact ⟨M, env, S, ds, S1, hE, hW, h1, fun J M1 H1 g1 w1 wk A hA => comp_core his (hE.mono g1) w1 wk h2 hl (fun v M' H' g2 w2 r2 => q v M' H' (g1.trans g2) w2 r2) hA⟩
  · cases hf
theorem d_comp (hc : X.calm = true) (hN : X.N.Nodup) (hi : DI X C tg iter src) (ok : BlkOk X.N X.env.scope scope own)
    (hg : ∀ (s : Shared) (H : Hp) (A : Addr) (cl : List (Str × Addr)) (fp : List Addr), DG (X.blk s H scope (compEnvC scope cl A X.env) fp) tg is g) (ht : ∀ (s : Shared) (H : Hp) (A : Addr) (cl : List (Str × Addr)) (fp : List Addr), DTs (X.blk s H scope (compEnvC scope cl A X.env) fp) C ifs t)
    (he : ∀ (s : Shared) (H : Hp) (A : Addr) (cl : List (Str × Addr)) (fp : List Addr), DE (X.blk s H scope (compEnvC scope cl A X.env) fp) C elt fe) (his : ∀ i ∈ is, i ∈ own.map (·.2) := by decide) (hs : ∀ x, foldedSetIterable iter X.env x = pure x := by intro _; rfl) :
    DE X C (.ListComp elt [⟨tg, iter, ifs, 0⟩] scope pos) (eComp src g t fe (own.map (·.2))) := impE (pe_lc hc hN hi ok hg ht he hs) fun _ _ _ h => comp_imp his h
/-- name = [..], on one line -/
theorem ds_setLc {i : Nat} {y : Str} (hc : X.calm = true) (hN : X.N.Nodup) (hi : DI X C tg iter src) (ok : BlkOk X.N X.env.scope scope own)
    (hsw : swapsWith (.ListComp elt [⟨tg, iter, ifs, 0⟩] scope pos) (some (.Name y py)) spos.line X.env = pure true)
    (hg : ∀ (s : Shared) (H : Hp) (A : Addr) (cl : List (Str × Addr)) (fp : List Addr), DG (X.blk s H scope (compEnvC scope cl A X.env) fp) tg is g) (ht : ∀ (s : Shared) (H : Hp) (A : Addr) (cl : List (Str × Addr)) (fp : List Addr), DTs (X.blk s H scope (compEnvC scope cl A X.env) fp) C ifs t)
    (he : ∀ (s : Shared) (H : Hp) (A : Addr) (cl : List (Str × Addr)) (fp : List Addr), DE (X.blk s H scope (compEnvC scope cl A X.env) fp) C elt fe) (hy : X.N[i]? = some y := by rfl) (hyl : X.env.scope.names.lookup y = some .local := by rfl) (his : ∀ i ∈ is, i ∈ own.map (·.2) := by decide) (hs : ∀ x, foldedSetIterable iter X.env x = pure x := by intro _; rfl) :
    DS X C W (.Assign [.Name y py] (.ListComp elt [⟨tg, iter, ifs, 0⟩] scope pos) spos) (sSet i (eComp src g t fe (own.map (·.2)))) := impS (ps_setLc hc hN hy hyl hsw hi ok hg ht he hs) fun D σ H h => by
  obtain ⟨M, env, S, o, env', S', hE, hW, hf, q⟩ := h
  obtain ⟨p, h1, hf⟩ := Option.map_eq_some_iff.mp hf
  cases hf
  exact comp_imp his ⟨M, env, S, p.1, p.2, hE, hW, h1, fun v M1 H1 g1 w1 r1 => q M1 H1 _ g1 w1 ((hE.mono g1).set i r1)⟩
theorem ts_nil : DTs X C [] bYes := ⟨fun pins s σ H Q I h => pts_nil.run pins s σ H Q I (by
  obtain ⟨M, env, S, b, S', hE, hW, hf, q⟩ := h
  cases hf
  exact q M H .refl hW)⟩
theorem ts_one {c : Expr} (h : DT X C c t) : DTs X C [c] t := pts_one h
end
end L2.DL
-- part DSrc
set_option maxHeartbeats 2000000
/-! DSrc: enumerate of lists and tuples, zip of tuples; for over enumerate of a call that may raise. -/
namespace L2.DL
open PySem PySem.Spec PyProof.Rows

/-! ### enumerate(tuple) -/
/-- the tuple at a, each item in a new pair -/
def IteT (K : PySem.W.Frag) (a : Addr) : It :=
  ⟨fun i H => ∃ (xs : List V) (x : V), SqT K H a xs ∧ xs[i]? = some x, fun i H v H' => ∃ T x, v = .ref T ∧ H T = none ∧ H' = upd H T (.tup [.int (i : Nat), x]) ∧ ∀ xs, SqT K H a xs → xs[i]? = some x, fun i H => ∃ xs : List V, SqT K H a xs ∧ xs.length ≤ i⟩
theorem meets_enum_newT (l : Addr) (items : Array Value) :
    Meets (Builtin.«enumerate.__new__» ⟨[.type "enumerate", .ref l], []⟩) (fun _ R s => s.heap.IsTuple l items ∧
      R (.ok (.ret (.ref (s.heap.push { cls := .type "tuple_iterator", data := .fields #[.ref l, .int 0 0] }).objs.size)))
        { s with heap := (s.heap.push { cls := .type "tuple_iterator", data := .fields #[.ref l, .int 0 0] }).push { cls := .type "enumerate", data := .fields #[.none, .bool false, .ref s.heap.objs.size, rawInt 0, .none, .none] } }) :=
  .of_wp fun prog w A R s h => by
    obtain ⟨hp, g, d, tk, os⟩ := s; obtain ⟨hl, h⟩ := h
    have hsub := sub_enumerate
    have q1 : ∀ {A' : Around} {E : Value → Shared → Prop} {Q : Value → Shared → Prop}, Q (.ref hp.objs.size) ⟨hp.push { cls := .type "tuple_iterator", data := .fields #[.ref l, .int 0 0] }, g, d, tk, os⟩ → wpAny (model prog w) A' (pyIter (.ref l)) Q E ⟨hp, g, d, tk, os⟩ :=
      fun q => wpAny_pyIter_tuple hl q
    wp_walk using q1
    refine wpAny_stack_any fun st => wpAny_pure ?_
    split
    · rename_i c _ _ _ _ _
      cases (c == Value.type "enumerate")
      · wp_walk using q1
        exact ⟨_, rfl, h⟩
      · wp_walk using q1
        exact ⟨_, rfl, h⟩
    · wp_walk using q1
      exact ⟨_, rfl, h⟩
section
variable {prog : Program} {w : World} {A : Around} {E : Value → Shared → Prop} {s : Shared}
theorem call_enum_tuple {l : Addr} {items : Array Value} {Q : Value → Shared → Prop} (hL : s.heap.IsTuple l items)
    (h : ∀ h', IsEnum h' (s.heap.objs.size + 1) s.heap.objs.size 0 .none → h'.IsTupleIter s.heap.objs.size l 0 → h'.objs.size = s.heap.objs.size + 2 →
      (∀ b o, s.heap.get? b = some o → h'.get? b = some o) → Q (.ref (s.heap.objs.size + 1)) { s with heap := h' }) :
    wpAny (model prog w) A (call (.type "enumerate") [.ref l]) Q E s := by
  refine callType_new F.called_enumerate (by decide) (F.typeCall_enumerate_1 _) (F.newCall_enumerate_1 _) (fun obj => F.args_object_init_2 obj _) F.entry_enumerate_new
    (meets_enum_newT l items) ⟨hL, ?_⟩
  have hz : (s.heap.push { cls := .type "tuple_iterator", data := .fields #[.ref l, .int 0 0] }).objs.size = s.heap.objs.size + 1 := Heap.size_push ..
  show _ ∧ _
  rw [hz]
  have he : IsEnum ((s.heap.push { cls := .type "tuple_iterator", data := .fields #[.ref l, .int 0 0] }).push
      { cls := .type "enumerate", data := .fields #[.none, .bool false, .ref s.heap.objs.size, rawInt 0, .none, .none] }) (s.heap.objs.size + 1) s.heap.objs.size 0 .none := by
    have := Heap.get?_push_size (s.heap.push { cls := .type "tuple_iterator", data := .fields #[.ref l, .int 0 0] })
      (o := { cls := .type "enumerate", data := .fields #[.none, .bool false, .ref s.heap.objs.size, rawInt 0, .none, .none] }) rfl
    rw [hz] at this; exact this
  refine ⟨⟨_, he, rfl⟩, h _ he ⟨_, Heap.get?_push_of_some _ (Heap.get?_push_size _ rfl), rfl, rfl⟩ (by rw [Heap.size_push, hz]) fun b o x => Heap.get?_push_of_some _ (Heap.get?_push_of_some _ x)⟩
end
theorem turn_enumT {P : Program} {w : World} {K : PySem.W.Frag} {elts : List Expr} {kk : Nat} {tpos : Pos} (a e it : Addr) :
    Turn P w K (.Tuple elts kk tpos) (IteT K a) [e, it] e (fun i h => (∃ old, IsEnum h e it ((i : Nat) : Int) old) ∧ h.IsTupleIter it a i ∧ e ≠ it ∧ e ≠ a ∧ a ≠ it) where
  mem := by simp
  obj := fun i h st b hb => by
    obtain ⟨⟨old, he⟩, ⟨o, ho, hc, hd⟩, _⟩ := st
    have e' : b = e ∨ b = it := by simpa using hb
    rcases e' with z | z
    · rw [z]; exact ⟨_, he, fun v q => nomatch q⟩
    · rw [z]; exact ⟨o, ho, fun v q => by rw [hd] at q; cases q⟩
  keep := fun i h h' st k => let ⟨⟨old, he⟩, hi, hne⟩ := st; ⟨⟨old, k e (by simp) _ he⟩, hi.at fun o q => k it (by simp) o q, hne⟩
  item := by
    intro X hP hw hK hc i pins s σ H E I hf st hg
    subst hP hw hK
    obtain ⟨⟨old, he⟩, hit, hne, hea, hai⟩ := st
    obtain ⟨xs, x, hq, hx⟩ := hg
    obtain ⟨its, rv, p, hz⟩ := I.tuple hq
    obtain ⟨u, hu, ru⟩ := rv.get hx
    have hlt : i < its.toArray.size := by
      have := (List.getElem?_eq_some_iff.mp hu).1
      simpa using this
    have hel : e < s.heap.objs.size := Heap.lt_size he
    have hil : it < s.heap.objs.size := by obtain ⟨_, q, _⟩ := hit; exact Heap.lt_size q
    refine wpAny_pyNext_enum_itemD (Draws.tuple (show X.A.in1.handled = none from I.ok.hd hc) it a hai its.toArray) he ⟨hit, p⟩ hlt hne (by simp [hne, hea]) fun y h' tk hy ho st' hT hsz hk => ?_
    obtain rfl : y = u := by
      have : its.toArray[i]? = some u := by simpa using hu
      rw [this] at hy; cases hy; rfl
    refine ⟨_, rfl, wpAny_letOwnedTupleGo_enum (s := { s with heap := h', toks := tk + 1 }) ho fun h'' he' sb => ?_⟩
    have hT2 : h''.get? s.heap.objs.size = some { cls := .type "tuple", data := .seq #[.int i tk, y] } := (sb.2 _ (Nat.ne_of_gt hel)).trans hT
    have new : ObjOk X.prog X.w (upd H s.heap.objs.size (.tup [.int (i : Nat), x])) h'' s.heap.objs.size (.tup [.int (i : Nat), x]) :=
      ⟨by show 2 ≤ sizeLine; decide, [.int i tk, y], .cons ⟨_, rfl⟩ (.cons ru .nil), ⟨_, hT2, rfl, _, rfl⟩⟩
    have I1 : Inv X pins σ (upd H s.heap.objs.size (.tup [.int (i : Nat), x])) { s with heap := h'', toks := tk + 1 } :=
      I.turnedNew (ch := [e, it]) (fun b ob hb q => (sb.2 b (fun z => hb (by simp [z]))).trans (hk b ob (fun z => hb (by simp [z])) (fun z => hb (by simp [z])) q)) hf (Nat.le_refl _) new
    refine ⟨.ref s.heap.objs.size, _, I1, rfl, ⟨_, x, rfl, I.hok.fresh (Nat.le_refl _), rfl, fun ys hy => by rw [I.tuple_inj hy hq]; exact hx⟩, ⟨⟨y, ?_⟩, st'.1.at fun o q => (sb.2 it (Ne.symm hne)).trans q, hne, hea, hai⟩, fun b hb => ?_⟩
    · have e1 : ((i + 1 : Nat) : Int) = (i : Int) + 1 := by omega
      rw [e1]; exact he'
    · have hb' : b < s.heap.objs.size := by
        have e' : b = e ∨ b = it := by simpa using hb
        rcases e' with z | z
        · rw [z]; exact hel
        · rw [z]; exact hil
      rw [upd_ne (Nat.ne_of_lt hb')]
      exact (hf b hb).1
  done := by
    intro X hP hw hK hc i pins s σ H E I hf st hg
    subst hP hw hK
    obtain ⟨⟨old, he⟩, hit, hne, hea, hai⟩ := st
    obtain ⟨xs, hq, hx⟩ := hg
    obtain ⟨its, rv, p, hz⟩ := I.tuple hq
    obtain ⟨f0, f1, f2, f3, f4, f5⟩ := hf it (by simp)
    have hl := rv.length
    have hT : s.TypeIs (.ref e) "enumerate" := ⟨_, he, rfl⟩
    unfold pyNext
    refine wpAny_bind (wpAny_attempt (wpAny_callSpecial?_slot (name := Str.ofString "__next__") hT F.slot_enumerate_next
      (wpAny_call_entry F.slot_enumerate_next hT F.entry_enumerate_next ?_ (F.args_enumerate_next_1 _))))
    show wpAny _ _ (field (.ref e) 2 >>= _) _ _ _
    refine wpAny_bind (wpAny_field he rfl (x := .ref it) rfl ?_)
    refine wpAny_bind (wpAny_nextOf_tuple_end (show X.A.in1.handled = none from I.ok.hd hc) hit p (by simp; omega) fun h' x eb hx' => ?_)
    obtain ⟨o, ho, hc'⟩ := hx'
    refine wpAny_bind (wpAny_isInstance (T := "StopIteration") (b := true) ⟨o, ho, hc'⟩ isSubtype_stop ?_)
    exact wpAny_pure ⟨rfl, I.turned (t' := s.toks) (fun b o hb q => eb b o hb q) f0 f1 f3 f4 f5⟩
  self := fun A i s Q E st h => let ⟨⟨_, he⟩, _⟩ := st; wpAny_pyIter_enum he h
def iEnumT (K : PySem.W.Frag) (ta : TA) : TI := fun σ H R => ta σ H fun vs H1 => ∃ a xs, vs = [.ref a] ∧ SqT K H1 a xs ∧ R (IteT K a) H1
theorem pi_enumT {X : Cx} {e : Expr} {ta : TA} {p pos tpos : Pos} {elts : List Expr} {kk : Nat} (hg : Gl X "enumerate") (hm : X.mg "enumerate" = none) (ha : PA X [e] ta) (hs : starEach [e] X.env = [(false, eval e X.env)] := by rfl) :
    PI X (.Tuple elts kk tpos) (.Call (.Name "enumerate" p) [e] [] pos) (iEnumT X.K ta) := by
  refine ⟨fun pins s σ H R I h => ?_⟩
  refine Call_ (ld_blt I hg hm boot_enumerate (PyProof.Rows.callWith_type1 (thn (ha.run pos pins s σ H _ I h) fun us s1 ⟨vs, H1, I1, r1, q1⟩ => ?_) hs rfl))
  obtain ⟨a, xs, ex, hq, q⟩ := q1
  subst ex
  cases r1 with
  | cons r rr =>
    cases rr
    cases r
    obtain ⟨its, rv, p', hz⟩ := I1.tuple hq
    have hal : a < s1.heap.objs.size := by obtain ⟨_, q, _⟩ := p'; exact Heap.lt_size q
    refine call_enum_tuple p' fun h' he hit hsz hk => wpAny_pyIter_enum he ?_
    have I2 : Inv X pins σ H1 { s1 with heap := h' } := I1.kept (t' := s1.toks) hk
    refine ⟨s1.heap.objs.size + 1, [s1.heap.objs.size + 1, s1.heap.objs.size], _, _, H1, rfl, I2, turn_enumT a (s1.heap.objs.size + 1) s1.heap.objs.size, ⟨⟨.none, he⟩, hit, Nat.succ_ne_self _, Nat.ne_of_gt (Nat.lt_succ_of_lt hal), Nat.ne_of_lt hal⟩, fun b hb => ?_, q⟩
    have e' : b = s1.heap.objs.size + 1 ∨ b = s1.heap.objs.size := by simpa using hb
    have hle : s1.heap.objs.size ≤ b := by
      rcases e' with z | z
      · rw [z]; exact Nat.le_add_right _ _
      · rw [z]; exact Nat.le_refl _
    exact I1.fpOk hle (I1.hok.fresh hle)

/-! ### the readings -/
def enumL (i : Nat) : List D → List D
  | [] => []
  | d :: ds => .tup [.int (i : Nat), d] :: enumL (i + 1) ds
theorem enumL_length : ∀ (i : Nat) (ds : List D), (enumL i ds).length = ds.length
  | _, [] => rfl
  | i, d :: ds => by rw [enumL, List.length_cons, List.length_cons, enumL_length]
theorem enumL_get : ∀ (i : Nat) (ds : List D) (j : Nat), (enumL i ds)[j]? = (ds[j]?).map fun d => .tup [.int ((i + j : Nat) : Int), d]
  | _, [], j => by simp [enumL]
  | i, d :: ds, 0 => by simp [enumL]
  | i, d :: ds, j + 1 => by
    rw [enumL, List.getElem?_cons_succ, List.getElem?_cons_succ, enumL_get]
    rw [show i + 1 + j = i + (j + 1) by omega]
def zipL : List D → List D → List D
  | a :: as, b :: bs => .tup [a, b] :: zipL as bs
  | _, _ => []
theorem zipL_get : ∀ (as bs : List D) (j : Nat), (zipL as bs)[j]? = (as[j]?).bind fun a => (bs[j]?).map fun b => .tup [a, b]
  | [], bs, j => by simp [zipL]
  | a :: as, [], j => by simp [zipL]
  | a :: as, b :: bs, 0 => by simp [zipL]
  | a :: as, b :: bs, j + 1 => by simp [zipL, zipL_get as bs j]
theorem zipL_length : ∀ (as bs : List D), (zipL as bs).length = min as.length bs.length
  | [], bs => by simp [zipL]
  | a :: as, [] => by simp [zipL]
  | a :: as, b :: bs => by simp [zipL, zipL_length as bs]
section
variable {K : PySem.W.Frag} {M : Mem} {H : Hp}
theorem rep_pair {M2 : Mem} {H2 : Hp} {T : Addr} {dx dy : D} {x y : V} (ht : ∀ a ∈ M2, ∃ o, H2 a = some o) (nT : H2 T = none) (rx : Rep K M2 H2 dx x) (ry : Rep K M2 H2 dy y) :
    Rep K M2 (upd H2 T (.tup [x, y])) (.tup [dx, dy]) (.ref T) := by
  simp only [Rep]
  refine ⟨T, [x, y], rfl, fun z => ?_, upd_same, ?_⟩
  · obtain ⟨o, e⟩ := ht T z
    rw [nT] at e; cases e
  · exact .cons (rx.mono (.same (same_new nT))) (.cons (ry.mono (.same (same_new nT))) .nil)
theorem walk_enumL {a : Addr} {ds : List D} {xs : List V} (hn : a ∉ M) (ha : H a = some (.lst xs)) (r : RepL K M H ds xs) : Walk K M H (Ite K a) (enumL 0 ds) := by
  intro i M2 H2 g ht
  have h2 := (g.keep a _ ha hn (fun _ z => by cases z)).2
  have r2 := r.move g
  refine ⟨fun d hd => ?_, fun hl => ?_⟩
  · rw [enumL_get] at hd
    obtain ⟨d', hd', e⟩ := Option.map_eq_some_iff.mp hd
    subst e
    obtain ⟨x, hx, rx⟩ := r2.get hd'
    refine ⟨⟨xs, x, .of h2, hx⟩, fun y H3 hy => ?_⟩
    obtain ⟨T, x', rfl, nT, rfl, hy⟩ := hy
    have e := hy xs (.of h2)
    rw [hx] at e; cases e
    refine ⟨same_new nT, rep_pair ht nT (by rw [Nat.zero_add]; exact repI _) rx⟩
  · rw [enumL_length] at hl
    exact ⟨xs, .of h2, by rw [← r2.length]; exact hl⟩
theorem walk_enumT {a : Addr} {ds : List D} {xs : List V} (hn : a ∉ M) (ha : H a = some (.tup xs)) (r : RepL K M H ds xs) : Walk K M H (IteT K a) (enumL 0 ds) := by
  intro i M2 H2 g ht
  have h2 := (g.keep a _ ha hn (fun _ z => by cases z)).2
  have r2 := r.move g
  refine ⟨fun d hd => ?_, fun hl => ?_⟩
  · rw [enumL_get] at hd
    obtain ⟨d', hd', e⟩ := Option.map_eq_some_iff.mp hd
    subst e
    obtain ⟨x, hx, rx⟩ := r2.get hd'
    refine ⟨⟨xs, x, .of h2, hx⟩, fun y H3 hy => ?_⟩
    obtain ⟨T, x', rfl, nT, rfl, hy⟩ := hy
    have e := hy xs (.of h2)
    rw [hx] at e; cases e
    refine ⟨same_new nT, rep_pair ht nT (by rw [Nat.zero_add]; exact repI _) rx⟩
  · rw [enumL_length] at hl
    exact ⟨xs, .of h2, by rw [← r2.length]; exact hl⟩
theorem walk_zipT {a b : Addr} {ds es : List D} {xs ys : List V} (hn : a ∉ M) (ha : H a = some (.tup xs)) (r : RepL K M H ds xs) (hn' : b ∉ M) (hb : H b = some (.tup ys)) (r' : RepL K M H es ys) : Walk K M H (RZ.ItzT K a b) (zipL ds es) := by
  intro i M2 H2 g ht
  have h2 := (g.keep a _ ha hn (fun _ z => by cases z)).2
  have h3 := (g.keep b _ hb hn' (fun _ z => by cases z)).2
  have r2 := r.move g
  have r3 := r'.move g
  refine ⟨fun d hd => ?_, fun hl => ?_⟩
  · rw [zipL_get] at hd
    obtain ⟨d1, hd1, hd⟩ := Option.bind_eq_some_iff.mp hd
    obtain ⟨d2, hd2, e⟩ := Option.map_eq_some_iff.mp hd
    subst e
    obtain ⟨x, hx, rx⟩ := r2.get hd1
    obtain ⟨y, hy, ry⟩ := r3.get hd2
    refine ⟨⟨xs, ys, x, y, .of h2, .of h3, hx, hy⟩, fun v H3 hv => ?_⟩
    obtain ⟨T, x', y', rfl, nT, rfl, k1, k2⟩ := hv
    have e := k1 xs (.of h2)
    rw [hx] at e; cases e
    have e := k2 ys (.of h3)
    rw [hy] at e; cases e
    exact ⟨same_new nT, rep_pair ht nT rx ry⟩
  · rw [zipL_length] at hl
    refine ⟨xs, ys, .of h2, .of h3, ?_⟩
    rw [← r2.length, ← r3.length]
    omega
end
def enL (f : AM) : AM := fun env S => (f env S).bind fun p => match p.1 with
  | [.lst ds] => some (enumL 0 ds, p.2)
  | _ => none
def enT (f : AM) : AM := fun env S => (f env S).bind fun p => match p.1 with
  | [.tup ds] => some (enumL 0 ds, p.2)
  | _ => none
def zpT (f : AM) : AM := fun env S => (f env S).bind fun p => match p.1 with
  | [.tup ds, .tup es] => some (zipL ds es, p.2)
  | _ => none
section
variable {X : Cx} {C : Ctx} {e e2 : Expr} {fa : AM} {p pos tpos : Pos} {elts : List Expr} {kk : Nat}
theorem i_enumL (hm : X.mg "enumerate" = none) (ha : DA X C [e] fa) (hg : Gl X "enumerate" := by rfl) (hs : starEach [e] X.env = [(false, eval e X.env)] := by rfl) : DI X C (.Tuple elts kk tpos) (.Call (.Name "enumerate" p) [e] [] pos) (enL fa) := impI (pi_enum hg hm ha hs) fun σ H R h => by
  obtain ⟨M, env, S, ds, S', hE, hW, hf, q⟩ := h
  obtain ⟨⟨d, S1⟩, h1, hf⟩ := Option.bind_eq_some_iff.mp hf
  dsimp only at hf
  split at hf
  · cases hf
    refine ⟨M, env, S, _, _, hE, hW, h1, fun v M1 H1 g1 w1 rs => ?_⟩
    obtain ⟨x, rfl, r1⟩ := one_inv rs
    simp only [Rep] at r1
    obtain ⟨a, xs, rfl, hn, ha, ra⟩ := r1
    exact ⟨a, xs, rfl, .of ha, q _ M1 H1 g1 w1 (walk_enumL hn ha ra)⟩
  · cases hf
theorem i_enumT (hm : X.mg "enumerate" = none) (ha : DA X C [e] fa) (hg : Gl X "enumerate" := by rfl) (hs : starEach [e] X.env = [(false, eval e X.env)] := by rfl) : DI X C (.Tuple elts kk tpos) (.Call (.Name "enumerate" p) [e] [] pos) (enT fa) := impI (pi_enumT hg hm ha hs) fun σ H R h => by
  obtain ⟨M, env, S, ds, S', hE, hW, hf, q⟩ := h
  obtain ⟨⟨d, S1⟩, h1, hf⟩ := Option.bind_eq_some_iff.mp hf
  dsimp only at hf
  split at hf
  · cases hf
    refine ⟨M, env, S, _, _, hE, hW, h1, fun v M1 H1 g1 w1 rs => ?_⟩
    obtain ⟨x, rfl, r1⟩ := one_inv rs
    simp only [Rep] at r1
    obtain ⟨a, xs, rfl, hn, ha, ra⟩ := r1
    exact ⟨a, xs, rfl, .of ha, q _ M1 H1 g1 w1 (walk_enumT hn ha ra)⟩
  · cases hf
theorem i_zipT (hm : X.mg "zip" = none) (ha : DA X C [e, e2] fa) (hg : Gl X "zip" := by rfl) (hs : starEach [e, e2] X.env = (false, eval e X.env) :: starEach [e2] X.env := by rfl) (hpl : (backTo pos (starEach [e2] X.env)).any (·.1) = false := by rfl) : DI X C (.Tuple elts kk tpos) (.Call (.Name "zip" p) [e, e2] [] pos) (zpT fa) := impI (RZ.pi_zipA hg hm ha hs hpl) fun σ H R h => by
  obtain ⟨M, env, S, ds, S', hE, hW, hf, q⟩ := h
  obtain ⟨⟨d, S1⟩, h1, hf⟩ := Option.bind_eq_some_iff.mp hf
  dsimp only at hf
  split at hf
  · cases hf
    refine ⟨M, env, S, _, _, hE, hW, h1, fun v M1 H1 g1 w1 rs => ?_⟩
    obtain ⟨x, r, rfl, rx, rs⟩ := rs.cons_inv
    obtain ⟨y, rfl, ry⟩ := one_inv rs
    simp only [Rep] at rx ry
    obtain ⟨a, xs, rfl, hn, ha, ra⟩ := rx
    obtain ⟨b, ys, rfl, hn', hb, rb⟩ := ry
    exact ⟨a, b, xs, ys, rfl, .inr ⟨.of ha, .of hb, q _ M1 H1 g1 w1 (walk_zipT hn ha ra hn' hb rb)⟩⟩
  · cases hf
end
/-- for .. in enumerate(a call that may raise, of a list) -/
def sForEX (f : XM) (g : D → DEnv → Option DEnv) (b : SM) : SM := fun env S => (f env S).bind fun p => match p.1 with
  | .ok (.lst ds) => forD g b (enumL 0 ds) env p.2
  | .ok _ => none
  | .error x => some (.ex x, env, p.2)
section
variable {X : Cx} {C : Ctx} {W : WX} {e : Expr} {body : List Stmt} {fx : XM} {is : List Nat} {g : D → DEnv → Option DEnv} {b : SM} {p pos pos' tpos : Pos} {elts : List Expr} {kk : Nat}
theorem ds_forEX (hp : PassesOwn (model X.prog X.w) X.A X.env X.xe) (hc : X.calm = true) (hm : X.mg "enumerate" = none) (he : DX X C W e fx) (hg : DG X (.Tuple elts kk tpos) is g) (hb : DSs X C W body b) (hgl : Gl X "enumerate" := by rfl)
    (hs1 : starEach [e] X.env = [(false, eval e X.env)] := by rfl) (hs : ∀ x, foldedSetIterable (.Call (.Name "enumerate" p) [e] [] pos') X.env x = pure x := by intro _; rfl) :
    DS X C W (.For (.Tuple elts kk tpos) (.Call (.Name "enumerate" p) [e] [] pos') body [] pos) (sForEX fx g b) := impS (ps_for hp hc (pi_enum hgl hm (pa_cons he pa_nil hs1) hs1) hg hb hs) fun D σ H h => by
  obtain ⟨M, env, S, o, env', S', hE, hW, hf, q⟩ := h
  obtain ⟨⟨r, S1⟩, h1, hf⟩ := Option.bind_eq_some_iff.mp hf
  refine ⟨M, env, S, r, S1, hE, hW, h1, ?_⟩
  cases r with
  | error x => cases hf; exact fun cls dd M1 H1 g1 w1 r1 => q cls dd M1 H1 σ g1 w1 (hE.mono g1) r1
  | ok d =>
    intro v M1 H1 g1 w1 r1
    cases d <;> first | (cases hf; done) | skip
    simp only [Rep] at r1
    obtain ⟨a, xs, rfl, hn, ha, ra⟩ := r1
    exact ⟨a, xs, rfl, .of ha, for_core (hE.mono g1) w1 (walk_enumL hn ha ra) hf (q.after g1)⟩
end
end L2.DL
-- part DMut
set_option maxHeartbeats 2000000
/-! DMut: cells changed, dicts, tuple(range), tuple * n, sorted. -/
namespace L2.DL
open PySem PySem.Spec PyProof.Rows

/-! ### a cell changed -/
theorem in_of {α : Type} {l : List α} {a b : α} (h : a ∈ l) (z : b = a) : b ∈ l := by rw [z]; exact h
section
variable {K : PySem.W.Frag} {C : Ctx} {M : Mem} {H : Hp} {S : Sto}
theorem tab_upd {p : Addr × Str} {a : Addr} {u o : HO} (h : TabOk H p) (ht : H a = some o) (h1 : ∀ ps, o ≠ .tbl ps) (h2 : ∀ c e, LamX.CodeO c e ≠ o) : TabOk (upd H a u) p := by
  obtain ⟨b, r⟩ := p
  obtain ⟨ps, k1, k2, k3⟩ := h
  refine ⟨ps, by rw [upd_ne (ne_of k1 ht (fun z => h1 _ z.symm))]; exact k1, k2, fun pos cv hc => ?_⟩
  obtain ⟨c, e, k4⟩ := k3 pos cv hc
  refine ⟨c, e, ?_⟩
  rw [upd_ne (ne_of k4 ht (h2 _ _))]; exact k4
theorem Gr.mutate (w : Wd K C M H S) {a : Addr} {u : HO} (ha : a ∈ M.c) : Gr M H M (upd H a u) := by
  refine ⟨⟨[], by simp⟩, rfl, fun _ h => .inl h, fun b o h hn _ => ?_, fun b hb o h => ?_⟩
  · rw [upd_ne (fun z => hn (.inl (in_of ha z)))]; exact h
  · rw [upd_ne (fun z => (w.zs b hb).1 (in_of ha z))]; exact h
theorem nodup_at {α : Type} {l : List α} (h : l.Nodup) {i j : Nat} {a : α} (h1 : l[i]? = some a) (h2 : l[j]? = some a) : i = j := by
  obtain ⟨k1, e1⟩ := List.getElem?_eq_some_iff.mp h1
  obtain ⟨k2, e2⟩ := List.getElem?_eq_some_iff.mp h2
  have n := List.pairwise_iff_getElem.mp h
  rcases Nat.lt_trichotomy i j with q | q | q
  · exact absurd (e1.trans e2.symm) (n i j k1 k2 q)
  · exact q
  · exact absurd (e2.trans e1.symm) (n j i k2 k1 q)
theorem Wd.mutate (w : Wd K C M H S) {n : Nat} {a : Addr} {o u : HO} {c' : Cell} (hn : M.c[n]? = some a) (ht : H a = some o) (h1 : ∀ ps, o ≠ .tbl ps) (h2 : ∀ c e, LamX.CodeO c e ≠ o) (new : CellOk K M (upd H a u) a c') :
    Wd K C M (upd H a u) (S.set n c') := by
  have ha : a ∈ M.c := List.mem_of_getElem? hn
  have g : Gr M H M (upd H a u) := Gr.mutate w ha
  refine ⟨by simp [w.len], w.nd, fun m b c k1 k2 => ?_, fun p hp => tab_upd (w.tab p hp) ht h1 h2, fun b hb => ⟨(w.zs b hb).1, ?_⟩⟩
  · by_cases e : n = m
    · subst e
      have hl : n < S.length := by rw [← w.len]; exact (List.getElem?_eq_some_iff.mp hn).1
      rw [List.getElem?_set_self hl] at k2
      cases k2
      rw [hn] at k1; cases k1
      exact new
    · rw [List.getElem?_set_ne e] at k2
      have nb : b ≠ a := fun z => e (nodup_at w.nd hn (z ▸ k1))
      have q := w.cell m b c k1 k2
      cases c with
      | lst ds => obtain ⟨xs, q1, q2⟩ := q; exact ⟨xs, by rw [upd_ne nb]; exact q1, q2.mono g⟩
      | dct kvs => obtain ⟨ps, q1, q2⟩ := q; exact ⟨ps, by rw [upd_ne nb]; exact q1, q2.mono g⟩
  · obtain ⟨o', h⟩ := (w.zs b hb).2
    rw [upd_ne (fun z => (w.zs b hb).1 (in_of ha z))]; exact ⟨o', h⟩
theorem code_not_lst : ∀ (c : Str) (e : Option Addr) (xs : List V), True := fun _ _ _ => trivial
theorem rep_mu {n : Nat} {v : V} (h : Rep K M H (.mu n) v) : ∃ a, v = .ref a ∧ M.c[n]? = some a := by simpa only [Rep] using h
theorem Wd.lcell (w : Wd K C M H S) {n : Nat} {a : Addr} {ds : List D} (hn : M.c[n]? = some a) (hs : S[n]? = some (.lst ds)) : ∃ xs, H a = some (.lst xs) ∧ RepL K M H ds xs := w.cell n a _ hn hs
theorem Wd.dcell (w : Wd K C M H S) {n : Nat} {a : Addr} {kvs : List (List Nat × D)} (hn : M.c[n]? = some a) (hs : S[n]? = some (.dct kvs)) : ∃ ps, H a = some (.dK ps) ∧ RepK K M H kvs ps := w.cell n a _ hn hs
theorem Wd.setL (w : Wd K C M H S) {n : Nat} {a : Addr} {xs ys : List V} {ds : List D} (hn : M.c[n]? = some a) (ht : H a = some (.lst xs)) (r : RepL K M H ds ys) : Wd K C M (upd H a (.lst ys)) (S.set n (.lst ds)) :=
  w.mutate hn ht (fun _ z => by cases z) (fun _ _ z => by unfold LamX.CodeO at z; cases z) ⟨ys, upd_same, r.mono (Gr.mutate w (List.mem_of_getElem? hn))⟩
theorem Wd.setK (w : Wd K C M H S) {n : Nat} {a : Addr} {xs ys : List (Key × V)} {ds : List (List Nat × D)} (hn : M.c[n]? = some a) (ht : H a = some (.dK xs)) (r : RepK K M H ds ys) : Wd K C M (upd H a (.dK ys)) (S.set n (.dct ds)) :=
  w.mutate hn ht (fun _ z => by cases z) (fun _ _ z => by unfold LamX.CodeO at z; cases z) ⟨ys, upd_same, r.mono (Gr.mutate w (List.mem_of_getElem? hn))⟩
end

/-! ### xs.append(e); xs[i] = e -/
def isLst : Option Cell → Bool
  | some (.lst _) => true
  | _ => false
def sAppend (fo fe : EM) : SM := fun env S => (fo env S).bind fun p => match p.1 with
  | .mu n => if isLst p.2[n]? then (fe env p.2).bind fun q => (match q.2[n]? with
    | some (.lst ds) => if ds.length < 16777216 then some (.nx, env, q.2.set n (.lst (ds ++ [q.1]))) else none
    | _ => none) else none
  | _ => none
def sSetIx (fo fi fe : EM) : SM := fun env S => (fe env S).bind fun p => (fo env p.2).bind fun q => match q.1 with
  | .mu n => (fi env q.2).bind fun r => match r.1 with
    | .int k => (match r.2[n]? with
      | some (.lst ds) => (ixN ds.length k).map fun j => (.nx, env, r.2.set n (.lst (ds.set j p.1)))
      | _ => none)
    | _ => none
  | _ => none
section
variable {X : Cx} {C : Ctx} {W : WX} {o e i : Expr} {fo fe fi : EM} {pos pos' apos cpos : Pos}
theorem ds_append (ho : DE X C o fo) (he : DE X C e fe) (hs : swapsWith (.Call (.Attribute o "append" apos) [e] [] cpos) none pos.line X.env = pure false := by rfl)
    (hbase : attributeBase o "append" X.env (eval o X.env) = eval o X.env := by rfl)
    (hfew : ((backTo cpos (starEach [e] X.env)).all (fun x => !x.1) && (backToKw cpos (keywordEach [] X.env)).all (fun x => x.1.isSome)
      && decide ([e].length + ([] : List Keyword).length + (if ([] : List Keyword).isEmpty then 0 else 1) < 30)) = true := by rfl)
    (hline : (apos.endLine == cpos.line) = true := by rfl) (hst : starEach [e] X.env = (false, eval e X.env) :: starEach [] X.env := by rfl) :
    DS X C W (.Expr (.Call (.Attribute o "append" apos) [e] [] cpos) pos) (sAppend fo fe) :=
  impS (ps_expr (pe_bm PySem.F.plainAttrs_list PySem.F.slot_list_append PySem.F.type_list_append mt_append ho (pa_cons he pa_nil hst) hbase hfew hline hst rfl) hs) fun Dn σ H h => by
    obtain ⟨M, env, S, out, env', S', hE, hW, hf, q⟩ := h
    obtain ⟨⟨p, S1⟩, h1, hf⟩ := Option.bind_eq_some_iff.mp hf
    refine ⟨M, env, S, p, S1, hE, hW, h1, fun v M1 H1 g1 w1 r1 => ?_⟩
    cases p <;> first | (cases hf; done) | skip
    rename_i n
    obtain ⟨a, rfl, hn⟩ := rep_mu r1
    dsimp only at hf
    split at hf
    rotate_left
    · cases hf
    rename_i hil
    obtain ⟨⟨d, S2⟩, h2, hf⟩ := Option.bind_eq_some_iff.mp hf
    have ty : tyV X.K "list" (.ref a) H1 := by
      cases hc : S1[n]? with
      | none => rw [hc] at hil; cases hil
      | some c =>
        cases c with
        | lst ds => obtain ⟨xs, k1, _⟩ := w1.lcell hn hc; exact .inl ⟨rfl, xs, .of k1⟩
        | dct kvs => rw [hc] at hil; cases hil
    refine ⟨ty, M1, env, S1, d, S2, hE.mono g1, w1, h2, fun u M2 H2 g2 w2 r2 => ?_⟩
    dsimp only at hf
    split at hf
    · rename_i ds hs
      split at hf
      · rename_i hl
        cases hf
        obtain ⟨N, eN⟩ := g2.ext
        have hn2 : M2.c[n]? = some a := by rw [eN, List.getElem?_append_left (List.getElem?_eq_some_iff.mp hn).1]; exact hn
        obtain ⟨xs, k1, k2⟩ := w2.lcell hn2 hs
        refine ⟨a, xs, u, rfl, rfl, k1, by rw [← k2.length, line_eq]; exact hl, ?_⟩
        have gm : Gr M2 H2 M2 (upd H2 a (.lst (xs ++ [u]))) := Gr.mutate w2 (List.mem_of_getElem? hn2)
        exact q M2 _ σ ((g1.trans g2).trans gm) (w2.setL hn2 k1 (k2.snoc r2)) (((hE.mono g1).mono g2).mono gm)
      · cases hf
    · cases hf

theorem grow_at {M M' : Mem} {H H' : Hp} {n : Nat} {a : Addr} (g : Gr M H M' H') (hn : M.c[n]? = some a) : M'.c[n]? = some a := by
  obtain ⟨N, eN⟩ := g.ext
  rw [eN, List.getElem?_append_left (List.getElem?_eq_some_iff.mp hn).1]; exact hn
theorem ds_setIx (ho : DE X C o fo) (hi : DE X C i fi) (he : DE X C e fe) (hs : swapsWithSole [.Subscript o i pos'] e pos.line X.env = pure false := by rfl) (hw : swappedStores [.Subscript o i pos'] e X.env = pure none := by rfl)
    (h1 : (assignEach [.Subscript o i pos'] X.env).map (·.2) = [assign (.Subscript o i pos') X.env] := by rfl)
    (ha : ∀ v, assign (.Subscript o i pos') X.env v = (do
      let ov ← holding [v] (eval o X.env)
      let iv ← holding [v, ov] (eval i X.env)
      standAt pos'
      holding [v, ov, iv] (setItem ov iv v)
      release [v, ov, iv] []) := by intro _; rfl) : DS X C W (.Assign [.Subscript o i pos'] e pos) (sSetIx fo fi fe) :=
  impS (ps_asg he (pg_sub ho hi set_list ha) hs hw h1) fun Dn σ H h => by
    obtain ⟨M, env, S, out, env', S', hE, hW, hf, q⟩ := h
    obtain ⟨⟨p, S1⟩, h1, hf⟩ := Option.bind_eq_some_iff.mp hf
    refine ⟨M, env, S, p, S1, hE, hW, h1, fun v M1 H1 g1 w1 r1 => ?_⟩
    obtain ⟨⟨d, S2⟩, h2, hf⟩ := Option.bind_eq_some_iff.mp hf
    refine ⟨M1, env, S1, d, S2, hE.mono g1, w1, h2, fun u M2 H2 g2 w2 r2 => ?_⟩
    cases d <;> first | (cases hf; done) | skip
    rename_i n
    obtain ⟨⟨d3, S3⟩, h3, hf⟩ := Option.bind_eq_some_iff.mp hf
    refine ⟨M2, env, S2, d3, S3, (hE.mono g1).mono g2, w2, h3, fun t M3 H3 g3 w3 r3 => ?_⟩
    cases d3 <;> first | (cases hf; done) | skip
    rename_i k
    dsimp only at hf
    split at hf
    · rename_i ds hs
      obtain ⟨j, hj, hf⟩ := Option.map_eq_some_iff.mp hf
      cases hf
      obtain ⟨a, rfl, hn⟩ := rep_mu (r2.mono g3)
      obtain ⟨xs, k1, k2⟩ := w3.lcell hn hs
      refine ⟨a, xs, k, j, rfl, rep_int r3, k1, by rw [← k2.length]; exact hj, ?_⟩
      have gm : Gr M3 H3 M3 (upd H3 a (.lst (xs.set j v))) := Gr.mutate w3 (List.mem_of_getElem? hn)
      exact q M3 _ σ (((g1.trans g2).trans g3).trans gm) (w3.setL hn k1 (k2.set j ((r1.mono g2).mono g3))) ((((hE.mono g1).mono g2).mono g3).mono gm)
    · cases hf
end

/-! ### dicts of texts -/
def putD (kvs : List (List Nat × D)) (k : List Nat) (v : D) : List (List Nat × D) := if (kvs.any fun kv => decide (kv.1 = k)) = true then kvs.map (fun kv => if kv.1 = k then (kv.1, v) else kv) else kvs ++ [(k, v)]
def getD (kvs : List (List Nat × D)) (k : List Nat) : Option D := (kvs.find? fun kv => decide (kv.1 = k)).map (·.2)
def mergeD (kvs more : List (List Nat × D)) : List (List Nat × D) := more.foldl (fun acc kv => putD acc kv.1 kv.2) kvs
theorem mkS_iff {a b : List Nat} : mkS a = mkS b ↔ a = b := ⟨fun h => by simpa [mkS] using h, fun h => by rw [h]⟩
section
variable {K : PySem.W.Frag} {M : Mem} {H : Hp}
theorem repK_cons_inv {p : List Nat × D} {r : List (List Nat × D)} {ps : List (Key × V)} (h : RepK K M H (p :: r) ps) : ∃ q t, ps = q :: t ∧ q.1 = .inr (mkS p.1) ∧ Rep K M H p.2 q.2 ∧ RepK K M H r t := by
  cases h with
  | cons a b => exact ⟨_, _, rfl, a.1, a.2, b⟩
theorem repK_any (k : List Nat) : ∀ {kvs : List (List Nat × D)} {ps : List (Key × V)}, RepK K M H kvs ps → (ps.any fun kv => decide (kv.1 = .inr (mkS k))) = (kvs.any fun kv => decide (kv.1 = k))
  | [], ps, h => by cases h; rfl
  | p :: r, ps, h => by
    obtain ⟨q, t, rfl, e, _, h2⟩ := repK_cons_inv h
    rw [List.any_cons, List.any_cons, repK_any k h2, e]
    congr 1
    rw [Bool.eq_iff_iff, decide_eq_true_eq, decide_eq_true_eq]
    exact ⟨fun z => by injection z with z; exact mkS_iff.mp z, fun z => by rw [z]⟩
theorem repK_map (k : List Nat) {d : D} {v : V} (r : Rep K M H d v) : ∀ {kvs : List (List Nat × D)} {ps : List (Key × V)}, RepK K M H kvs ps →
    RepK K M H (kvs.map fun kv => if kv.1 = k then (kv.1, d) else kv) (ps.map fun kv => if kv.1 = .inr (mkS k) then (kv.1, v) else kv)
  | [], ps, h => by cases h; exact .nil
  | p :: rs, ps, h => by
    obtain ⟨q, t, rfl, e, h1, h2⟩ := repK_cons_inv h
    rw [List.map_cons, List.map_cons]
    refine .cons ?_ (repK_map k r h2)
    by_cases z : p.1 = k
    · rw [if_pos z, if_pos (by rw [e, z])]
      exact ⟨e, r⟩
    · rw [if_neg z, if_neg (fun y => z (by rw [e] at y; injection y with y; exact mkS_iff.mp y))]
      exact ⟨e, h1⟩
theorem repK_append : ∀ {kvs k2 : List (List Nat × D)} {ps p2 : List (Key × V)}, RepK K M H kvs ps → RepK K M H k2 p2 → RepK K M H (kvs ++ k2) (ps ++ p2)
  | [], k2, ps, p2, h, h' => by cases h; exact h'
  | p :: r, k2, ps, p2, h, h' => by
    obtain ⟨q, t, rfl, e, h1, h2⟩ := repK_cons_inv h
    exact .cons ⟨e, h1⟩ (repK_append h2 h')
theorem repK_put {kvs : List (List Nat × D)} {ps : List (Key × V)} (h : RepK K M H kvs ps) (k : List Nat) {d : D} {v : V} (r : Rep K M H d v) : RepK K M H (putD kvs k d) (putK ps (.inr (mkS k)) v) := by
  unfold putD putK
  rw [repK_any k h]
  split
  · exact repK_map k r h
  · exact repK_append h (.cons ⟨rfl, r⟩ .nil)
theorem repK_get (k : List Nat) {d : D} : ∀ {kvs : List (List Nat × D)} {ps : List (Key × V)}, RepK K M H kvs ps → getD kvs k = some d → ∃ v, valV ps (.inr (mkS k)) = some v ∧ Rep K M H d v
  | [], ps, h, e => by cases e
  | p :: r, ps, h, e => by
    obtain ⟨q, t, rfl, eq, h1, h2⟩ := repK_cons_inv h
    by_cases z : p.1 = k
    · have e2 : getD (p :: r) k = some p.2 := by simp [getD, List.find?_cons, z]
      rw [e2] at e; cases e
      exact ⟨q.2, valV_pos (by rw [eq, z]), h1⟩
    · have e2 : getD (p :: r) k = getD r k := by simp [getD, List.find?_cons, z]
      rw [e2] at e
      obtain ⟨v, k1, k2⟩ := repK_get k h2 e
      exact ⟨v, by rw [valV_neg (fun y => z (by rw [eq] at y; injection y with y; exact mkS_iff.mp y))]; exact k1, k2⟩
theorem repK_merge : ∀ {more : List (List Nat × D)} {ms : List (Key × V)} {kvs : List (List Nat × D)} {ps : List (Key × V)}, RepK K M H kvs ps → RepK K M H more ms → RepK K M H (mergeD kvs more) (mergeK ps ms)
  | [], ms, kvs, ps, h, hm => by cases hm; exact h
  | p :: r, ms, kvs, ps, h, hm => by
    obtain ⟨q, t, rfl, e, h1, h2⟩ := repK_cons_inv hm
    obtain ⟨q1, q2⟩ := q
    have e : q1 = .inr (mkS p.1) := e
    subst e
    exact repK_merge (kvs := putD kvs p.1 p.2) (ps := putK ps (.inr (mkS p.1)) q2) (repK_put h p.1 h1) h2
theorem RepK.length {kvs : List (List Nat × D)} {ps : List (Key × V)} (h : RepK K M H kvs ps) : kvs.length = ps.length := Paired.length h
end
/-- d[k] -/
def eDGet (fo fi : EM) : EM := fun env S => (fo env S).bind fun p => (fi env p.2).bind fun q => match p.1 with
  | .mu n => (match q.1 with
    | .str k => (match q.2[n]? with
      | some (.dct kvs) => (getD kvs k).map fun d => (d, q.2)
      | _ => none)
    | _ => none)
  | _ => none
/-- d[k] = v -/
def sDPutD (fo fi fe : EM) : SM := fun env S => (fe env S).bind fun p => (fo env p.2).bind fun q => (fi env q.2).bind fun r => match q.1 with
  | .mu n => (match r.1 with
    | .str k => (match r.2[n]? with
      | some (.dct kvs) => if kvs.length < 16777216 then some (.nx, env, r.2.set n (.dct (putD kvs k p.1))) else none
      | _ => none)
    | _ => none)
  | _ => none
def pairsD : List D → Option (List (List Nat × D))
  | [] => some []
  | .tup [.str k, v] :: r => (pairsD r).map fun t => (k, v) :: t
  | _ => none
/-- dict([(k, v), ..]) -/
def eDict (fa : AM) : EM := fun env S => (fa env S).bind fun p => match p.1 with
  | [.lst ds] => (pairsD ds).map fun kvs => (.mu p.2.length, p.2 ++ [.dct (mergeD [] kvs)])
  | _ => none
theorem pairs_rep {K : PySem.W.Frag} {M : Mem} {H : Hp} : ∀ {ds : List D} {kvs : List (List Nat × D)} {xs : List V}, pairsD ds = some kvs → RepL K M H ds xs →
    ∃ (ps : List Addr) (ks : List (Key × V)), xs = ps.map V.ref ∧ Paired (fun p kv => SqT K H p [kV kv.1, kv.2]) ps ks ∧ RepK K M H kvs ks
  | [], kvs, xs, h, r => by
    cases h
    rw [r.nil_inv]
    exact ⟨[], [], rfl, .nil, .nil⟩
  | d :: ds, kvs, xs, h, r => by
    obtain ⟨x, t, rfl, rx, rt⟩ := r.cons_inv
    unfold pairsD at h
    split at h
    · rename_i e1; cases e1
    · rename_i k v r' e1
      cases e1
      obtain ⟨t', h1, e2⟩ := Option.map_eq_some_iff.mp h
      subst e2
      obtain ⟨ps, ks, rfl, q1, q2⟩ := pairs_rep h1 rt
      obtain ⟨a, ys, rfl, ha, ra⟩ := rep_tup rx
      obtain ⟨y1, t1, rfl, r1, ra⟩ := ra.cons_inv
      obtain ⟨y2, rfl, r2⟩ := one_inv ra
      rw [rep_str r1] at ha
      exact ⟨a :: ps, (.inr (mkS k), y2) :: ks, rfl, .cons (.of ha) q1, .cons ⟨rfl, r2⟩ q2⟩
    · cases h
section
variable {X : Cx} {C : Ctx} {W : WX} {o e i : Expr} {fo fe fi : EM} {fa : AM} {p pos pos' : Pos}
theorem d_dget (hu : X.A.units + 1 < cLine) (ho : DE X C o fo) (hi : DE X C i fi) (hs : NoSl i) : DE X C (.Subscript o i pos) (eDGet fo fi) := impE (pe_dget hu ho hi hs) fun σ H Q h => by
  obtain ⟨M, env, S, d, S', hE, hW, hf, q⟩ := h
  obtain ⟨⟨d1, S1⟩, h1, hf⟩ := Option.bind_eq_some_iff.mp hf
  obtain ⟨⟨d2, S2⟩, h2, hf⟩ := Option.bind_eq_some_iff.mp hf
  refine ⟨M, env, S, d1, S1, hE, hW, h1, fun v M1 H1 g1 w1 r1 => ⟨M1, env, S1, d2, S2, hE.mono g1, w1, h2, fun u M2 H2 g2 w2 r2 => ?_⟩⟩
  cases d1 <;> first | (cases hf; done) | skip
  rename_i n
  cases d2 <;> first | (cases hf; done) | skip
  rename_i k
  dsimp only at hf
  · split at hf
    · rename_i kvs hs
      obtain ⟨d', h3, hf⟩ := Option.map_eq_some_iff.mp hf
      cases hf
      obtain ⟨a, rfl, hn⟩ := rep_mu (r1.mono g2)
      obtain ⟨ps, k1, k2⟩ := w2.dcell hn hs
      obtain ⟨x, k3, k4⟩ := repK_get k k2 h3
      refine ⟨a, x, rfl, ?_, q x M2 H2 (g1.trans g2) w2 k4⟩
      rw [rep_str r2]
      have g := DGet.k (k := .inr (mkS k)) k1
      rw [k3] at g
      exact g
    · cases hf
theorem ds_dput (hu : X.A.units + 1 < cLine) (ho : DE X C o fo) (hi : DE X C i fi) (he : DE X C e fe) (hs : swapsWith e (some (.Subscript o i pos')) pos.line X.env = pure false := by rfl) : DS X C W (.Assign [.Subscript o i pos'] e pos) (sDPutD fo fi fe) :=
  impS (ps_dput hu ho hi he hs) fun Dn σ H h => by
    obtain ⟨M, env, S, out, env', S', hE, hW, hf, q⟩ := h
    obtain ⟨⟨p, S1⟩, h1, hf⟩ := Option.bind_eq_some_iff.mp hf
    obtain ⟨⟨d, S2⟩, h2, hf⟩ := Option.bind_eq_some_iff.mp hf
    obtain ⟨⟨d3, S3⟩, h3, hf⟩ := Option.bind_eq_some_iff.mp hf
    refine ⟨M, env, S, p, S1, hE, hW, h1, fun v M1 H1 g1 w1 r1 => ⟨M1, env, S1, d, S2, hE.mono g1, w1, h2, fun u M2 H2 g2 w2 r2 => ⟨M2, env, S2, d3, S3, (hE.mono g1).mono g2, w2, h3, fun t M3 H3 g3 w3 r3 => ?_⟩⟩⟩
    cases d <;> first | (cases hf; done) | skip
    rename_i n
    cases d3 <;> first | (cases hf; done) | skip
    rename_i k
    dsimp only at hf
    · split at hf
      · rename_i kvs hs
        split at hf
        · rename_i hl
          cases hf
          obtain ⟨a, rfl, hn⟩ := rep_mu (r2.mono g3)
          obtain ⟨ps, k1, k2⟩ := w3.dcell hn hs
          rw [rep_str r3]
          refine ⟨a, upd H3 a (.dK (putK ps (.inr (mkS k)) v)), rfl, DPut.k (k := .inr (mkS k)) k1 (by rw [← k2.length, line_eq]; exact hl), ?_⟩
          have gm : Gr M3 H3 M3 (upd H3 a (.dK (putK ps (.inr (mkS k)) v))) := Gr.mutate w3 (List.mem_of_getElem? hn)
          exact q M3 _ σ (((g1.trans g2).trans g3).trans gm) (w3.setK hn k1 (repK_put k2 k ((r1.mono g2).mono g3))) ((((hE.mono g1).mono g2).mono g3).mono gm)
        · cases hf
      · cases hf
theorem d_dictC (hc : X.calm = true) (hm : X.mg "dict" = none) (ha : DA X C [e] fa) (hg : Gl X "dict" := by rfl) (he : starEach [e] X.env = (false, eval e X.env) :: starEach [] X.env := by rfl) : DE X C (.Call (.Name "dict" p) [e] [] pos) (eDict fa) :=
  impE (pe_callTy (call_dictP hc) hg hm PyProof.Rows.boot_dict ha (by decide) (by decide) he rfl) fun σ H Q h => by
    obtain ⟨M, env, S, d, S', hE, hW, hf, q⟩ := h
    obtain ⟨⟨ds, S1⟩, h1, hf⟩ := Option.bind_eq_some_iff.mp hf
    refine ⟨M, env, S, ds, S1, hE, hW, h1, fun vs M1 H1 g1 w1 r1 => ?_⟩
    dsimp only at hf
    split at hf
    · obtain ⟨kvs, h2, hf⟩ := Option.map_eq_some_iff.mp hf
      cases hf
      obtain ⟨x, rfl, rx⟩ := one_inv r1
      simp only [Rep] at rx
      obtain ⟨a, xs, rfl, na, ha, ra⟩ := rx
      obtain ⟨ps, ks, rfl, k1, k2⟩ := pairs_rep h2 ra
      refine ⟨a, ps, ks, rfl, .of ha, k1, fun b nb => ?_⟩
      have w3 := w1.push (o := .dK (mergeK [] ks)) (c := .dct (mergeD [] kvs)) nb ⟨_, upd_same, (repK_merge .nil k2).mono (Gr.push nb)⟩
      refine q _ _ _ (g1.trans (.push nb)) w3 ?_
      simp only [Rep]
      refine ⟨b, rfl, ?_⟩
      show (M1.c ++ [b])[S1.length]? = some b
      rw [← w1.len, List.getElem?_append_right (Nat.le_refl _)]
      simp
    · cases hf
end
end L2.DL
-- part DSort
set_option maxHeartbeats 2000000
/-! DSort: tuple(range), tuple * n, sorted. -/
namespace L2.DL
open PySem PySem.Spec PyProof.Rows

/-! ### tuple(range(n)) -/
def eTupRg (fe : EM) : EM := fun env S => (fe env S).bind fun p => match p.1 with
  | .int n => if 0 ≤ n ∧ n ≤ 16777216 then some (.tup (rgL 0 n.toNat), p.2) else none
  | _ => none
section
variable {X : Cx} {C : Ctx} {W : WX} {e : Expr} {fe : EM} {p p2 pos pos2 : Pos}
theorem d_tupRg (hc : X.calm = true) (hm : X.mg "tuple" = none) (hm2 : X.mg "range" = none) (he : DE X C e fe) (hg : Gl X "tuple" := by rfl) (hg2 : Gl X "range" := by rfl)
    (na : starEach [e] X.env = (false, eval e X.env) :: starEach [] X.env := by rfl)
    (na2 : starEach [.Call (.Name "range" p2) [e] [] pos2] X.env = (false, eval (.Call (.Name "range" p2) [e] [] pos2) X.env) :: starEach [] X.env := by rfl) :
    DE X C (.Call (.Name "tuple" p) [.Call (.Name "range" p2) [e] [] pos2] [] pos) (eTupRg fe) :=
  impE (pe_tupRg hc hg hm (prg_1 hg2 hm2 he na) na2) fun σ H Q h => by
    obtain ⟨M, env, S, d, S', hE, hW, hf, q⟩ := h
    obtain ⟨⟨p, S1⟩, h1, hf⟩ := Option.bind_eq_some_iff.mp hf
    refine ⟨M, env, S, p, S1, hE, hW, h1, fun v M1 H1 g1 w1 r1 => ?_⟩
    cases p <;> first | (cases hf; done) | skip
    rename_i n
    dsimp only at hf
    split at hf
    · rename_i hn
      cases hf
      refine ⟨n, rep_int r1, .of_le (Int.le_refl 0) hn.2 (by omega) hn.1, fun a na => ?_⟩
      refine q _ M1 _ (g1.trans (.same (same_new na))) (w1.same (same_new na)) (w1.newT na ?_)
      have e1 : rgL 0 n.toNat = ((List.range n.toNat).map fun (i : Nat) => (0 + (i : Int))).map D.int := by
        unfold rgL; rw [List.map_map]; rfl
      have e2 : rgV 0 n = ((List.range n.toNat).map fun (i : Nat) => (0 + (i : Int))).map V.int := by
        unfold rgV; rw [List.map_map, Int.sub_zero]; rfl
      rw [e1, e2]
      exact RepL.ints
    · cases hf
end

/-! ### tuple * n -/
theorem tuple_mul1 (l : Addr) (items : Array Value) (n : Nat) (dd : Option Addr) (sl : Array (Option Value)) (u : Tok) :
    Meets (Builtin.«tuple.__mul__» ⟨[.ref l, .int 1 u], []⟩) (fun _ R s => s.heap.get? l = some { cls := .type "tuple", dict := dd, data := .seq items n, slots := sl } ∧ R (.ok (.ret (Value.ref l))) s) :=
  .of_wp fun prog w A R s h => by
    obtain ⟨hp, g, d, tk, os⟩ := s
    obtain ⟨hl, h⟩ := h
    have f1 := AutoSeq1.idx_int
    wp_walk using wpAny_loadPart' hl
    repeat (first
      | (refine wpAny_ite_false (decide_eq_false (by decide)) ?_; wp_walk using wpAny_loadPart' hl)
      | (refine wpAny_ite_true (decide_eq_true (by simp)) ?_; wp_walk using wpAny_loadPart' hl))
    exact ⟨_, rfl, h⟩
def rRep1 (K : PySem.W.Frag) : R2 := fun x y H Q => ∃ l xs, x = .ref l ∧ y = .int 1 ∧ SqT K H l xs ∧ Q (.ref l) H
theorem op_rep1 {X : Cx} : OpR X (binaryOp .Mult) (rRep1 X.K) := by
  intro pins s σ H x y v u Q I rx ry h
  obtain ⟨l, xs, rfl, rfl, hT, q⟩ := h
  cases rx
  obtain ⟨t, rfl⟩ := ry
  obtain ⟨its, r, ⟨⟨cls, dd, data, sl⟩, ho, hc, n, hd⟩, hs⟩ := I.tuple hT
  simp only at hc hd
  subst hc hd
  refine wpAny_binaryOp_repeat_ref (T := "tuple") (U := "int") (by decide) ⟨_, ho, rfl⟩ (fun s' => typeIs_int s' 1 t) noFill_tuple_mul F.fills_int_mul F.slot_int_rmul repeat_tuple F.slot_int_index.lookup
    (call_meets F.slot_int_rmul (typeIs_int s 1 t) F.entry_int_rmul (F.args_int_rmul_2 _ _) (int_rmul_tuple 1 t l its.toArray n dd sl)
      ⟨ho, rfl, ⟨_, ho, rfl⟩, call_meets F.slot_tuple_mul ⟨_, ho, rfl⟩ F.entry_tuple_mul (F.args_tuple_mul_2 _ _) (tuple_mul1 l its.toArray n dd sl t) ⟨ho, ?_⟩⟩)
  exact ⟨.ref l, H, I, rfl, q⟩
def mulTD (S : Sto) (a b : D) : Option D := match a with
  | .tup ds => (match b with
    | .int k => if ds ≠ [] ∧ 1 ≤ k ∧ k ≤ 1000 ∧ ds.length ≤ 1000 then some (.tup (List.replicate k.toNat ds).flatten) else none
    | _ => none)
  | _ => none
def rMulT (K : PySem.W.Frag) : R2 := fun x y H Q => rRepT K x y H Q ∨ rRep1 K x y H Q
theorem op_mulT {X : Cx} : OpR X (binaryOp .Mult) (rMulT X.K) := op_repT.or op_rep1
theorem RepL.rep {K : PySem.W.Frag} {M : Mem} {H : Hp} {ds : List D} {xs : List V} (h : RepL K M H ds xs) : ∀ k : Nat, RepL K M H (List.replicate k ds).flatten (List.replicate k xs).flatten
  | 0 => by simp [RepL.nil]
  | k + 1 => by
    rw [List.replicate_succ, List.replicate_succ, List.flatten_cons, List.flatten_cons]
    exact h.append (RepL.rep h k)
theorem r_mulTD {K : PySem.W.Frag} {C : Ctx} : ROp K C (rMulT K) mulTD := by
  intro M H S dx dy dz x y Q w rx ry hg q
  cases dx <;> first | (cases hg; done) | skip
  rename_i ds
  cases dy <;> first | (cases hg; done) | skip
  rename_i k
  unfold mulTD at hg
  dsimp only at hg
  split at hg
  · rename_i hk
    cases hg
    have rx0 := rx
    simp only [Rep] at rx
    obtain ⟨a, xs, rfl, na, ha, ra⟩ := rx
    have hl := ra.length
    by_cases h1 : k = 1
    · subst h1
      refine .inr ⟨a, xs, rfl, rep_int ry, .of ha, q _ H (Same.refl H) ?_⟩
      have e : (List.replicate (1 : Int).toNat ds).flatten = ds := by
        show (List.replicate 1 ds).flatten = ds
        simp
      rw [e]; exact rx0
    · refine .inl ⟨a, k, xs, rfl, rep_int ry, .of ha, fun z => hk.1 (List.eq_nil_of_length_eq_zero (by rw [hl, z]; rfl)), by omega, hk.2.2.1, by rw [← hl]; exact hk.2.2.2, fun p np => q _ _ (same_new np) (w.newT np (ra.rep _))⟩
  · cases hg

/-! ### sorted -/
def sortS (xs : List (List Nat)) : List (List Nat) := xs.mergeSort (PySem.W.dataLe false fun x => PyData.str (mkS x))
def sortN (xs : List (List Nat)) : List (List Nat) := xs.mergeSort (PySem.W.dataLe false fun x => PyData.int (x.length : Nat))
def rSortedS (K : PySem.W.Frag) : List V → Hp → VK → Prop := fun vs H Q => ∃ (a : Addr) (ns : List (List Nat)), vs = [V.ref a] ∧ SqL K H a ((ns.map mkS).map V.str) ∧ ∀ p, H p = none → Q (.ref p) (upd H p (.lst (((sortS ns).map mkS).map V.str)))
abbrev StrV (v : Value) (b : List Nat) : Prop := ∃ t, v = .str (mkS b) t
theorem each_of_vals : ∀ {ns : List (List Nat)} {us : List Value}, Vals ((ns.map mkS).map V.str) us → PySem.W.EachIs StrV us ns
  | [], us, h => by cases h; exact .nil
  | n :: ns, us, h => by
    cases h with
    | cons a b => exact .cons a (each_of_vals b)
theorem vals_of_each : ∀ {ns : List (List Nat)} {us : List Value}, PySem.W.EachIs StrV us ns → Vals ((ns.map mkS).map V.str) us
  | _, _, .nil => .nil
  | _, _, .cons a b => .cons a (vals_of_each b)
theorem cr_sortedS {X : Cx} (hu : X.A.units + 2 < cLine) : CallR X (.builtin "sorted") (rSortedS X.K) := by
  intro pins s σ H vs us Q I r h
  obtain ⟨a, ns, rfl, hs, q⟩ := h
  obtain ⟨its, rv, hl, hz⟩ := I.list hs
  rw [Vals.ref1 r]
  have e := each_of_vals rv
  have hn : ns.length ≤ sizeLine := by simpa using hz
  refine PySem.W.sorted_data (enc := fun x => PyData.str (mkS x)) hl.isList e (e.mono fun v b ⟨t, hv⟩ => ⟨[], by rw [hv]; exact .str _ _⟩) (PySem.W.AllAlike.of fun _ _ => by simp [PySem.W.alike]) (PySem.W.Sortable.others fun _ => ⟨(fun z => by cases z), fun _ z => by cases z⟩) hn (fun b _ => by show _ + 0 < _; exact hu) fun out hlo eo => ?_
  obtain ⟨ep, he'⟩ := PyProof.Rows.sortedAll_at s.heap its out.toArray
  refine ⟨.ref _, upd H (s.heap.objs.size + 1) (.lst (((sortS ns).map mkS).map V.str)), I.laid (t' := s.toks) (fun _ _ => PyProof.Rows.sortedAll_old) (Nat.le_succ _) ⟨?_, out, ep, vals_of_each eo, he'⟩, rfl, q _ (I.hok.fresh (Nat.le_succ _))⟩
  unfold sortS
  rw [List.length_map, List.length_map, List.length_mergeSort]
  exact hn
def sortedDD (S : Sto) (ds : List D) : Option D := match ds with
  | [.lst xs] => (strsOf xs).map fun ns => .lst ((sortS ns).map D.str)
  | _ => none
theorem r_sortedDD {K : PySem.W.Frag} {C : Ctx} : RCl K C (rSortedS K) sortedDD := by
  intro M H S ds dz xs Q w rs hg q
  unfold sortedDD at hg
  split at hg
  · rename_i xs
    obtain ⟨ns, h1, e⟩ := Option.map_eq_some_iff.mp hg
    subst e
    have e2 := strsOf_eq h1
    subst e2
    obtain ⟨x, rfl, rx⟩ := one_inv rs
    simp only [Rep] at rx
    obtain ⟨a, ys, rfl, na, ha, ra⟩ := rx
    rw [ra.strs_inv] at ha
    exact ⟨a, ns, rfl, .of ha, fun p np => q _ _ (same_new np) (w.newL np RepL.strs)⟩
  · cases hg
section
variable {X : Cx} {C : Ctx} {W : WX} {e : Expr} {fe : EM} {fa : AM} {p p2 pos kp : Pos}
theorem d_sorted (hu : X.A.units + 2 < cLine) (hm : X.mg "sorted" = none) (ha : DA X C [e] fa) (hg : Gl X "sorted" := by rfl) (he : starEach [e] X.env = (false, eval e X.env) :: starEach [] X.env := by rfl) : DE X C (.Call (.Name "sorted" p) [e] [] pos) (eCl sortedDD fa) :=
  d_callB (cr_sortedS hu) r_sortedDD hg hm PyProof.Rows.boot_sorted ha (by decide) (by decide) he rfl
def sortedN (S : Sto) (ds : List D) : Option D := match ds with
  | [.lst xs] => (strsOf xs).bind fun ns => if ns.all (fun x => decide (x.length ≤ 16777216)) = true then some (.lst ((sortN ns).map D.str)) else none
  | _ => none
theorem d_sortedLen (hu : X.A.units + 2 < cLine) (hm : X.mg "sorted" = none) (hm2 : X.mg "len" = none) (ha : DA X C [e] fa) (hg : Gl X "sorted" := by rfl) (hg2 : Gl X "len" := by rfl) (hst : starEach [e] X.env = (false, eval e X.env) :: starEach [] X.env := by rfl)
    (he : backTo pos (starEach [e] X.env) = (false, eval e X.env) :: backTo pos (starEach [] X.env) := by rfl) (hpl : (backTo pos (starEach [e] X.env)).any (·.1) = false := by rfl)
    (hall : (backToKw pos (keywordEach [⟨some "key", .Name "len" p2, kp⟩] X.env)).all (·.1.isSome) = true := by rfl) (hnone : (backToKw pos (keywordEach [⟨some "key", .Name "len" p2, kp⟩] X.env)).any (·.1.isNone) = false := by rfl)
    (hks : (backToKw pos (keywordEach [⟨some "key", .Name "len" p2, kp⟩] X.env)).filterMap (·.1) = [Str.ofString "key"] := by rfl)
    (hev : (backToKw pos (keywordEach [⟨some "key", .Name "len" p2, kp⟩] X.env)).map (·.2) = [do let v ← eval (.Name "len" p2) X.env; standAt pos; pure v] := by rfl) :
    DE X C (.Call (.Name "sorted" p) [e] [⟨some "key", .Name "len" p2, kp⟩] pos) (eCl sortedN fa) := by
  refine ⟨fun pins s σ H Q I h => ?_⟩
  obtain ⟨M, env, S, d, S', hE, hW, hf, q⟩ := h
  obtain ⟨⟨ds, S1⟩, h1, hf⟩ := Option.bind_eq_some_iff.mp hf
  refine wpAny_Call_Name_kw (ld_blt I hg hm PyProof.Rows.boot_sorted ?_)
  refine PyProof.Rows.callWith_kw (thn (ha.run pos pins s σ H _ I ⟨M, env, S, ds, S1, hE, hW, h1, fun vs M1 H1 g1 w1 r1 => show ∃ M1, Gr M H M1 H1 ∧ Wd X.K C M1 H1 S1 ∧ RepL X.K M1 H1 ds vs from ⟨M1, g1, w1, r1⟩⟩) fun us s1 ⟨vs, H1, I1, r1, M1, g1, w1, rs⟩ => ?_) he hpl hall hnone
  rw [hks, hev]
  refine wpAny_evalAll_cons (wpAny_bind (ld_blt I1 hg2 hm2 PySem.boot_len (wpAny_bind (wpAny_standAt (wpAny_pure (wpAny_evalAll_nil ?_))))))
  show wpAny _ _ (call (.builtin "sorted") us [(Str.ofString "key", .builtin "len")]) _ _ _
  obtain ⟨dz, h2, hf⟩ := Option.map_eq_some_iff.mp hf
  cases hf
  unfold sortedN at h2
  dsimp only at h2
  split at h2
  · rename_i xs
    obtain ⟨ns, h3, h2⟩ := Option.bind_eq_some_iff.mp h2
    split at h2
    · rename_i hlen
      cases h2
      have e2 := strsOf_eq h3
      subst e2
      obtain ⟨x, rfl, rx⟩ := one_inv rs
      simp only [Rep] at rx
      obtain ⟨a, ys, rfl, na, ha, ra⟩ := rx
      rw [ra.strs_inv] at ha
      obtain ⟨its, rv, hl, hz⟩ := I1.list (.of ha)
      rw [Vals.ref1 r1]
      have e := each_of_vals rv
      have hn : ns.length ≤ sizeLine := by simpa using hz
      refine PySem.W.sorted_key_data (b := false) (fun x : List Nat => PyData.int (x.length : Nat)) hl.isList e (PySem.W.AllAlike.of fun _ _ => by simp [PySem.W.alike]) (PySem.W.Sortable.others fun _ => ⟨(fun z => by cases z), fun _ z => by cases z⟩) hn (fun b _ => by show _ + 0 < _; exact hu) (PyProof.Rows.ksk_s1 _ _) (fun _ => PyProof.Rows.ksk_l1 _ _) (fun _ => PyProof.Rows.ksk_t4 _ _) (fun v b hv hb h tk hk => ?_) fun out c h' tk kp nf hD hlo eo => ?_
      · obtain ⟨t, rfl⟩ := hv
        have hbl : b.length ≤ 16777216 := by simpa using List.all_eq_true.mp hlen b hb
        refine len_str (x := mkS b) (by rw [mkS_len]; omega) ⟨h, _, rfl, fun _ _ z => z, ?_⟩
        rw [mkS_len]
        exact .int _ _
      · refine ⟨.ref _, upd H1 (s1.heap.objs.size + 1) (.lst (((sortN ns).map mkS).map V.str)), I1.laid (t' := tk) kp (Nat.le_succ _) ⟨?_, out, c, vals_of_each eo, hD⟩, rfl, ?_⟩
        · unfold sortN
          rw [List.length_map, List.length_map, List.length_mergeSort]
          exact hn
        · have np : H1 (s1.heap.objs.size + 1) = none := I1.hok.fresh (Nat.le_succ _)
          have wn := w1.newL np (RepL.strs (K := X.K) (M := M1) (H := H1) (ns := sortN ns))
          exact q _ M1 _ (g1.trans (.same (same_new np))) (w1.same (same_new np)) wn
    · cases h2
  · cases h2
end
end L2.DL
-- part DGen
set_option maxHeartbeats 2000000
/-! DGen: all(..), any(..) of a generator expression whose element is any reading. -/
namespace L2.DL
open PySem PySem.Spec PyProof.Rows

/-! ### a table grown -/
section
variable {K : PySem.W.Frag} {C : Ctx} {M M' M2 : Mem} {H H' H2 : Hp} {S : Sto}
theorem Gr.extN (w : Wd K C M H S) (e : LamX.ExtN H H') : Gr M H M H' :=
  ⟨⟨[], by simp⟩, rfl, fun _ h => .inl h, fun b o h _ ht => e b o h ht, fun b hb o h => by
    obtain ⟨_, xs, h2⟩ := w.zs b hb
    rw [h] at h2; cases h2
    exact e b _ h fun ps z => by cases z⟩
theorem Wd.extN (w : Wd K C M H S) (e : LamX.ExtN H H') (t : ∀ p ∈ C.T, TabOk H' p) : Wd K C M H' S := by
  have g := Gr.extN w e
  refine ⟨w.len, w.nd, fun n a c h1 h2 => ?_, t, fun a ha => ⟨(w.zs a ha).1, ?_⟩⟩
  · have q := w.cell n a c h1 h2
    cases c with
    | lst ds => obtain ⟨xs, q1, q2⟩ := q; exact ⟨xs, e _ _ q1 (fun ps z => by cases z), q2.mono g⟩
    | dct kvs => obtain ⟨ps, q1, q2⟩ := q; exact ⟨ps, e _ _ q1 (fun ps z => by cases z), q2.mono g⟩
  · obtain ⟨xs, h⟩ := (w.zs a ha).2
    exact ⟨xs, e _ _ h fun ps z => by cases z⟩
theorem Mv.trans (a : Mv M H M' H') (b : Mv M' H' M2 H2) : Mv M H M2 H2 :=
  ⟨fun x o h hn ht => let ⟨k1, k2⟩ := a.keep x o h hn ht; b.keep x o k2 k1 ht, fun n x h => b.cell n x (a.cell n x h)⟩
theorem Walk.move {J : It} {ds : List D} (wk : Walk K M H J ds) (g : Mv M H M' H') : Walk K M' H' J ds := fun i M2 H2 g2 t => wk i M2 H2 (g.trans g2) t
theorem EnvOk.unwipe {env : DEnv} {σ : St} {vs : List Nat} (e : EnvOk K M H env (L2.wipe σ vs)) : EnvOk K M H env σ :=
  ⟨by rw [e.len, wipe_length], fun i d h => let ⟨v, h1, h2⟩ := e.get i d h; ⟨v, (wipe_some h1).1, h2⟩⟩
end

/-- it stops at k -/
def runD (k : Bool) (g : D → DEnv → Option DEnv) (fe : EM) (env : DEnv) : List D → Sto → Option (Bool × Sto)
  | [], S => some (!k, S)
  | d :: ds, S => (g d env).bind fun env1 => (fe env1 S).bind fun p => match p.1 with
    | .bl b => if b = k then some (k, p.2) else runD k g fe env ds p.2
    | _ => none
/-- the generator expression's own scope -/
structure GenS (X : Cx) (scope : Scope) (own : List Nat) : Prop where
  kind : scope.kind = .function
  co : scope.isCoroutine = false
  cell : ∀ y ∈ scope.names, y.2 ≠ .cell
  dot : scope.names.lookup (".0" : Str) = some NameKind.local
  free : ∀ y ∈ scope.names, y.2 = .free → X.env.scope.names.lookup y.1 = some .cell ∨ X.env.scope.names.lookup y.1 = some .free
  own : ∀ (i : Nat) (y : Str), X.N[i]? = some y → scope.names.lookup y = some .local → i ∈ own
abbrev gEnv (X : Cx) (scope : Scope) (L : Addr) (code : Value) : Env := genEnv scope (cloFrom X.env.cells scope.names []) L code builtinsNs X.env
def genCx (X : Cx) (s : Shared) (H : Hp) (scope : Scope) (code : Value) (fp : List Addr) : Cx where
  prog := X.prog
  w := X.w
  K := X.K
  mg := X.mg
  base := X.base
  A := X.A.in1.in1.deeper (gEnv X scope s.heap.objs.size code)
  N := X.N
  s_0 := s
  H_0 := H
  env := gEnv X scope s.heap.objs.size code
  outer := X.stack
  stack := gEnv X scope s.heap.objs.size code :: X.stack
  ex := fp
  fn := fun _ => false
  calm := true
  pn := []
  xe := fun _ _ => False
section
variable {X : Cx} {pins : List (Addr × Obj)} {σ : St} {H : Hp} {s : Shared} {scope : Scope} {own : List Nat} {fp : List Addr}
theorem GenS.has (G : GenS X scope own) (ok : X.Ok) : ∀ y ∈ scope.names, y.2 = .free → ∃ c, X.env.cells.lookup y.1 = some c := fun y hy e => by
  rcases G.free y hy e with k | k
  · exact ok.has _ (.inl k)
  · exact ok.has _ (.inr k)
theorem gen_start {h' : Heap} {m : Str → Option Value} {gs : Array GenState} {tk : Nat} {code : Value} (I : Inv X pins σ H s) (hd : X.A.handled = none) (G : GenS X scope own) (hf : ∀ b ∈ fp, FpOk X pins H b) (hfl : ∀ b ∈ fp, b < s.heap.objs.size)
    (hns : h'.Ns s.heap.objs.size m) (kp : ∀ b o, s.heap.get? b = some o → h'.get? b = some o) (hg : AllBare gs) :
    Inv (genCx X s H scope code fp) [] (L2.wipe σ own) H { s with heap := h', gens := gs, toks := tk } := by
  have hfree := G.has I.ok
  have cm : ∀ {y c}, (cloFrom X.env.cells scope.names []).lookup y = some c → X.env.cells.lookup y = some c := fun {y c} e => by
    rcases cloFrom_mem (PySem.mem_of_lookup e) with hm | ⟨h1, h2⟩
    · cases hm
    · obtain ⟨c1, hc⟩ := hfree _ h1 rfl
      have hc : X.env.cells.lookup y = some c1 := hc
      have e2 : c = c1 := by
        rw [h2, hc] <;> rfl
      rw [e2]
      exact hc
  have look : ∀ {y}, scope.names.lookup y = some .free → ∃ c, (cloFrom X.env.cells scope.names []).lookup y = some c := fun {y} hl => by
    have hy : (y, NameKind.free) ∈ scope.names := PySem.mem_of_lookup hl
    exact mem_lookup (cloFrom_has (cells := X.env.cells) (acc := []) hy)
  have cellK : ∀ {c : Addr} {v : Option Value}, s.heap.IsCell c v → h'.IsCell c v := fun {c v} ⟨o, ho, hd⟩ => ⟨o, kp _ _ ho, hd⟩
  refine ⟨⟨I.ok.mod, G.kind, I.ok.glob, rfl, Nat.le_refl _, fun y z c e1 e2 => I.ok.inj y z c (cm e1) (cm e2), fun y hy => ?_, fun y c z _ => ?_, fun _ => hd, Around.frames_deeper I.ok.frames, .inr ⟨rfl, rfl⟩, fun b hb => ⟨Nat.ne_of_lt (hfl b hb), fun y c e => (hf b hb).2.2.2.2.1 y c (cm e)⟩, I.bs, Nat.le_trans I.ok.bsz I.sz, fun b o e hb => ?_,
      fun b hb z => ?_, I.stack, I.stkFree⟩,
    rfl, hg, Un.kept kp, ⟨_, hns, fun i y v e1 e2 e3 => ?_⟩, fun y c e => ?_, I.hok.fresh (Nat.le_refl _), fun y c e => I.freeC y c (cm e), fun q hq => absurd (show q ∈ ([] : List (Addr × Obj)) ++ [] from hq) (by simp), I.hok.kept kp, (wipe_length _ _).trans I.len⟩
  · have hy : scope.names.lookup y = some .cell ∨ scope.names.lookup y = some .free := hy
    rcases hy with hy | hy
    · exact absurd rfl (G.cell _ (PySem.mem_of_lookup hy))
    · exact look hy
  · have z : false = true := z
    cases z
  · rcases (hf b hb).2.2.2.1 with z | z
    · exact I.ok.noex b o e z
    · exact absurd (Nat.lt_of_lt_of_le (Heap.lt_size e) (Nat.le_trans I.ok.bsz z)) (Nat.lt_irrefl _)
  · rcases List.mem_cons.mp (I.stkSub b z) with z | z
    · exact (hf b hb).2.1 z
    · exact (hf b hb).2.2.1 z
  · obtain ⟨e2, ni⟩ := wipe_some e2
    have e3 : Vis scope y := e3
    rcases e3 with k | k | k
    · exact absurd (G.own i y e1 k) ni
    · exact absurd rfl (G.cell _ (PySem.mem_of_lookup k))
    · obtain ⟨m, hn, hl⟩ := I.loc
      have hvis : Vis X.env.scope y := (G.free _ (PySem.mem_of_lookup k) rfl).elim (fun k => .inr (.inl k)) (fun k => .inr (.inr k))
      obtain ⟨w', r, q⟩ := hl i y v e1 e2 hvis
      obtain ⟨c2, h2⟩ := look k
      refine ⟨w', r, .inr ⟨.inr k, c2, h2, ?_⟩⟩
      have c1 := cm h2
      rcases q with ⟨k', _⟩ | ⟨_, c3, e', z⟩
      · have k' : X.env.scope.names.lookup y = some .local := k'
        rcases G.free _ (PySem.mem_of_lookup k) rfl with k2 | k2 <;> rw [show X.env.scope.names.lookup y = _ from k2] at k' <;> cases k'
      · rw [c1] at e'
        cases e'
        exact cellK z
  · obtain ⟨w', z⟩ := I.cell y c (cm e)
    exact ⟨w', cellK z⟩
end

/-! ### the generator's run -/
def RG (Z : Cx) (C : Ctx) (pins : List (Addr × Obj)) (M0 : Mem) (H0 : Hp) (Sf : Sto) (k b : Bool) : GenEnd := fun _ _ r s => r = .ok .next ∧ b = !k ∧ ∃ M σ H, Inv Z pins σ H s ∧ Wd Z.K C M H Sf ∧ Gr M0 H0 M H
def YG (Z : Cx) (C : Ctx) (pins : List (Addr × Obj)) (M0 : Mem) (H0 : Hp) (Sf : Sto) (k b : Bool) : Protocol := fun _ _ v s kap => ∃ y M σ H S, v = .bool y ∧ Inv Z pins σ H s ∧ Wd Z.K C M H S ∧ Gr M0 H0 M H ∧ (y = k → b = k ∧ S = Sf) ∧
  (y ≠ k → ∀ s'' : Shared, s''.heap = s.heap → s''.os = s.os → AllBare s''.gens → kap (.send .none) s'')
theorem inv_alike {Z : Cx} {pins : List (Addr × Obj)} {σ : St} {H : Hp} {s s' : Shared} (I : Inv Z pins σ H s) (h : s'.heap = s.heap) (o : s'.os = s.os) (g : AllBare s'.gens) : Inv Z pins σ H s' := by
  obtain ⟨h1, g1, d1, t1, o1⟩ := s
  obtain ⟨h2, g2, d2, t2, o2⟩ := s'
  obtain rfl : h2 = h1 := h
  obtain rfl : o2 = o1 := o
  exact ⟨I.ok, I.os, g, I.base, I.loc, I.cell, I.free, I.freeC, I.pin, I.hok, I.len⟩
section
variable {Z : Cx} {C : Ctx} {A : Around} {elt iter tg : Expr} {scope : Scope} {pos : Pos} {it : Addr} {fp : List Addr} {tn : Nat → Heap → Prop} {J : It} {ds : List D} {k b : Bool} {g : D → DEnv → Option DEnv} {is vs : List Nat} {fe : EM} {env : DEnv} {Sf : Sto} {M0 : Mem} {H0 : Hp} {pins : List (Addr × Obj)}
theorem seg_gen (hcalm : Z.calm = true) (hxe : ∀ e s, ¬ Z.xe e s) (hA : Z.A = A.over (.compLoop (.GeneratorExp elt [⟨tg, iter, [], 0⟩] scope pos) 0 (.ref it) .none Z.env) []) (hco : Z.env.scope.isCoroutine = false)
    (T : Turn Z.prog Z.w Z.K tg J fp it tn) (hf : ∀ (H : Hp), (∀ b ∈ fp, H b = none) → ∀ b ∈ fp, FpOk Z pins H b)
    (wk : Walk Z.K M0 H0 J ds) (hg : DG Z tg is g) (he : DE Z C elt fe) (his : ∀ i ∈ is, i ∈ vs) :
    ∀ (n i : Nat), ds.length - i = n → i ≤ ds.length → ∀ (s₀ s : Shared) (M : Mem) (σ : St) (H : Hp) (S : Sto), Inv Z pins σ H s → EnvOk Z.K M H env (L2.wipe σ vs) → Wd Z.K C M H S → Gr M0 H0 M H → tn i s.heap → (∀ b ∈ fp, H b = none) →
      runD k g fe env (ds.drop i) S = some (b, Sf) →
      Seg (model Z.prog Z.w) A (RG Z C pins M0 H0 Sf k b) (YG Z C pins M0 H0 Sf k b) n s₀ (.compLoop (.GeneratorExp elt [⟨tg, iter, [], 0⟩] scope pos) 0 (.ref it) .none Z.env)
        ((model Z.prog Z.w).den (.compLoop (.GeneratorExp elt [⟨tg, iter, [], 0⟩] scope pos) 0 (.ref it) .none Z.env)) [] s := by
  intro n
  induction n with
  | zero =>
    intro i hn hi s₀ s M σ H S I e0 w gr st fr hr
    have hin : i = ds.length := by omega
    subst hin
    rw [List.drop_length] at hr
    cases hr
    show Seg _ A _ _ _ s₀ _ ((compTurn (.GeneratorExp elt [⟨tg, iter, [], 0⟩] scope pos) 0 (.ref it) .none Z.env).onRaise (leaving Z.env)) [] s
    rw [compTurn_gen, Sem.onRaise_eq_wrap]
    refine seg_bind_wrap (wpAny_standAt ?_)
    refine seg_bind_wrap ?_
    rw [← hA]
    refine wpAny_mono (T.done Z rfl rfl rfl hcalm _ pins s σ H Z.xe I (hf H fr) st ((wk _ M H gr.mv w.there).2 (Nat.le_refl _))) (fun r s1 ⟨hr, I1⟩ => ?_) (fun e s1 z => (hxe e s1 z).elim)
    subst hr
    exact seg_end (.ok .next) ⟨rfl, rfl, M, σ, H, I1, w, gr⟩
  | succ n ih =>
    intro i hn hi s₀ s M σ H S I e0 w gr st fr hr
    have hlt : i < ds.length := by omega
    obtain ⟨wgo, _⟩ := wk i M H gr.mv w.there
    obtain ⟨go, yl⟩ := wgo _ (List.getElem?_eq_getElem hlt)
    rw [drop_get hlt] at hr
    obtain ⟨env1, hr1, hr⟩ := Option.bind_eq_some_iff.mp hr
    obtain ⟨⟨dy, S1⟩, hr2, hr⟩ := Option.bind_eq_some_iff.mp hr
    show Seg _ A _ _ _ s₀ _ ((compTurn (.GeneratorExp elt [⟨tg, iter, [], 0⟩] scope pos) 0 (.ref it) .none Z.env).onRaise (leaving Z.env)) [] s
    rw [compTurn_gen, Sem.onRaise_eq_wrap]
    refine seg_bind_wrap (wpAny_standAt ?_)
    refine seg_bind_wrap ?_
    rw [← hA]
    refine wpAny_mono (T.item Z rfl rfl rfl hcalm i pins s σ H Z.xe I (hf H fr) st go) (fun r s1 ⟨u, hr, h4⟩ => ?_) (fun e s1 z => (hxe e s1 z).elim)
    subst hr
    refine seg_bind_wrap ?_
    rw [← hA]
    refine wpAny_mono h4 (fun _ s5 ⟨x, H5, I5, r5, y5, st5, fr5⟩ => ?_) (fun e s1 z => (hxe e s1 z).elim)
    obtain ⟨sm, rx⟩ := yl x H5 y5
    have I5' := I5.pinned (hf H5 fr5) (T.obj _ _ st5)
    refine seg_bind_wrap ?_
    rw [← hA]
    refine wpAny_mono (hg.run _ s5 σ H5 x u (fun σ6 H6 => H6 = H5 ∧ EnvOk Z.K M H5 env1 σ6 ∧ L2.wipe σ6 vs = L2.wipe σ vs) I5' r5 ⟨M, env, _, env1, (e0.unwipe).mono (.same sm), rx, hr1, fun σ' e' on => ⟨rfl, e', on vs his⟩⟩) (fun _ s6 ⟨σ6, H6, I6, eH, e6, on6⟩ => ?_) (fun e s1 z => (hxe e s1 z).elim)
    subst eH
    refine seg_bind_wrap ?_
    rw [List.forIn_nil]
    refine wpAny_pure ?_
    simp only [if_true]
    have hy : ∀ v, yieldOut Z.env v = yieldValue v := fun v => by simp only [yieldOut, hco, Bool.false_eq_true, if_false]
    simp only [hy]
    rw [Sem.bind_eq_wrap', Sem.bind_eq_wrap', Sem.wrap_wrap, Sem.wrap_wrap]
    refine seg_wrap ?_
    rw [← hA]
    refine wpAny_mono (he.run _ s6 σ6 H6 (fun v H7 => ∃ M7, Gr M H6 M7 H7 ∧ Wd Z.K C M7 H7 S1 ∧ Rep Z.K M7 H7 dy v) I6 ⟨M, env1, S, dy, S1, e6, w.same sm, hr2, fun v M7 H7 g7 w7 r7 => ⟨M7, g7, w7, r7⟩⟩) (fun y s7 ⟨v, H7, I7, r7, M7, g7, w7, rv⟩ => ?_) (fun e s1 z => (hxe e s1 z).elim)
    obtain ⟨yb, rfl⟩ : ∃ yb, dy = .bl yb := by cases dy <;> first | exact ⟨_, rfl⟩ | cases hr
    have ev := rep_bl rv
    subst ev
    obtain rfl : y = Value.bool yb := r7
    have gr7 : Gr M0 H0 M7 H7 := (gr.trans (.same sm)).trans g7
    have I7u : Inv Z pins σ6 H7 s7 := I7.unpinned
    have st7 : tn (i + 1) s7.heap := T.keep _ _ _ st5 fun b hb o e => (I7.pin (b, o) (List.mem_append_right _ (List.mem_append_right _ (mem_pinsAt hb e)))).1
    have fr7 : ∀ b ∈ fp, H7 b = none := fun b hb => by
      obtain ⟨o, e, d⟩ := T.obj _ _ st5 b hb
      exact (I7.pin (b, o) (List.mem_append_right _ (List.mem_append_right _ (mem_pinsAt hb e)))).2.1
    refine seg_at (seg_yield rfl rfl rfl ⟨yb, M7, σ6, H7, S1, rfl, I7u, w7, gr7, fun hk => ?_, fun hk s'' eh eo eg => ?_⟩)
    · subst hk
      dsimp only at hr
      rw [if_pos rfl] at hr
      cases hr
      exact ⟨rfl, rfl⟩
    · dsimp only at hr
      rw [if_neg hk] at hr
      have I'' := inv_alike I7u eh eo eg
      refine seg_again rfl (ih (i + 1) (by omega) hlt s'' s'' M7 σ6 H7 S1 I'' ?_ w7 gr7 (by rw [eh]; exact st7) fr7 hr)
      rw [on6]
      exact (e0.mono (.same sm)).mono g7

theorem seg_genS (hcalm : Z.calm = true) (hxe : ∀ e s, ¬ Z.xe e s) (hA : Z.A = A.over (.compLoop (.GeneratorExp elt [⟨tg, iter, [], 0⟩] scope pos) 0 (.ref it) .none Z.env) []) (hco : Z.env.scope.isCoroutine = false)
    (T : Turn Z.prog Z.w Z.K tg J fp it tn) (hf : ∀ (H : Hp), (∀ b ∈ fp, H b = none) → ∀ b ∈ fp, FpOk Z pins H b)
    (wk : Walk Z.K M0 H0 J ds) (hg : DG Z tg is g) (he : DE Z C elt fe) (his : ∀ i ∈ is, i ∈ vs) (s₀ s : Shared) (M : Mem) (σ : St) (H : Hp) (S : Sto) (I : Inv Z pins σ H s) (e0 : EnvOk Z.K M H env (L2.wipe σ vs)) (w : Wd Z.K C M H S) (gr : Gr M0 H0 M H) (st : tn 0 s.heap) (fr : ∀ b ∈ fp, H b = none)
    (hr : runD k g fe env ds S = some (b, Sf)) :
      Seg (model Z.prog Z.w) A (RG Z C pins M0 H0 Sf k b) (YG Z C pins M0 H0 Sf k b) ds.length s₀ (.compStart (.GeneratorExp elt [⟨tg, iter, [], 0⟩] scope pos) 0 (.ref it) .none Z.env)
        ((model Z.prog Z.w).den (.compStart (.GeneratorExp elt [⟨tg, iter, [], 0⟩] scope pos) 0 (.ref it) .none Z.env)) [] s := by
  have loop := seg_gen (elt := elt) (iter := iter) (scope := scope) (pos := pos) hcalm hxe hA hco T hf wk hg he his ds.length 0 (Nat.sub_zero _) (Nat.zero_le _) s₀ s M σ H S I e0 w gr st fr (by rw [List.drop_zero]; exact hr)
  show Seg _ A _ _ _ s₀ _ ((compStart (.GeneratorExp elt [⟨tg, iter, [], 0⟩] scope pos) 0 (.ref it) .none Z.env).onRaise (leaving Z.env)) [] s
  unfold compStart
  rw [Sem.onRaise_eq_wrap]
  show Seg _ A _ _ _ s₀ _ ((ask >>= _).wrap _ _ _ _) [] s
  refine seg_bind_wrap (wpAny_askSetting ?_)
  split
  · exact seg_again rfl loop
  · first
      | exact seg_bind_wrap (wpAny_rule (seg_bind_wrap (wpAny_standAt (seg_bind_wrap (T.self _ 0 s _ _ st (seg_again rfl loop))))))
      | (refine seg_bind_wrap (wpAny_rule ?_); show Seg _ A _ _ _ s₀ _ ((standAt iter.pos >>= _).wrap _ _ _ _) [] s; exact seg_bind_wrap (wpAny_standAt (seg_bind_wrap (T.self _ 0 s _ _ st (seg_again rfl loop)))))
/-- the generator at a is ready, n items are left -/
def GAt (Z : Cx) (C : Ctx) (A : Around) (pins : List (Addr × Obj)) (M0 : Mem) (H0 : Hp) (Sf : Sto) (k b : Bool) (a : Addr) (gid n : Nat) (s : Shared) : Prop :=
  s.heap.IsGen a gid ∧ s.heap.NoLimit ∧ ∃ gs, s.gens[gid]? = some gs ∧ AllBare s.gens ∧ ∀ s'' : Shared, s''.heap = s.heap → s''.os = s.os → AllBare s''.gens → gs.Goes (model Z.prog Z.w) A (RG Z C pins M0 H0 Sf k b) (YG Z C pins M0 H0 Sf k b) n (.send .none) s''
theorem bare_set {gs : Array GenState} {i : Nat} {x : GenState} (h : AllBare gs) (hx : x.bare = true) : AllBare (gs.setIfInBounds i x) := by
  intro y hy
  obtain ⟨j, hj, e⟩ := Array.mem_iff_getElem.mp hy
  rw [Array.getElem_setIfInBounds (by simpa using hj)] at e
  split at e
  · rw [← e]; exact hx
  · rw [← e]; exact h _ (Array.getElem_mem _)
/-- one turn -/
theorem gat_next {a : Addr} {gid n : Nat} {s : Shared} {B : Around} {E : Value → Shared → Prop} {Q : Option Value → Shared → Prop} (hh : B.handled = none) (hroom : B.depth < recursionLimit) (hp : ∃ o, (a, o) ∈ pins ∧ ∃ nm qn, o.cls = .type "generator" ∧ o.data = .fields #[.int gid 0, nm, qn] ∧ o.slots = #[])
    (h : GAt Z C B.in1 pins M0 H0 Sf k b a gid n s)
    (hQ : ∀ y M σ H S s', Inv Z pins σ H s' → Wd Z.K C M H S → Gr M0 H0 M H → (y = k → b = k ∧ S = Sf) → (y ≠ k → ∃ m, m < n ∧ GAt Z C B.in1 pins M0 H0 Sf k b a gid m s') → Q (some (.bool y)) s')
    (hE : b = !k → ∀ M σ H s', Inv Z pins σ H s' → Wd Z.K C M H Sf → Gr M0 H0 M H → Q none s') : wpAny (model Z.prog Z.w) B (pyNext (.ref a)) Q E s := by
  obtain ⟨hg, hl, gs, hgs, hb, hgo⟩ := h
  have hlt : gid < s.gens.size := by
    rcases Nat.lt_or_ge gid s.gens.size with q | q
    · exact q
    · rw [Array.getElem?_eq_none q] at hgs; cases hgs
  refine GenW.wpAny_gsz (n := s.gens.size) (Nat.le_refl _) ?_
  refine wpAny_pyNext_genexpQ (P := fun n s₀ s₁ => b = !k ∧ ∃ M σ H, Inv Z pins σ H s₁ ∧ Wd Z.K C M H Sf ∧ Gr M0 H0 M H) hh hl hroom hg hgs (hgo _ rfl rfl (bare_set hb rfl)) (fun v s₁ gs' hb' hv hsz => ?_) (fun s₁ hp h' hk hsz => ?_)
  · obtain ⟨y, M, σ, H, S, rfl, I, w, gr, q1, q2⟩ := hv
    have hsz' : gid < s₁.gens.size := by
      rw [GenW.setGen_size] at hsz
      exact Nat.lt_of_lt_of_le hlt hsz
    have I2 : Inv Z pins σ H (s₁.setGen gid gs') := inv_alike I rfl rfl (bare_set I.bare hb')
    refine hQ y M σ H S _ I2 w gr q1 fun hk => ?_
    have q2 := q2 hk
    cases n with
    | zero => exact (q2 s₁ rfl rfl I.bare).elim
    | succ m =>
      obtain ⟨o, ho, nm, qn, e1, e2, e3⟩ := hp
      refine ⟨m, Nat.lt_succ_self m, ⟨o, nm, qn, (I2.pin (a, o) (List.mem_append_right _ ho)).1, e1, e2, e3⟩, I2.nolimit, gs', ?_, I2.bare, fun s'' eh eo eg => ?_⟩
      · show (s₁.gens.setIfInBounds gid gs')[gid]? = some gs'
        rw [Array.getElem?_setIfInBounds_self_of_lt hsz']
      · exact q2 s'' eh eo eg
  · obtain ⟨eb, M, σ, H, I, w, gr⟩ := hp
    refine hE eb M σ H _ ?_ w gr
    have I2 : Inv Z pins σ H (s₁.setGen gid .finished) := inv_alike I rfl rfl (bare_set I.bare rfl)
    exact I2.kept (t' := s₁.toks) hk
end

/-! ### all, any -/
section
variable {Z : Cx} {C : Ctx} {A : Around} {b : Bool} {Sf : Sto} {M0 : Mem} {H0 : Hp} {pins : List (Addr × Obj)} {a : Addr} {gid : Nat}
theorem all_run (hh : A.handled = none) (hroom : A.depth < recursionLimit) (hp : ∃ o, (a, o) ∈ pins ∧ ∃ nm qn, o.cls = .type "generator" ∧ o.data = .fields #[.int gid 0, nm, qn] ∧ o.slots = #[]) :
    ∀ (n : Nat) (s : Shared), GAt Z C A.in1.in1 pins M0 H0 Sf false b a gid n s →
      codeAny (model Z.prog Z.w) A (.builtin "all.loop" ⟨[.ref a], []⟩) (fun r s' => r = .ok (.ret (.bool b)) ∧ ∃ M σ H, Inv Z pins σ H s' ∧ Wd Z.K C M H Sf ∧ Gr M0 H0 M H) s := by
  intro n
  induction n using Nat.strongRecOn with
  | _ n ih =>
    intro s h
    refine codeAny_builtin F.entry_all_loop ?_
    rw [Around.under_plainId F.plain_all_loop _]
    show wpAny _ A.in1 (pyNext (.ref a) >>= _) _ _ s
    refine wpAny_bind (gat_next (B := A.in1) hh hroom hp h (fun y M σ H S s' I w gr q1 q2 => ?_) (fun eb M σ H s' I w gr => ?_))
    · refine wpAny_bind (wpAny_holding (wpAny_truthy_bool ?_))
      refine wpAny_bind (wpAny_letGo ?_)
      cases y with
      | true =>
        simp only [if_true]
        obtain ⟨m, hm, h'⟩ := q2 (by decide)
        exact wpAny_pure ⟨plainId_quiet F.plain_all_loop _, ih m hm s' h'⟩
      | false =>
        simp only [Bool.false_eq_true, if_false]
        obtain ⟨rfl, rfl⟩ := q1 rfl
        exact wpAny_bind (wpAny_rule (wpAny_pure ⟨rfl, M, σ, H, I, w, gr⟩))
    · subst eb
      exact wpAny_bind (wpAny_rule (wpAny_pure ⟨rfl, M, σ, H, I, w, gr⟩))
theorem any_run (hh : A.handled = none) (hroom : A.depth < recursionLimit) (hp : ∃ o, (a, o) ∈ pins ∧ ∃ nm qn, o.cls = .type "generator" ∧ o.data = .fields #[.int gid 0, nm, qn] ∧ o.slots = #[]) :
    ∀ (n : Nat) (s : Shared), GAt Z C A.in1.in1 pins M0 H0 Sf true b a gid n s →
      codeAny (model Z.prog Z.w) A (.builtin "any.loop" ⟨[.ref a], []⟩) (fun r s' => r = .ok (.ret (.bool b)) ∧ ∃ M σ H, Inv Z pins σ H s' ∧ Wd Z.K C M H Sf ∧ Gr M0 H0 M H) s := by
  intro n
  induction n using Nat.strongRecOn with
  | _ n ih =>
    intro s h
    refine codeAny_builtin F.entry_any_loop ?_
    rw [Around.under_plainId F.plain_any_loop _]
    show wpAny _ A.in1 (pyNext (.ref a) >>= _) _ _ s
    refine wpAny_bind (gat_next (B := A.in1) hh hroom hp h (fun y M σ H S s' I w gr q1 q2 => ?_) (fun eb M σ H s' I w gr => ?_))
    · refine wpAny_bind (wpAny_holding (wpAny_truthy_bool ?_))
      refine wpAny_bind (wpAny_letGo ?_)
      cases y with
      | false =>
        simp only [Bool.false_eq_true, if_false]
        obtain ⟨m, hm, h'⟩ := q2 (by decide)
        exact wpAny_pure ⟨plainId_quiet F.plain_any_loop _, ih m hm s' h'⟩
      | true =>
        simp only [if_true]
        obtain ⟨rfl, rfl⟩ := q1 rfl
        exact wpAny_bind (wpAny_rule (wpAny_pure ⟨rfl, M, σ, H, I, w, gr⟩))
    · subst eb
      exact wpAny_bind (wpAny_rule (wpAny_pure ⟨rfl, M, σ, H, I, w, gr⟩))
end

/-! ### the generator is made -/
/-- it stands at a, ready -/
def Ready (X : Cx) (pins : List (Addr × Obj)) (σ : St) (C : Ctx) (M : Mem) (H : Hp) (Sf : Sto) (k b : Bool) (scope : Scope) (a : Addr) (s5 : Shared) : Prop :=
  ∃ (s3 : Shared) (H3 : Hp) (code : Value) (fp : List Addr) (gid n : Nat) (go : Obj) (M0 : Mem),
    (∃ o, (a, o) ∈ [(a, go)] ∧ ∃ nm qn, o.cls = .type "generator" ∧ o.data = .fields #[.int gid 0, nm, qn] ∧ o.slots = #[]) ∧
    GAt (genCx X s3 H3 scope code fp) C X.A.in1.in1 [(a, go)] M0 H3 Sf k b a gid n s5 ∧
    ∀ M' σ' H' s', Inv (genCx X s3 H3 scope code fp) [(a, go)] σ' H' s' → Gr M0 H3 M' H' → Inv X pins σ H' s' ∧ Gr M H M' H'
/-- what the table's growth keeps -/
theorem tabs_grown {T : List (Addr × Str)} {H : Hp} {P c' : Addr} {q : Str} {ps : Array Value} {pos : Pos} (hP : H P = some (.tbl ps)) (nC : H c' = none) (ht : TriplesOk ps.toList) (hm : (P, q) ∈ T) (hu : ∀ p ∈ T, p.1 = P → p.2 = q) (hT : ∀ p ∈ T, TabOk H p) :
    LamX.ExtN H (upd (upd H P (.tbl (ps ++ #[rawInt pos.line, rawInt pos.col, .ref c']))) c' (LamX.CodeO c' q)) ∧ ∀ p ∈ T, TabOk (upd (upd H P (.tbl (ps ++ #[rawInt pos.line, rawInt pos.col, .ref c']))) c' (LamX.CodeO c' q)) p := by
  have hE : LamX.ExtN H (upd (upd H P (.tbl (ps ++ #[rawInt pos.line, rawInt pos.col, .ref c']))) c' (LamX.CodeO c' q)) := fun b o e n => by
    rw [upd_ne (ne_of_none e nC), upd_ne (fun z => n ps (Option.some.inj (e.symm.trans (by rw [z]; exact hP))))]
    exact e
  refine ⟨hE, fun p hp => ?_⟩
  have eL : (ps ++ #[rawInt pos.line, rawInt pos.col, Value.ref c']).toList = ps.toList ++ [rawInt pos.line, rawInt pos.col, .ref c'] := by simp
  by_cases hb : p.1 = P
  · obtain ⟨ps0, a1, a2, a3⟩ := hT p hp
    rw [hb, hP] at a1; cases a1
    show LamX.TabS _ p.1 p.2
    rw [hu p hp hb, hb]
    refine ⟨_, by rw [upd_ne (ne_of_none hP nC), upd_same], by rw [eL]; exact PySem.TriplesOk_snoc _ _ _ _ ht, fun p' cv hcv => ?_⟩
    rw [eL] at hcv
    rcases LamX.among_app _ ht hcv with z | z
    · obtain ⟨c0, e1, e2⟩ := a3 p' cv z
      rw [hu p hp hb] at e2
      exact ⟨c0, e1, hE _ _ e2 LamX.codeO_ne⟩
    · exact ⟨c', z, upd_same⟩
  · obtain ⟨ps', a1, a2, a3⟩ := hT p hp
    refine ⟨ps', by rw [upd_ne (ne_of_none a1 nC), upd_ne hb]; exact a1, a2, fun p' cv hcv => ?_⟩
    obtain ⟨c0, e1, e2⟩ := a3 p' cv hcv
    exact ⟨c0, e1, hE _ _ e2 LamX.codeO_ne⟩
section
variable {X : Cx} {C : Ctx} {elt iter tg : Expr} {scope : Scope} {gpos : Pos} {k b : Bool} {g : D → DEnv → Option DEnv} {is own : List Nat} {src : AM} {fe : EM} {c P : Addr} {j : Nat}
theorem gen_make {pins : List (Addr × Obj)} {σ : St} {H : Hp} {s : Shared} {M : Mem} {env : DEnv} {S S1 Sf : Sto} {ds : List D} {Q' : Value → Shared → Prop}
    (hr : Room (j + 1) X.A) (TB : LamX.TabB X.base X.mg c P) (hcode : X.env.code = .ref c) (hmT : (P, X.env.qual ++ "<genexpr>") ∈ C.T) (hu : ∀ p ∈ C.T, p.1 = P → p.2 = X.env.qual ++ "<genexpr>") (G : GenS X scope own)
    (hi : DI X C tg iter src) (hg : ∀ (s : Shared) (H : Hp) (code : Value) (fp : List Addr), DG (genCx X s H scope code fp) tg is g) (he : ∀ (s : Shared) (H : Hp) (code : Value) (fp : List Addr), DE (genCx X s H scope code fp) C elt fe) (his : ∀ i ∈ is, i ∈ own)
    (hs : ∀ x, genFold iter X.env x = pure x) (I : Inv X pins σ H s) (hE : EnvOk X.K M H env σ) (hW : Wd X.K C M H S) (h1 : src env S = some (ds, S1)) (h2 : runD k g fe (wipeD env own) ds S1 = some (b, Sf))
    (hQ : ∀ a s5, Ready X pins σ C M H Sf k b scope a s5 → Q' (.ref a) s5) :
    wpAny (model X.prog X.w) X.A (eval (.GeneratorExp elt [⟨tg, iter, [], 0⟩] scope gpos) X.env) Q' X.xe s := by
  refine wpAny_GeneratorExp_make G.co (closure_ok (G.has I.ok)) G.cell G.dot G.kind (by have := hr.dp; omega) ?_ hs
  refine thn (hi.run pins s σ H (fun J H1 => ∃ M1, Gr M H M1 H1 ∧ Wd X.K C M1 H1 S1 ∧ Walk X.K M1 H1 J ds) I ⟨M, env, S, ds, S1, hE, hW, h1, fun J M1 H1 g1 w1 wk => ⟨M1, g1, w1, wk⟩⟩) fun xv s1 hp1 => thn hp1 fun itv s2 hp2 => ?_
  obtain ⟨it, fp, tn, J, H2, e, I2, T, st2, f2, M1, g1, w1, wk⟩ := hp2
  subst e
  refine ⟨I2.nolimit, ?_⟩
  obtain ⟨ps, hP, ht, ha⟩ := w1.tab _ hmT
  have hPs : s2.heap.get? P = some { cls := .none, data := .fields ps } := I2.hok P _ hP
  have cd : PySem.W.CodeHd s2.heap c P := TB.code.keeps I2.bk
  have cont : ∀ (code : Value) (H3 : Hp) (s3 : Shared), Inv X pins σ H3 s3 → LamX.ExtN H2 H3 → (∀ p ∈ C.T, TabOk H3 p) → tn 0 s3.heap → (∀ b ∈ fp, H3 b = none) →
      wpAny (model X.prog X.w) X.A (builtinsFor X.env.globals X.env.builtins) (fun bi s₄ =>
        ∀ h' : Heap, h'.Ns s₄.heap.objs.size (fun y => if y = ".0" then some (.ref it) else none) → Heap.SameBut s₄.heap.objs.size (s₄.heap.push { cls := .type "frame", data := .dict #[] }) h' →
          Q' (.ref h'.objs.size) { s₄ with
            gens := s₄.gens.push (.fresh (.compStart (.GeneratorExp elt [⟨tg, iter, [], 0⟩] scope gpos) 0 (.ref it) .none (genEnv scope (cloFrom X.env.cells scope.names []) s₄.heap.objs.size code bi X.env))),
            toks := s₄.toks + 1 + 1 + 1,
            heap := h'.push { cls := .type "generator", data := .fields #[.int s₄.gens.size 0, .str "<genexpr>" (s₄.toks + 1), .str (X.env.qual ++ "<genexpr>") (s₄.toks + 1 + 1)] } }) X.xe s3 := by
    intro code H3 s3 I3 eN tabs st3 fr3
    obtain ⟨bm, ob, e1, e2, e3, e4, e5, e6, e7, e8⟩ := TB.bm
    refine wpAny_builtinsFor (m := X.mg) (by rw [I3.ok.glob]; exact I3.mod.glob.keeps I3.bk) e1 e2 (I3.bk _ _ e5) e6 e7 e8 ?_
    intro h' hn' hs'
    have f3 : ∀ b ∈ fp, FpOk X pins H3 b := fun b hb => ⟨fr3 b hb, (f2 b hb).2⟩
    have hfl : ∀ b ∈ fp, b < s3.heap.objs.size := fun b hb => by
      obtain ⟨o, e, _⟩ := T.obj _ _ st3 b hb
      exact Heap.lt_size e
    have hsz : h'.objs.size = s3.heap.objs.size + 1 := by rw [hs'.1, Heap.size_push]
    have keep' : ∀ b o, s3.heap.get? b = some o → h'.get? b = some o := fun b o e => hs'.extBut b o (Nat.ne_of_lt (Heap.lt_size e)) (Heap.get?_push_of_some _ e)
    have g3 : Gr M1 H2 M1 H3 := Gr.extN w1 eN
    have w3 : Wd X.K C M1 H3 S1 := w1.extN eN tabs
    refine hQ _ _ ⟨s3, H3, code, fp, s3.gens.size, ds.length, { cls := .type "generator", data := .fields #[.int s3.gens.size 0, .str "<genexpr>" (s3.toks + 1), .str (X.env.qual ++ "<genexpr>") (s3.toks + 1 + 1)] }, M1, ⟨_, List.mem_cons_self, _, _, rfl, rfl, rfl⟩, ?_, fun M' σ' H' s' I' gr' => ⟨?_, (g1.trans g3).trans gr'⟩⟩
    · have IZ0 := gen_start (own := own) (code := code) (h' := h'.push { cls := .type "generator", data := .fields #[.int s3.gens.size 0, .str "<genexpr>" (s3.toks + 1), .str (X.env.qual ++ "<genexpr>") (s3.toks + 1 + 1)] })
        (gs := s3.gens.push (.fresh (.compStart (.GeneratorExp elt [⟨tg, iter, [], 0⟩] scope gpos) 0 (.ref it) .none (gEnv X scope s3.heap.objs.size code)))) (tk := s3.toks + 1 + 1 + 1) I3 hr.hd G f3 hfl (hn'.push _) (fun b o e => Heap.get?_push_of_some _ (keep' b o e)) (I3.bare.push rfl)
      have IZ := IZ0.pins_of (pins' := [(h'.objs.size, { cls := .type "generator", data := .fields #[.int s3.gens.size 0, .str "<genexpr>" (s3.toks + 1), .str (X.env.qual ++ "<genexpr>") (s3.toks + 1 + 1)] })]) (fun p hp => by
        have e : p = _ := List.mem_singleton.mp hp
        subst e
        have hle : s3.heap.objs.size ≤ h'.objs.size := by omega
        refine ⟨Heap.get?_push_size _ rfl, I3.hok.fresh hle, ?_, fun z => ?_, fun v z => ?_⟩
        · show h'.objs.size ≠ s3.heap.objs.size
          omega
        · rcases List.mem_cons.mp (I3.stkSub _ z) with z | z
          · have h1 : @LT.lt Nat _ X.env.locals s3.heap.objs.size := I3.lt
            have z' : @Eq Nat h'.objs.size X.env.locals := z
            omega
          · exact I3.nofs hle z
        · have z' : Data.fields _ = Data.cell v := z
          cases z')
      refine ⟨⟨_, _, _, Heap.get?_push_size _ rfl, rfl, rfl, rfl⟩, IZ.nolimit, _, Array.getElem?_push_size .., IZ.bare, fun s'' eh eo eg => ⟨rfl, ?_⟩⟩
      have I'' := inv_alike IZ eh eo eg
      refine seg_genS (Z := genCx X s3 H3 scope code fp) (tn := tn) (fp := fp) (J := J) (vs := own) rfl (fun _ _ z => z) rfl G.co T (fun Hx hx b hb => ⟨hx b hb, Nat.ne_of_lt (hfl b hb), fun z => ?_, .inl hb, fun y cc e z => ?_, fun p hp z => ?_⟩) (wk.move g3.mv) (hg _ _ _ _) (he _ _ _ _) his _ _ M1 _ H3 S1 I'' ?_ w3 .refl ?_ fr3 h2
      · rcases List.mem_cons.mp (I3.stkSub _ z) with z | z
        · exact (f3 b hb).2.1 z
        · exact (f3 b hb).2.2.1 z
      · rcases cloFrom_mem (PySem.mem_of_lookup e) with hm | ⟨q1, q2⟩
        · cases hm
        · obtain ⟨c1, hc⟩ := G.has I3.ok _ q1 rfl
          have hc : X.env.cells.lookup y = some c1 := hc
          have e2 : cc = c1 := by
            rw [q2, hc] <;> rfl
          exact (f3 b hb).2.2.2.2.1 y c1 hc (e2.symm.trans z)
      · have e : p = _ := List.mem_singleton.mp hp
        subst e
        have q : @LT.lt Nat _ b s3.heap.objs.size := hfl b hb
        have z' : @Eq Nat h'.objs.size b := z
        omega
      · rw [wipe_wipe]
        exact ((hE.mono g1).mono g3).wipe own
      · rw [eh]
        exact T.keep _ _ _ st3 fun b hb o e => Heap.get?_push_of_some _ (keep' b o e)
    · exact I3.call' (s' := s') (ch := fp) I'.os I'.base I'.hok I'.bare fun b hb => ⟨(f3 b hb).2.2.2.1, (f3 b hb).2.1, (f3 b hb).2.2.2.2.1, (f3 b hb).2.2.2.2.2⟩
  cases hf : codeAmong gpos ps.toList with
  | none =>
    refine wpAny_genexprCodeX hcode (cd.code hPs ht) (cd.tab hPs) hf fun c' h' tk hx hge hlt hco' hrec' htab' _ => ?_
    obtain ⟨c2, oc, vs, t, e2, hoc, hd, hv⟩ := hrec'
    cases e2
    have nC : H2 c' = none := I2.hok.fresh hge
    have tg2 := tabs_grown (pos := gpos) hP nC ht hmT hu w1.tab
    have I3 := LamX.inv_table (q := X.env.qual ++ "<genexpr>") (t' := tk) (more := #[rawInt gpos.line, rawInt gpos.col, .ref c']) (h' := h') I2 hP hx htab'.2 hge ⟨oc, vs, t, hoc, hd, hv⟩
    have nP : ∀ b ∈ fp, b ≠ P := fun b hb z => by
      have q := (f2 b hb).1
      rw [z, hP] at q; cases q
    refine cont _ _ _ I3 tg2.1 tg2.2 (T.keep _ _ _ st2 fun b hb o e => hx b o (nP b hb) e) fun b hb => ?_
    rw [upd_ne, upd_ne (nP b hb)]
    · exact (f2 b hb).1
    · intro z
      obtain ⟨o, e, _⟩ := T.obj _ _ st2 b hb
      have q := Heap.lt_size e
      rw [z] at q
      exact Nat.lt_irrefl _ (Nat.lt_of_lt_of_le q hge)
  | some cv =>
    refine wpAny_genexprCode_hit hcode (cd.code hPs ht) hf ?_
    exact cont cv H2 s2 I2 (LamX.ExtN.refl _) w1.tab st2 fun b hb => (f2 b hb).1
/-- all(elt for tg in iter) -/
def eGen (k : Bool) (src : AM) (g : D → DEnv → Option DEnv) (fe : EM) (vs : List Nat) : EM := fun env S => (src env S).bind fun p => (runD k g fe (wipeD env vs) p.1 p.2).map fun q => (.bl q.1, q.2)
theorem boot_all : bootBuiltins "all" = some (.builtin "all") := by decide +kernel
theorem d_allG {p pos : Pos} (hm : X.mg "all" = none)
    (hr : Room (j + 1) X.A) (TB : LamX.TabB X.base X.mg c P) (hcode : X.env.code = .ref c) (hmT : (P, X.env.qual ++ "<genexpr>") ∈ C.T) (hu : ∀ p ∈ C.T, p.1 = P → p.2 = X.env.qual ++ "<genexpr>") (G : GenS X scope own)
    (hi : DI X C tg iter src) (hg : ∀ (s : Shared) (H : Hp) (code : Value) (fp : List Addr), DG (genCx X s H scope code fp) tg is g) (he : ∀ (s : Shared) (H : Hp) (code : Value) (fp : List Addr), DE (genCx X s H scope code fp) C elt fe) (his : ∀ i ∈ is, i ∈ own := by decide)
    (hs : ∀ x, genFold iter X.env x = pure x := by intro _; rfl) (hgl : Gl X "all" := by rfl)
    (hst : starEach [.GeneratorExp elt [⟨tg, iter, [], 0⟩] scope gpos] X.env = (false, eval (.GeneratorExp elt [⟨tg, iter, [], 0⟩] scope gpos) X.env) :: starEach [] X.env := by rfl) :
    DE X C (.Call (.Name "all" p) [.GeneratorExp elt [⟨tg, iter, [], 0⟩] scope gpos] [] pos) (eGen false src g fe own) := by
  refine ⟨fun pins s σ H Q I h => ?_⟩
  obtain ⟨M, env, S, d, S', hE, hW, hf, q⟩ := h
  obtain ⟨⟨ds, S1⟩, h1, hf⟩ := Option.bind_eq_some_iff.mp hf
  obtain ⟨⟨b, Sf⟩, h2, hf⟩ := Option.map_eq_some_iff.mp hf
  cases hf
  refine wpAny_Call_Name_kw (ld_blt I hgl hm boot_all ?_)
  refine PyProof.Rows.callWith_builtin1 ?_ hst (by rfl)
  rw [hst]
  show wpAny _ _ (spliced ((false, eval (.GeneratorExp elt [⟨tg, iter, [], 0⟩] scope gpos) X.env) :: backTo pos (starEach [] X.env))) _ _ s
  refine Calls.spliced_cons (gen_make hr TB hcode hmT hu G hi hg he his hs I hE hW h1 h2 fun a s5 hG => ?_)
  obtain ⟨s3, H3, code, fp, gid, n, go, M0, hp, hat, back⟩ := hG
  refine Calls.spliced_nil ?_
  refine call_function_tree F.kind_all F.plain_all F.entry_all (F.args_all1 _) ?_
  unfold Builtin.«all»
  refine wpAny_bind (m := oneArg "all" _) (wpAny_pure ?_)
  refine wpAny_bind (wpAny_pyIter_gen hat.1 ?_)
  refine wpAny_pure ⟨plainId_quiet F.plain_all_loop _, codeAny_mono (all_run (Z := genCx X s3 H3 scope code fp) hr.hd hr.depth hp n s5 hat) fun r s' hq => ?_⟩
  obtain ⟨rfl, M', σ', H', I', w', gr'⟩ := hq
  obtain ⟨J, gr⟩ := back M' σ' H' s' I' gr'
  exact ⟨.bl b, H', J, rfl, q _ M' H' gr w' (repB _)⟩
theorem d_anyG {p pos : Pos} (hm : X.mg "any" = none)
    (hr : Room (j + 1) X.A) (TB : LamX.TabB X.base X.mg c P) (hcode : X.env.code = .ref c) (hmT : (P, X.env.qual ++ "<genexpr>") ∈ C.T) (hu : ∀ p ∈ C.T, p.1 = P → p.2 = X.env.qual ++ "<genexpr>") (G : GenS X scope own)
    (hi : DI X C tg iter src) (hg : ∀ (s : Shared) (H : Hp) (code : Value) (fp : List Addr), DG (genCx X s H scope code fp) tg is g) (he : ∀ (s : Shared) (H : Hp) (code : Value) (fp : List Addr), DE (genCx X s H scope code fp) C elt fe) (his : ∀ i ∈ is, i ∈ own := by decide)
    (hs : ∀ x, genFold iter X.env x = pure x := by intro _; rfl) (hgl : Gl X "any" := by rfl)
    (hst : starEach [.GeneratorExp elt [⟨tg, iter, [], 0⟩] scope gpos] X.env = (false, eval (.GeneratorExp elt [⟨tg, iter, [], 0⟩] scope gpos) X.env) :: starEach [] X.env := by rfl) :
    DE X C (.Call (.Name "any" p) [.GeneratorExp elt [⟨tg, iter, [], 0⟩] scope gpos] [] pos) (eGen true src g fe own) := by
  refine ⟨fun pins s σ H Q I h => ?_⟩
  obtain ⟨M, env, S, d, S', hE, hW, hf, q⟩ := h
  obtain ⟨⟨ds, S1⟩, h1, hf⟩ := Option.bind_eq_some_iff.mp hf
  obtain ⟨⟨b, Sf⟩, h2, hf⟩ := Option.map_eq_some_iff.mp hf
  cases hf
  refine wpAny_Call_Name_kw (ld_blt I hgl hm PyProof.Rows.boot_any ?_)
  refine PyProof.Rows.callWith_builtin1 ?_ hst (by rfl)
  rw [hst]
  show wpAny _ _ (spliced ((false, eval (.GeneratorExp elt [⟨tg, iter, [], 0⟩] scope gpos) X.env) :: backTo pos (starEach [] X.env))) _ _ s
  refine Calls.spliced_cons (gen_make hr TB hcode hmT hu G hi hg he his hs I hE hW h1 h2 fun a s5 hG => ?_)
  obtain ⟨s3, H3, code, fp, gid, n, go, M0, hp, hat, back⟩ := hG
  refine Calls.spliced_nil ?_
  refine call_function_tree F.kind_any F.plain_any F.entry_any (F.args_any1 _) ?_
  unfold Builtin.«any»
  refine wpAny_bind (m := oneArg "any" _) (wpAny_pure ?_)
  refine wpAny_bind (wpAny_pyIter_gen hat.1 ?_)
  refine wpAny_pure ⟨plainId_quiet F.plain_any_loop _, codeAny_mono (any_run (Z := genCx X s3 H3 scope code fp) hr.hd hr.depth hp n s5 hat) fun r s' hq => ?_⟩
  obtain ⟨rfl, M', σ', H', I', w', gr'⟩ := hq
  obtain ⟨J, gr⟩ := back M' σ' H' s' I' gr'
  exact ⟨.bl b, H', J, rfl, q _ M' H' gr w' (repB _)⟩
end
end L2.DL
-- part DTry
set_option maxHeartbeats 2000000
/-! DTry: defs from their bodies; raise; try with except; lambdas handed to a def. -/
namespace L2.DL
open PySem PySem.Spec PyProof.Rows

/-! ### a def of the text, its code object and its defaults told -/
structure FunT (K : PySem.W.Frag) (x : Str) (st : Stmt) (f : Addr) (fd : FuncData) (cdv dV : Value) : Prop where
  ex : ∃ (oc : Value) (od : Option Addr) (kV doc pm : Value) (an : Option Addr) (ct : Value) (osl : Array (Option Value)),
    fd = PySem.W.fnOf x x (defArgs st) (defBody st) (defScope st) dV kV doc pm an cdv ct ∧ K.lookup f = some ⟨oc, od, .func fd, osl⟩ ∧ PySem.W.codeIn K cdv x = true
  kp : PySem.W.keepIn K (.ref f) = true
def startD (n : Nat) (ds : List D) : DEnv := ds.map some ++ List.replicate (n - ds.length) none
/-- what a def computes: from its body -/
def denF (nN n : Nat) (B : SM) : DF := fun ds S => if ds.length = n then (B (startD nN ds) S).map fun p => match p.1 with
  | .nx => (.ok .non, p.2.2)
  | .rt d => (.ok d, p.2.2)
  | .ex x => (.error x, p.2.2) else none
theorem start_ok {K : PySem.W.Frag} {M : Mem} {H : Hp} {N : List Str} {ds : List D} {vs : List V} (r : RepL K M H ds vs) : EnvOk K M H (startD N.length ds) (L2.start N vs) := by
  refine ⟨by simp [startD, L2.start, r.length], fun i d h => ?_⟩
  unfold startD at h
  by_cases hi : i < ds.length
  · rw [List.getElem?_append_left (by simpa using hi), List.getElem?_map] at h
    obtain ⟨d', h1, h2⟩ := Option.map_eq_some_iff.mp h
    cases h2
    obtain ⟨x, hx, rx⟩ := r.get h1
    refine ⟨x, ?_, rx⟩
    unfold L2.start
    rw [List.getElem?_append_left (by rw [List.length_map, ← r.length]; exact hi), List.getElem?_map, hx]
    rfl
  · rw [List.getElem?_append_right (by simpa using hi)] at h
    rw [List.getElem?_replicate] at h
    split at h <;> cases h
section
variable {P : Program} {w : World} {K : PySem.W.Frag} {mg : Str → Option Value} {base : Heap} {C : Ctx}
abbrev cxD (P : Program) (w : World) (K : PySem.W.Frag) (mg : Str → Option Value) (base : Heap) (N : List Str) (x : Str) (st : Stmt) (f : Addr) (cdv : Value) (A : Around) (outer : List Env) (s : Shared) (H : Hp) (E : XK) : Cx :=
  cxOf (L2.CX P w) P w K mg base N x (defScope st) f cdv A outer s H E
abbrev wE (E : XK) : WX := fun cls d _ H => E cls d H
theorem takesD {N : List Str} {x : Str} {st : Stmt} {f : Addr} {cdv : Value} {A : Around} {outer : List Env} {s : Shared} {H : Hp} {E : XK} : Takes (cxD P w K mg base N x st f cdv A outer s H E) (wE E) := takes_of rfl rfl rfl rfl
theorem ownsD {N : List Str} {x : Str} {st : Stmt} {f : Addr} {cdv : Value} {A : Around} {outer : List Env} {s : Shared} {H : Hp} {E : XK} : PassesOwn (model (cxD P w K mg base N x st f cdv A outer s H E).prog (cxD P w K mg base N x st f cdv A outer s H E).w) (cxD P w K mg base N x st f cdv A outer s H E).A (cxD P w K mg base N x st f cdv A outer s H E).env (cxD P w K mg base N x st f cdv A outer s H E).xe :=
  passes_of (X := cxD P w K mg base N x st f cdv A outer s H E) (K := fun e s'' => L2.CX P w outer H s E e s'') rfl
/-- THE RULE for a def -/
theorem def_of {x : Str} {st : Stmt} {f : Addr} {fd : FuncData} {cdv dV : Value} {N ps : List Str} {k n : Nat} {B : SM} (F : FunT K x st f fd cdv dV) (S : FnScope N ps (defScope st)) (hn : ps.length = n)
    (hb : ∀ (A : Around) (outer : List Env) (s : Shared) (H : Hp) (E : XK), Room k (cxD P w K mg base N x st f cdv A outer s H E).A → DSs (cxD P w K mg base N x st f cdv A outer s H E) C (wE E) (defBody st) B) :
    FnOk P w K mg base (L2.CX P w) (k + 1) f fd ps (spD K C n (denF N.length n B)) := by
  obtain ⟨oc, od, kV, doc, pm, an, ct, osl, rfl, lk, hcd⟩ := F.ex
  refine fn_of lk hcd S (fun vs H Q E ⟨M, S0, ds, r, S', hl, hW, hr, _⟩ => by rw [← hr.length, hl, hn]) fun A outer s H vs Q E hr hsp => ⟨_, hb A outer s H E hr, ?_⟩
  obtain ⟨M, S0, ds, r, S', hl, hW, hr, hf, q⟩ := hsp
  unfold denF at hf
  rw [if_pos hl] at hf
  obtain ⟨⟨o, env', S1⟩, h1, hf⟩ := Option.map_eq_some_iff.mp hf
  refine ⟨M, startD N.length ds, S0, o, env', S1, start_ok hr, hW, h1, ?_⟩
  cases o with
  | nx => cases hf; exact fun M' H' σ' g' w' e' => q .non M' H' g' w' (by simp [Rep])
  | rt d => cases hf; exact q
  | ex x => cases hf; exact fun cls dd M' H' σ' g' w' e' x' => q cls dd M' H' g' w' x'
/-- as it is called -/
theorem FunT.bindsAll {x : Str} {st : Stmt} {f : Addr} {fd : FuncData} {cdv dV : Value} {ps : List Str} (F : FunT K x st f fd cdv dV)
    (h : ∀ (kV doc pm : Value) (an : Option Addr) (ct : Value) (us : List Value), us.length = ps.length → bindArgs (PySem.W.fnOf x x (defArgs st) (defBody st) (defScope st) dV kV doc pm an cdv ct) ⟨us, []⟩ = pure (ps.zip us)) : Binds K fd ps [] := by
  obtain ⟨oc, od, kV, doc, pm, an, ct, osl, rfl, lk, hcd⟩ := F.ex
  exact .all fun us hl => h kV doc pm an ct us hl
theorem dfn_of {x : Str} {st : Stmt} {f : Addr} {fd : FuncData} {cdv dV : Value} {ps : List Str} {k n : Nat} {F : DF} {CX : CXT} (T : FunT K x st f fd cdv dV) (hm : mg x = some (.ref f)) (hok : FnOk P w K mg base CX k f fd ps (spD K C n F)) (hb : Binds K fd ps []) : DFn P w K mg base C CX k x n F :=
  ⟨f, fd, ps, hok, hm, T.kp, hb⟩
end

/-! ### errors -/
/-- BadText.__init__: self.line = line -/
def spInit (K : PySem.W.Frag) : Sp := fun vs H Q _ => ∃ (a C : Addr) (y : V), vs = [.ref a, y] ∧ OexC K C ∧ PySem.W.findIn K (.ref C) "line" = some none ∧ H a = some (exo a C none) ∧
  ∀ dx, H dx = none → dx ≠ a → Q .non (upd (upd H dx (exd dx [("line", y)])) a (exo a C (some dx)))
structure ErrT (P : Program) (w : World) (K : PySem.W.Frag) (mg : Str → Option Value) (base : Heap) (C : Ctx) : Prop where
  gB : mg "BadText" = some (.ref C.CB)
  oex : OexC K C.CB
  noL : PySem.W.findIn K (.ref C.CB) "line" = some none
  ini : ∃ (fI : Addr) (fd : FuncData), PySem.W.findIn K (.ref C.CB) "__init__" = some (some (.ref fI)) ∧ PySem.W.typeIn K (.ref fI) = some (.type "function") ∧ FnOk P w K mg base CX0 1 fI fd ["self", "line"] (spInit K) ∧ Binds K fd ["self", "line"] []
  xf : XfC K C.CB
  bb : PySem.W.exmOne K (.ref C.CB) (.ref C.CB) = some true
  gL : mg "BadLosses" = some (.ref C.CL)
  kL : PySem.W.keepIn K (.ref C.CL) = true
  exL : PySem.W.excIn K C.CL PySem.HandSPX.veTail "ValueError.__new__" = true
  rL1 : PySem.W.subIn K (.ref C.CL) (.type "BaseException") = some true
  rL2 : PySem.W.typeIn K (.ref C.CL) = some (.type "type")
  lb : PySem.W.exmOne K (.ref C.CL) (.ref C.CB) = some false
  ll : PySem.W.exmOne K (.ref C.CL) (.ref C.CL) = some true
/-- X(), X an own exception class without own __init__ -/
theorem pmk_own0 {X : Cx} {C : Addr} {bmB : List Value} {B newId initId : String} {x : Str} {p pos : Pos} (F : ExcBaseFacts B newId initId bmB) (q : PySem.W.excIn X.K C bmB newId = true) (gC : X.mg x = some (.ref C))
    (kC : PySem.W.keepIn X.K (.ref C) = true) (r : Raises X (.ref C)) (hg : Gl X x) (hdb : (x == ("__debug__" : Str)) = false := by decide) :
    PMk X (.Call (.Name x p) [] [] pos) (fun _ H Q => Q (.ref C) none H) := by
  intro pins s σ H Q I h
  refine wpAny_Call_Name_kw (ld_glob I hg gC ?_ hdb)
  refine PySem.W.callWith_K0 I.kIn kC ?_
  show wpAny _ _ (call (.ref C) []) _ _ _
  obtain ⟨bm, N, nm, qn, bs, hdct, sn, sub, ab, col, dd, k0, k1, k2, k3, k5, mN, hC, hN, hni, T⟩ := exc_obj I.kIn q
  refine wpAny_call_exc_subT F T hC hN hni (fun h' e hm => ?_) (Nat.zero_le _)
  exact mk_of I hm r h (I.hok.gone hm.new)
def sRaiseT (fe : EM) : SM := fun env S => (fe env S).bind fun p => match p.1 with
  | .int n => some (.ex (.bad n), env, p.2)
  | _ => none
def sRaiseL : SM := fun env S => some (.ex .loss, env, S)
section
variable {X : Cx} {C : Ctx} {W : WX} {e : Expr} {fe : EM} {p p2 pos : Pos}
theorem ds_raiseT (T : ErrT X.prog X.w X.K X.mg X.base C) (hc : X.calm = true) (tk : Takes X W) (hr : Room 2 X.A) (he : DE X C e fe) (hg : Gl X "BadText" := by rfl) (hst : starEach [e] X.env = (false, eval e X.env) :: starEach [] X.env := by rfl) :
    DS X C W (.Raise (some (.Call (.Name "BadText" p) [e] [] p2)) none pos) (sRaiseT fe) := by
  obtain ⟨fI, fd, i1, i2, i3, i4⟩ := T.ini
  refine impS (ps_raise hc tk (pmk_oex T.oex i1 i2 i3 hr i4 .nil pass0 hg T.gB (pa_cons he pa_nil hst) (by decide) hst rfl)) fun Dn σ H h => ?_
  obtain ⟨M, env, S, o, env', S', hE, hW, hf, q⟩ := h
  obtain ⟨⟨d, S1⟩, h1, hf⟩ := Option.bind_eq_some_iff.mp hf
  refine ⟨M, env, S, d, S1, hE, hW, h1, fun v M1 H1 g1 w1 r1 => ?_⟩
  cases d <;> first | (cases hf; done) | skip
  rename_i n
  cases hf
  have ev := rep_int r1
  subst ev
  refine ⟨show 1 ≤ 1000 by decide, fun a na => ⟨a, C.CB, .int n, rfl, T.oex, T.noL, upd_same, fun dx ndx nda => ⟨rfl, dx, [("line", .int n)], upd_same, ?_, ?_, ?_⟩⟩⟩
  · rw [upd_ne nda, upd_same]
  · rw [upd_ne nda] at ndx; exact ndx
  · rw [upd_ne nda] at ndx
    have eH : upd (del (upd (upd (upd H1 a (exo a C.CB none)) dx (exd dx [("line", .int n)])) a (exo a C.CB (some dx))) a) dx (.xd [("line", .int n)]) = upd H1 dx (.xd [("line", .int n)]) := by
      funext b
      by_cases hb : b = dx
      · rw [hb, upd_same, upd_same]
      · rw [upd_ne hb, upd_ne hb]
        by_cases ha : b = a
        · rw [ha, del_same, na]
        · rw [del_ne ha, upd_ne ha, upd_ne hb, upd_ne ha]
    rw [eH]
    exact q (.ref C.CB) (some dx) M1 _ σ (g1.trans (.same (same_new ndx))) (w1.same (same_new ndx)) ((hE.mono g1).mono (.same (same_new ndx))) ⟨rfl, dx, rfl, upd_same⟩
theorem ds_raiseL (T : ErrT X.prog X.w X.K X.mg X.base C) (hc : X.calm = true) (tk : Takes X W) (hg : Gl X "BadLosses" := by rfl) :
    DS X C W (.Raise (some (.Call (.Name "BadLosses" p) [] [] p2)) none pos) sRaiseL :=
  impS (ps_raise hc tk (pmk_own0 PySem.F.excBase_ValueError T.exL T.gL T.kL (raises_own T.rL1 T.rL2) hg)) fun Dn σ H h => by
    obtain ⟨M, env, S, o, env', S', hE, hW, hf, q⟩ := h
    cases hf
    exact q (.ref C.CL) none M H σ .refl hW hE ⟨rfl, rfl⟩
end

/-! ### try: clauses with and without a name -/
abbrev Hd := Value × Option Nat × (Addr → Value → Option Addr → TS)
def wMix (K : PySem.W.Frag) (Wout : WX) (D : Ends) : List Hd → WX
  | [] => Wout
  | (c, none, ts) :: r => fun cls d σ H => ∃ b, PySem.W.exmOne K cls c = some b ∧ (b = true → ∀ a, H a = none → ts a cls d D σ H) ∧ (b = false → wMix K Wout D r cls d σ H)
  | (c, some i, ts) :: r => fun cls d σ H => ∃ b, PySem.W.exmOne K cls c = some b ∧
      (b = true → ∀ a, H a = none → ts a cls d { nx := fun σ' H' => D.nx (σ'.set i none) H', rt := D.rt, bk := fun σ' H' => D.bk (σ'.set i none) H', ct := fun σ' H' => D.ct (σ'.set i none) H' } (σ.set i (some (.ref a))) H) ∧ (b = false → wMix K Wout D r cls d σ H)
inductive HdsM (X : Cx) : List ExceptHandler → List Hd → Prop
  | nil : HdsM X [] []
  | cons {x : Str} {c : Value} {ts : Addr → Value → Option Addr → TS} {b₀ : Stmt} {suite : List Stmt} {np pos' : Pos} {hds : List ExceptHandler} {l : List Hd} (hc : Names X x c)
      (hsu : ∀ (a : Addr) (oe : Obj) (cls : Value) (d : Option Addr) (pn : List (Addr × Obj)), Zc cls d oe → (∃ vs, oe.data = .fields vs) → PSs (X.suite a ((a, oe) :: pn)) (b₀ :: suite) (ts a cls d)) (r : HdsM X hds l) :
      HdsM X (.ExceptHandler (some (.Name x np)) none (b₀ :: suite) pos' :: hds) ((c, none, ts) :: l)
  | consAs {x n : Str} {i : Nat} {c : Value} {ts : Addr → Value → Option Addr → TS} {b₀ : Stmt} {suite : List Stmt} {np pos' : Pos} {hds : List ExceptHandler} {l : List Hd} (hc : Names X x c) (hN : X.N.Nodup) (hi : X.N[i]? = some n) (hln : X.env.kindOf n = some .local)
      (hsu : ∀ (a : Addr) (oe : Obj) (cls : Value) (d : Option Addr) (pn : List (Addr × Obj)), Zc cls d oe → (∃ vs, oe.data = .fields vs) → PSs (X.suite a ((a, oe) :: pn)) (b₀ :: suite) (ts a cls d)) (r : HdsM X hds l) :
      HdsM X (.ExceptHandler (some (.Name x np)) (some n) (b₀ :: suite) pos' :: hds) ((c, some i, ts) :: l)
section
variable {X : Cx} {body : List Stmt} {h₀ : ExceptHandler} {hds : List ExceptHandler} {l : List Hd} {pos : Pos} {tb : WX → TS} {Wout : WX}
theorem ps_try_mix (hs : X.stack = X.env :: X.outer) (hf : X.env.frame = some X.env.locals) (tk : Takes X Wout)
    (hb : ∀ (W : WX) (pn : List (Addr × Obj)) (xe : Value → Shared → Prop), Takes (X.tr pn xe) W → PassesOwn (model X.prog X.w) X.A X.env xe → PSs (X.tr pn xe) body (tb W))
    (hh : HdsM X (h₀ :: hds) l) : PS X (.Try body (h₀ :: hds) [] [] pos) (fun D σ H => tb (wMix X.K Wout D l) D σ H) := by
  refine ⟨fun pins s σ H D I h => ?_⟩
  have ok := I.ok
  have hfr : X.A.frames = some (X.env :: X.outer) := by rw [ok.frames, hs]
  refine wpAny_Try_except ?_
  refine wpAny_mono ((hb (wMix X.K Wout D l) (X.pn ++ pins) (fun e s₁ => wpAny (model X.prog X.w) X.A (noteFrame e X.env) (fun _ s₂ => wpAny (model X.prog X.w) X.A (setFlight e none) (fun _ s₃ =>
    wpAny (model X.prog X.w) X.A (handleBy e X.env (h₀ :: hds)) (SP X pins D) X.xe s₃) X.xe s₂) X.xe s₁) (fun u s' xx => ?_) PassesOwn.looking).run [] s σ H D (I.toTry _) h) (fun f s1 hsp => ?_) (fun e s1 he => he)
  · obtain ⟨a, B, sI, pins', σ', H', cls, d, rfl, J', nb, up, sky, na, os, ag, w⟩ := xx
    have J : Inv X pins σ' H' sI := J'.ofTry ok
    have sky' : Sky B (X.env :: X.outer) a (Zc cls d) X.env.locals s'.heap := by rw [← hs]; exact sky
    show wpAny (model X.prog X.w) X.A (noteFrame (.ref a) X.env) _ _ _
    refine Sky.land Zc.steady hfr hf sky' fun h3 fl3 up3 => ?_
    have J3 : Inv X pins σ' H' { s' with heap := h3 } := J.landed nb fl3.1 (up.trans up3) os ag
    obtain ⟨oe3, vs3, he3, hz3, hd3⟩ := fl3.there
    have notFr : ∀ {h : Heap} {o : Obj} {vs : Array Value}, h.FunFrames B (X.env :: X.outer) → h.get? a = some o → o.data = .fields vs → a ∉ frs (X.env :: X.outer) := fun {h o vs} ff e dd hm => by
      obtain ⟨_, o', e', hnf⟩ := ff.mem hm
      rw [e] at e'; cases e'
      exact hnf _ dd
    have nfr := notFr fl3.2.2.1 he3 hd3
    have nL : a ≠ X.env.locals := fun z => nfr (List.mem_filterMap.mpr ⟨X.env, List.mem_cons_self, by rw [hf, z]⟩)
    have nF : a ∉ X.fs := fun hm => by
      obtain ⟨e, he, q⟩ := List.mem_filterMap.mp hm
      exact nfr (List.mem_filterMap.mpr ⟨e, List.mem_cons_of_mem _ he, q⟩)
    have S3 := J3.suite he3 hd3 na nL nF
    have go : ∀ {hds' : List ExceptHandler} {l' : List Hd}, HdsM X hds' l' → wMix X.K Wout D l' cls d σ' H' →
        wpAny (model X.prog X.w) X.A (handleBy (.ref a) X.env hds') (SP X pins D) X.xe { s' with heap := h3 } := by
      intro hds' l' hk
      induction hk with
      | nil =>
        intro w
        refine wpAny_handleBy_nil ?_
        obtain ⟨k1, k2, k3, oe, vs, T, oT, ts', he, hz, hd, h1, hr⟩ := id fl3
        unfold PySem.passOn
        refine wpAny_bind (wpAny_field he hd h1 ?_)
        rw [if_neg (show ¬ ((Value.ref T == Value.none) = true) from by simp)]
        have fin : wpAny (model X.prog X.w) X.A (setFlight (.ref a) X.env.frame) (fun _ s4 => wpAny (model X.prog X.w) X.A (throw (.ref a) : Sem Flow) (SP X pins D) X.xe s4) X.xe { s' with heap := h3 } := by
          rw [hf]
          refine HandSPX.setFlight_upZ fl3 fun h4 hh4 up4 => wpAny_throw (tk _ _ ?_)
          exact ⟨a, B, sI, pins, σ', H', cls, d, rfl, J, nb, (up.trans up3).trans up4, .inr (.inr (by rw [hs]; exact hh4)), na, os, ag, w⟩
        first
          | exact wpAny_bind (wpAny_pure (wpAny_bind fin))
          | exact wpAny_bind fin
      | @cons x c ts b₀ suite np pos' hds2 l2 hc hsu r ih =>
        intro w
        obtain ⟨b, hb1, hyes, hno⟩ := w
        refine wpAny_handleBy_cons (codeAny_handlers_test ?_) (by intro q; cases q)
        have LT : PySem.W.Looks (model X.prog X.w) h3 (typeOf (.ref a)) cls := fun A Q E s k q => wpAny_typeOf_ref (k _ _ he3) (by rw [hz3.1]; exact q)
        have LM := PySem.W.exm_one (M := model X.prog X.w) (J3.kIn) LT hb1
        have test : ∀ {Q : Value → Shared → Prop} {E : Value → Shared → Prop}, Q c { s' with heap := h3 } → wpAny (model X.prog X.w) (X.A.mark (some (.ref a))) (eval (.Name x np) X.env) Q E { s' with heap := h3 } := fun {Q E} q => by
          obtain ⟨hg, hdbg, hm | ⟨hm, hv, hnn⟩⟩ := hc
          · exact ld_glob (X := X.suite a ((a, oe3) :: (X.pn ++ pins))) S3 hg hm q hdbg
          · exact ld_blt (X := X.suite a ((a, oe3) :: (X.pn ++ pins))) S3 hg hm hv q hnn hdbg
        refine test (LM.here ?_)
        cases b with
        | true =>
          refine codeAny_handlers_suite ?_
          refine HandSPX.lands_againZ fl3 fun h4 fl4 up4 => ?_
          have J4 : Inv X pins σ' H' { s' with heap := h4 } := J.landed nb fl4.1 ((up.trans up3).trans up4) os ag
          obtain ⟨oe4, vs4, he4, hz4, hd4⟩ := fl4.there
          have S4 := J4.suite he4 hd4 na nL nF
          refine wpAny_mono ((hsu a oe4 cls d (X.pn ++ pins) hz4 ⟨_, hd4⟩).run [] _ _ H' _ S4 (hyes rfl a na)) (fun f s6 hsp => ?_) (fun _ _ z => False.elim z)
          cases f with
          | next =>
            obtain ⟨σ6, H6, S6, q6⟩ := hsp
            exact ⟨_, _, S6.unsuite ok, q6⟩
          | brk =>
            obtain ⟨σ6, H6, S6, q6⟩ := hsp
            exact ⟨_, _, S6.unsuite ok, q6⟩
          | cont =>
            obtain ⟨σ6, H6, S6, q6⟩ := hsp
            exact ⟨_, _, S6.unsuite ok, q6⟩
          | ret u =>
            obtain ⟨v6, σ6, H6, S6, r6, q6⟩ := hsp
            exact ⟨_, _, _, S6.unsuite ok, r6, q6⟩
        | false =>
          show wpAny _ X.A (handleBy (.ref a) X.env hds2) _ _ _
          exact ih (hno rfl)
      | @consAs x n i c ts b₀ suite np pos' hds2 l2 hc hN hi hln hsu r ih =>
        intro w
        obtain ⟨b, hb1, hyes, hno⟩ := w
        have hloc : Loc X.env.scope n := .inl hln
        refine wpAny_handleBy_cons (codeAny_handlers_test ?_) (by intro q; cases q)
        have LT : PySem.W.Looks (model X.prog X.w) h3 (typeOf (.ref a)) cls := fun A Q E s k q => wpAny_typeOf_ref (k _ _ he3) (by rw [hz3.1]; exact q)
        have LM := PySem.W.exm_one (M := model X.prog X.w) (J3.kIn) LT hb1
        have test : ∀ {Q : Value → Shared → Prop} {E : Value → Shared → Prop}, Q c { s' with heap := h3 } → wpAny (model X.prog X.w) (X.A.mark (some (.ref a))) (eval (.Name x np) X.env) Q E { s' with heap := h3 } := fun {Q E} q => by
          obtain ⟨hg, hdbg, hm | ⟨hm, hv, hnn⟩⟩ := hc
          · exact ld_glob (X := X.suite a ((a, oe3) :: (X.pn ++ pins))) S3 hg hm q hdbg
          · exact ld_blt (X := X.suite a ((a, oe3) :: (X.pn ++ pins))) S3 hg hm hv q hnn hdbg
        refine test (LM.here ?_)
        cases b with
        | true =>
          refine codeAny_handlers_suite_as ?_
          refine HandSPX.lands_againZ fl3 fun h4 fl4 up4 => ?_
          have J4 : Inv X pins σ' H' { s' with heap := h4 } := J.landed nb fl4.1 ((up.trans up3).trans up4) os ag
          obtain ⟨oe4, vs4, he4, hz4, hd4⟩ := fl4.there
          have S4 := J4.suite he4 hd4 na nL nF
          refine store_ok (X := X.suite a ((a, oe4) :: (X.pn ++ pins))) (v := .ref a) S4 hN hi hloc rfl (fun s5 S5 => ?_) (.inr hln)
          refine wpAny_mono ((hsu a oe4 cls d (X.pn ++ pins) hz4 ⟨_, hd4⟩).run [] s5 _ H' _ S5 (hyes rfl a na)) (fun f s6 hsp => ?_) (fun _ _ z => False.elim z)
          have end_ : ∀ {σ6 : St} {H6 : Hp} {Q : Shared → Prop}, Inv (X.suite a ((a, oe4) :: (X.pn ++ pins))) [] σ6 H6 s6 → (∀ s7, Inv X pins (σ6.set i none) H6 s7 → Q s7) →
              wpAny (model X.prog X.w) X.A (do bindName X.env n .none; unbindBehindTheSuite X.env n pos') (fun _ s7 => Q s7) X.xe s6 := fun {σ6 H6 Q} S6 hq => gone_ok (S6.unsuite ok) hN hi hln hq
          cases f with
          | next =>
            obtain ⟨σ6, H6, S6, q6⟩ := hsp
            exact end_ S6 fun s7 J7 => ⟨_, _, J7, q6⟩
          | brk =>
            obtain ⟨σ6, H6, S6, q6⟩ := hsp
            exact end_ S6 fun s7 J7 => ⟨_, _, J7, q6⟩
          | cont =>
            obtain ⟨σ6, H6, S6, q6⟩ := hsp
            exact end_ S6 fun s7 J7 => ⟨_, _, J7, q6⟩
          | ret u =>
            obtain ⟨v6, σ6, H6, S6, r6, q6⟩ := hsp
            exact end_ S6 fun s7 J7 => ⟨_, _, _, J7, r6, q6⟩
        | false =>
          show wpAny _ X.A (handleBy (.ref a) X.env hds2) _ _ _
          exact ih (hno rfl)
    exact go hh w
  · cases f with
    | next =>
      obtain ⟨σ', H', J', q⟩ := hsp
      exact wpAny_execs_nil ⟨σ', H', J'.ofTry ok, q⟩
    | brk =>
      obtain ⟨σ', H', J', q⟩ := hsp
      exact ⟨σ', H', J'.ofTry ok, q⟩
    | cont =>
      obtain ⟨σ', H', J', q⟩ := hsp
      exact ⟨σ', H', J'.ofTry ok, q⟩
    | ret u =>
      obtain ⟨v, σ', H', J', r, q⟩ := hsp
      exact ⟨v, σ', H', J'.ofTry ok, r, q⟩
end

/-! ### try: return e / except BadText as e: return 'bad' if e.line == 0 else 'other' -/
def badV (n : Int) : D := if n = 0 then .str (Str.ofString "bad").cps.toList else .str (Str.ofString "other").cps.toList
def sTryT (i : Nat) (fx : XM) : SM := fun env S => if i < env.length then (fx env S).bind fun p => match p.1 with
  | .ok d => some (.rt d, env, p.2)
  | .error (.bad n) => some (.rt (badV n), env, p.2)
  | .error .loss => none else none
section
variable {X : Cx} {C : Ctx} {W : WX} {e : Expr} {fx : XM} {i j1 j2 j3 : Nat} {n : Str} {p1 p2 p3 p4 q1 q2 q3 q4 q5 q6 q7 q8 : Pos}
theorem ds_tryT (T : ErrT X.prog X.w X.K X.mg X.base C) (hs : X.stack = X.env :: X.outer) (hf : X.env.frame = some X.env.locals) (tk : Takes X W) (hN : X.N.Nodup)
    (he : ∀ (W : WX) (pn : List (Addr × Obj)) (xe : Value → Shared → Prop), Takes (X.tr pn xe) W → DX (X.tr pn xe) C W e fx) (hi : X.N[i]? = some n := by rfl) (hln : X.env.kindOf n = some .local := by rfl) (hg : Gl X "BadText" := by rfl) (hd : (n == ("__debug__" : Str)) = false := by decide) (hcd : (n == ("__classdict__" : Str)) = false := by decide)
    (hb : attributeBase (.Name n q1) "line" X.env (eval (.Name n q1) X.env) = eval (.Name n q1) X.env := by rfl) :
    DS X C W (.Try [.Return (some e) p1] [.ExceptHandler (some (.Name "BadText" p2)) (some n) [.Return (some (.IfExp (.Compare (.Attribute (.Name n q1) "line" q2) [.Eq] [.Constant (.int 0) j1 q3] q4) (.Constant (.str "bad") j2 q5) (.Constant (.str "other") j3 q6) q7)) q8] p3] [] [] p4) (sTryT i fx) := by
  refine impS (ps_try_mix (X := X) (tb := fun W => lS X.K C W (sRetX fx)) (l := [(.ref C.CB, some i, fun a cls d => tRet (tIf (tTest (tOp rEq (tXf a cls d C.CB "line" (tVar i)) (tC (.int 0)))) (tC (.str "bad")) (tC (.str "other"))))]) hs hf tk
    (fun W pn xe tk' _ => ds_one (ds_retX (he W pn xe tk'))) (.consAs ⟨hg, by decide, .inl T.gB⟩ hN hi hln (fun a oe cls d pn hz hv => ?_) .nil)) fun Dn σ H h => ?_
  · exact pss_one (ps_ret (pe_ifExp (pt_cmpR op_eq (pe_xf (X := X) T.xf T.noL hz hv (pe_var hi (Or.inl hln) hd hcd) hb) pe_int rfl) pe_str pe_str))
  · obtain ⟨M, env, S, o, env', S', hE, hW, hf, q⟩ := h
    unfold sTryT at hf
    split at hf
    rotate_left
    · cases hf
    rename_i hil
    obtain ⟨⟨r, S1⟩, h1, hf⟩ := Option.bind_eq_some_iff.mp hf
    cases r with
    | ok d =>
      cases hf
      exact ⟨M, env, S, .rt d, env, S1, hE, hW, by unfold sRetX; rw [h1]; rfl, q⟩
    | error x =>
      cases x with
      | loss => cases hf
      | bad k =>
        cases hf
        refine ⟨M, env, S, .ex (.bad k), env, S1, hE, hW, by unfold sRetX; rw [h1]; rfl, fun cls dd M' H' σ' g' w' e' x' => ?_⟩
        obtain ⟨rfl, ad, rfl, ha⟩ := x'
        refine ⟨true, T.bb, fun _ a na => ?_, fun z => by cases z⟩
        refine ⟨.ref a, ?_, rfl, rfl, ad, _, .int k, rfl, ha, rfl, rfl, decide (V.int k = V.int 0), rfl, ?_⟩
        · rw [List.getElem?_set_self (by rw [← e'.len]; exact hil)]
        · have q := q (.str (if k = 0 then "bad" else "other")) M' H' g' w' (by
            unfold badV
            split
            · exact repS _
            · exact repS _)
          show if decide (V.int k = V.int 0) = true then Dn.rt (.str "bad") H' else Dn.rt (.str "other") H'
          by_cases hk : k = 0
          · subst hk
            rw [if_pos (by simp)]
            rw [if_pos rfl] at q
            exact q
          · rw [if_neg (by simpa using hk)]
            rw [if_neg hk] at q
            exact q
end

/-! ### x(lambda: e), x: try: return a() / except BadText as e: return e.line / except BadLosses: return 'losses' -/
def lossV : D := .str (Str.ofString "losses").cps.toList
def TToldD (C : Ctx) : (XK → Hp → VK → Prop) → Hp → VK → Prop := fun tl H Q => tl (fun cls dd H' => (∃ n, ExRep C H' (.bad n) cls dd ∧ Q (.int n) H') ∨ (ExRep C H' .loss cls dd ∧ Q (.str "losses") H')) H Q
theorem told_givesD {X : Cx} {C : Ctx} {Ng : List Str} {x a n q : Str} {sg : Scope} {g : Addr} {cdg : Value} {j : Nat} {p1 p2 p3 p4 p5 p6 p7 p8 p9 p10 p11 p12 p13 : Pos} (T : ErrT X.prog X.w X.K X.mg X.base C) (hge : sg.names.lookup ("BadText" : Str) = some NameKind.globalImplicit) (hge2 : sg.names.lookup ("BadLosses" : Str) = some NameKind.globalImplicit)
    (hN : Ng.Nodup) (hi : Ng[1]? = some n) (hln : sg.names.lookup n = some .local) (h0 : ∀ f : Addr, (L2.start Ng [V.ref f])[0]? = some (some (V.ref f))) (hlen : Ng.length = 2) (hd : (n == ("__debug__" : Str)) = false) (hcd : (n == ("__classdict__" : Str)) = false) :
    LamX.GivesTo X Ng x sg g cdg [.Try [.Return (some (.Call (.Name a p1) [] [] p2)) p3]
      [.ExceptHandler (some (.Name "BadText" p4)) (some n) [.Return (some (.Attribute (.Name n p5) "line" p6)) p7] p8, .ExceptHandler (some (.Name "BadLosses" p9)) none [.Return (some (.Constant (.str "losses") j p10)) p11] p12] [] [] p13] a q (TToldD C) := by
  intro f c' s H Q tl act hc h
  have hgl : Gl (cxOf C8.CX0 X.prog X.w X.K X.mg X.base Ng x sg g cdg X.A X.stack s H C8.E0).nox "BadText" := hge
  have hgl2 : Gl (cxOf C8.CX0 X.prog X.w X.K X.mg X.base Ng x sg g cdg X.A X.stack s H C8.E0).nox "BadLosses" := hge2
  refine ⟨_, pss_one (ps_try_mix (X := (cxOf C8.CX0 X.prog X.w X.K X.mg X.base Ng x sg g cdg X.A X.stack s H C8.E0).nox)
      (l := [(.ref C.CB, some 1, fun a cls d => tRet (tXf a cls d C.CB "line" (tVar 1))), (.ref C.CL, none, fun a cls d => tRet (tC (.str "losses")))])
      (tb := fun W D σ H => ∃ Ech : XK, (∀ cls d σ' H', σ'.length = 2 → Ech cls d H' → W cls d σ' H') ∧ σ[0]? = some (some (.ref f)) ∧ H c' = some (LamX.CodeO c' q) ∧ tl Ech H D.rt)
      rfl rfl L2.takes0 (fun W pn xe tk _ => ?_) (.consAs ⟨hgl, by decide, .inl T.gB⟩ hN hi hln (fun a oe cls d pn hz hv => ?_) (.cons ⟨hgl2, by decide, .inl T.gL⟩ (fun a oe cls d pn _ _ => pss_one (ps_ret pe_str)) .nil))), ?_⟩
  · refine ⟨fun pins s' σ H' D I h' => ?_⟩
    obtain ⟨Ech, hW, h1, h2, h3⟩ := h'
    have hp := act (fun cls d _ H' => Ech cls d H') pn xe Ech p1 p2 (fun u s' ⟨a, B, sI, pins, σ, H, cls, d, e, I, nb, up, sky, na, os, ag, w⟩ => tk u s' ⟨a, B, sI, pins, σ, H, cls, d, e, I, nb, up, sky, na, os, ag, hW cls d σ H (I.len.trans hlen) w⟩) (fun _ _ _ _ z => z)
    have hq := pss_one (ps_ret (pos := p3) hp)
    exact hq.run pins s' σ H' D I ⟨h1, h2, h3⟩
  · exact pss_one (ps_ret (pe_xf (X := (cxOf C8.CX0 X.prog X.w X.K X.mg X.base Ng x sg g cdg X.A X.stack s H C8.E0).nox) T.xf T.noL hz hv (pe_var hi (Or.inl hln) hd hcd)))
  · refine ⟨_, fun cls d σ' H' hl z => ?_, h0 f, hc, h⟩
    rcases z with ⟨k, ⟨rfl, ad, rfl, ha⟩, z⟩ | ⟨⟨rfl, rfl⟩, z⟩
    · refine ⟨true, T.bb, fun _ a na => ⟨.ref a, ?_, rfl, rfl, ad, _, .int k, rfl, ha, rfl, z⟩, fun z => by cases z⟩
      rw [List.getElem?_set_self (by rw [hl]; decide)]
    · exact ⟨false, T.lb, fun z => by (cases z), fun _ => ⟨true, T.ll, fun _ a na => z, fun z => by (cases z)⟩⟩

def eTold (fx : XM) : EM := fun env S => (fx env S).bind fun p => match p.1 with
  | .ok d => some (d, p.2)
  | .error (.bad n) => some (.int n, p.2)
  | .error .loss => some (lossV, p.2)
/-- told stands as a def that takes a lambda -/
structure ToldT (K : PySem.W.Frag) (mg : Str → Option Value) (x a : Str) (st : Stmt) (Ng : List Str) : Prop where
  ex : ∃ (g : Addr) (oc : Value) (od : Option Addr) (dV kV doc pm : Value) (an : Option Addr) (cdv ct : Value) (osl : Array (Option Value)),
    mg x = some (.ref g) ∧ PySem.W.keepIn K (.ref g) = true ∧ K.lookup g = some ⟨oc, od, .func (PySem.W.fnOf x x (defArgs st) (defBody st) (defScope st) dV kV doc pm an cdv ct), osl⟩ ∧ PySem.W.codeIn K cdv x = true ∧
      Binds K (PySem.W.fnOf x x (defArgs st) (defBody st) (defScope st) dV kV doc pm an cdv ct) [a] []
section
variable {X : Cx} {C : Ctx} {body : Expr} {fx : XM} {x a : Str} {st : Stmt} {Ng : List Str} {params : Arguments} {scope : Scope} {c P : Addr} {k : Nat} {p lpos pos : Pos}
theorem d_told (T : ToldT X.K X.mg x a st Ng) (Sg : FnScope Ng [a] (defScope st)) (hG : ∀ (g : Addr) (cdg : Value) (q : Str), LamX.GivesTo X Ng x (defScope st) g cdg (defBody st) a q (TToldD C)) (hNg : Ng[0]? = some a) (hva : Vis (defScope st) a)
    (TB : LamX.TabB X.base X.mg c P) (hcode : X.env.code = .ref c) (hmT : (P, X.env.qual ++ "<lambda>") ∈ C.T) (hu : ∀ p ∈ C.T, p.1 = P → p.2 = X.env.qual ++ "<lambda>") (hr : Room (k + 2) X.A) (L : LamX.LamS X.env.scope scope)
    (hbody : ∀ (A : Around) (outer : List Env) (s : Shared) (H : Hp) (E : XK) (f c' : Addr), Room k (A.deeper (LamX.lamEnv X scope s.heap.objs.size f c')) → DX (LamX.lamCx X A outer s H E scope f c') C (wE E) body fx)
    (hg : Gl X x := by rfl) (hdef : defaultsOf params X.env = ([], []) := by rfl)
    (hbind : ∀ (q : Str) (cl : List (Str × Addr)) (pm cv ctv : Value), bindArgs (PySem.W.kla_fn "<lambda>" q params body scope cl pm cv ctv) ⟨[], []⟩ = pure [] := by intro _ _ _ _ _; rfl)
    (hdb : (x == ("__debug__" : Str)) = false := by decide) (hd : (a == ("__debug__" : Str)) = false := by decide) (hcd : (a == ("__classdict__" : Str)) = false := by decide) :
    DE X C (.Call (.Name x p) [.Lambda params body scope lpos] [] pos) (eTold fx) := by
  obtain ⟨g, oc, od, dV, kV, doc, pm, an, cdv, ct, osl, t1, t2, t3, t4, t5⟩ := T.ex
  refine impE (LamX.pe_lamcall (T := C.T) (t := fun E => lX X.K C (wE E) fx) hg t1 t2 t3 t4 t5 Sg hNg hva (hG g cdv _) TB hcode hmT hu hr L hdef hbind hbody hdb hd hcd) fun σ H Q h => ?_
  obtain ⟨M, env, S, d, S', hE, hW, hf, q⟩ := h
  obtain ⟨⟨r, S1⟩, h1, hf⟩ := Option.bind_eq_some_iff.mp hf
  refine ⟨hW.tab, fun H1 eN tabs => ?_⟩
  have g1 : Gr M H M H1 := Gr.extN hW eN
  refine ⟨M, env, S, r, S1, hE.mono g1, hW.extN eN tabs, h1, ?_⟩
  cases r with
  | ok d' => cases hf; exact fun v M' H' g' w' r' => q v M' H' (g1.trans g') w' r'
  | error x' =>
    cases x' with
    | bad n => cases hf; exact fun cls dd M' H' g' w' z => .inl ⟨n, z, q _ M' H' (g1.trans g') w' (repI _)⟩
    | loss => cases hf; exact fun cls dd M' H' g' w' z => .inr ⟨z, q _ M' H' (g1.trans g') w' (repS _)⟩
end
end L2.DL
-- part DFin
set_option maxHeartbeats 2000000
/-! DFin: small rules for the printed derivations. -/
namespace L2.DL
open PySem PySem.Spec PyProof.Rows
abbrev sT (s : String) : D := .str (Str.ofString s).cps.toList
section
variable {X : Cx} {C : Ctx}
theorem d_neg {i : Int} {j p p2} : DE X C (.UnaryOp .USub (.Constant (.int i) j p) p2) (eC (.int (-i))) := by
  refine d_of (pe_un un_neg pe_int) fun M env S d S' σ H Q hE hW hf q => ?_
  cases hf
  exact ⟨i, rfl, q _ M H .refl hW (repI _)⟩
theorem d_gI {x : Str} {i : Int} {pos : Pos} (hm : ∃ t, X.mg x = some (.int i t)) (hg : Gl X x := by rfl) (hd : (x == ("__debug__" : Str)) = false := by decide) : DE X C (.Name x pos) (eC (.int i)) := by
  obtain ⟨t, hm⟩ := hm
  exact d_globI hg hm hd
theorem d_gS {x s : Str} {pos : Pos} (hm : ∃ t, X.mg x = some (.str s t)) (hg : Gl X x := by rfl) (hd : (x == ("__debug__" : Str)) = false := by decide) : DE X C (.Name x pos) (eC (.str s.cps.toList)) := by
  obtain ⟨t, hm⟩ := hm
  exact d_globS hg hm hd
end
theorem room_gen {X : Cx} {k : Nat} {s : Shared} {H : Hp} {scope : Scope} {code : Value} {fp : List Addr} (hr : Room (k + 1) X.A) : Room k (genCx X s H scope code fp).A :=
  ⟨hr.hd, by have := hr.dp; show X.A.depth + 1 + 3 * k + 5 < _; omega, by have := hr.un; show X.A.units + 1 + 1 + 3 + 16 * k + 200 < _; omega⟩
def genSB (N : List Str) (sc scope : Scope) (own : List Nat) : Bool :=
  decide (scope.kind = .function) && !scope.isCoroutine && scope.names.all (fun y => !decide (y.2 = .cell)) && decide (scope.names.lookup (".0" : Str) = some NameKind.local) &&
  scope.names.all (fun y => !decide (y.2 = .free) || decide (sc.names.lookup y.1 = some .cell) || decide (sc.names.lookup y.1 = some .free)) &&
  (List.range N.length).all fun i => match N[i]? with
    | some y => !decide (scope.names.lookup y = some .local) || decide (i ∈ own)
    | none => true
theorem genS_by {X : Cx} {scope : Scope} {own : List Nat} (h : genSB X.N X.env.scope scope own = true) : GenS X scope own := by
  unfold genSB at h
  simp only [Bool.and_eq_true, Bool.or_eq_true, Bool.not_eq_true', decide_eq_true_eq, decide_eq_false_iff_not, List.all_eq_true] at h
  obtain ⟨⟨⟨⟨⟨h1, h2⟩, h3⟩, h4⟩, h5⟩, h6⟩ := h
  refine ⟨h1, h2, h3, h4, fun y hy e => ?_, fun i y hi hl => ?_⟩
  · rcases h5 y hy with (z | z) | z
    · exact absurd e z
    · exact .inl z
    · exact .inr z
  · have hlt : i < X.N.length := (List.getElem?_eq_some_iff.mp hi).1
    have q := h6 i (List.mem_range.mpr hlt)
    rw [hi] at q
    simp only [Bool.or_eq_true, Bool.not_eq_true', decide_eq_true_eq, decide_eq_false_iff_not] at q
    rcases q with q | q
    · exact absurd hl q
    · exact q
theorem fnOk_none {P : Program} {w : World} {K : PySem.W.Frag} {mg : Str → Option Value} {base : Heap} {C : Ctx} {CX : CXT} {k n : Nat} {f : Addr} {fd : FuncData} {ps : List Str} : FnOk P w K mg base CX k f fd ps (spD K C n fun _ _ => none) :=
  ⟨fun _ _ _ _ ⟨_, _, _, _, _, _, _, _, h, _⟩ => by (cases h), fun _ _ _ _ _ _ _ _ _ _ _ _ _ ⟨_, _, _, _, _, _, _, _, h, _⟩ => by (cases h)⟩
theorem DFn.none {P : Program} {w : World} {K : PySem.W.Frag} {mg : Str → Option Value} {base : Heap} {C : Ctx} {CX : CXT} {k n : Nat} {x : Str} {F : DF} (h : DFn P w K mg base C CX k x n F) (j : Nat) : DFn P w K mg base C CX j x n fun _ _ => none := by
  obtain ⟨f, fd, ps, h1, h2⟩ := h.ex
  exact ⟨f, fd, ps, fnOk_none, h2⟩
theorem lam_takes {X : Cx} {A : Around} {outer : List Env} {s : Shared} {H : Hp} {E : XK} {scope : Scope} {f c' : Addr} : Takes (LamX.lamCx X A outer s H E scope f c') (wE E) := takes_of rfl rfl rfl rfl
/-- the builtins' names are the builtins' -/
structure Blt (mg : Str → Option Value) : Prop where
  len : mg "len" = none
  int : mg "int" = none
  str : mg "str" = none
  tuple : mg "tuple" = none
  list : mg "list" = none
  bool : mg "bool" = none
  max : mg "max" = none
  isinstance : mg "isinstance" = none
  range : mg "range" = none
  enumerate : mg "enumerate" = none
  zip : mg "zip" = none
  all : mg "all" = none
  any : mg "any" = none
  sorted : mg "sorted" = none
  dict : mg "dict" = none
theorem bt_int : bootBuiltins "int" = some (.type "int") := by decide +kernel
theorem bt_str : bootBuiltins "str" = some (.type "str") := by decide +kernel
theorem bt_tuple : bootBuiltins "tuple" = some (.type "tuple") := by decide +kernel
theorem bt_list : bootBuiltins "list" = some (.type "list") := by decide +kernel
theorem bt_bool : bootBuiltins "bool" = some (.type "bool") := by decide +kernel
theorem hu2 {A : Around} {k : Nat} (hr : Room k A) : A.units + 2 < cLine := Nat.lt_of_le_of_lt (Nat.add_le_add_left (by decide : 2 ≤ 64) _) hr.units
theorem len_suc {fa : AM} {n : Nat} (h : ∀ env S p, fa env S = some p → p.1.length = n) : ∀ env S p, fa env S = some p → p.1.length + 1 = n + 1 := fun env S p q => by rw [h env S p q]
theorem hu65 {A : Around} {k : Nat} (hr : Room k A) : A.units + 65 < cLine := by have := hr.un; omega
end L2.DL
-- part Den
/-! Den: what each def computes (printed by gen.py). -/
namespace L2.DL
open PySem PySem.Spec PyProof.Rows

def B__law_taken : SM :=
  sSeq (sIf (bOf (eOp gtD (eOp ixD (eVar 0) (eC (.int 3))) (eC (.int 0)))) (sSeq (sSet 2 (eOp modD (eCl intDD (aCons (eOp ixD (eVar 0) (eC (.int 3))) aNil)) (eVar 1))) (sSeq (sSetIx (eVar 0) (eC (.int 3)) (eOp fdivD (eOp ixD (eVar 0) (eC (.int 3))) (eVar 1))) (sRet (eVar 2)))) sNil) (sSeq (sSetIx (eVar 0) (eC (.int 1)) (eOp addD (eOp ixD (eVar 0) (eC (.int 1))) (eC (.int 1)))) (sSeq (sIf (bOf (eOp gtD (eOp ixD (eVar 0) (eC (.int 1))) (eCl lenD (aCons (eOp ixD (eVar 0) (eC (.int 0))) aNil)))) (sSeq (sSetIx (eVar 0) (eC (.int 2)) (eOp modD (eCl intDD (aCons (eOp addD (eOp mulD (eOp ixD (eVar 0) (eC (.int 2))) (eC (.int 48271))) (eC (.int 11))) aNil)) (eC (.int 2147483647)))) (sRet (eOp modD (eCl intDD (aCons (eOp fdivD (eOp ixD (eVar 0) (eC (.int 2))) (eC (.int 7))) aNil)) (eVar 1)))) sNil) (sSeq (sSet 3 (eOp ixD (eOp ixD (eVar 0) (eC (.int 0))) (eOp subD (eOp ixD (eVar 0) (eC (.int 1))) (eC (.int 1))))) (sSeq (sSetIx (eVar 0) (eC (.int 2)) (eOp modD (eCl intDD (aCons (eOp addD (eOp addD (eOp mulD (eOp ixD (eVar 0) (eC (.int 2))) (eC (.int 48271))) (eVar 3)) (eC (.int 11))) aNil)) (eC (.int 2147483647)))) (sSeq (sIf (bOf (eOp geD (eVar 3) (eOp powD (eC (.int 10)) (eC (.int 18))))) (sSetIx (eVar 0) (eC (.int 3)) (eOp fdivD (eVar 3) (eVar 1))) sNil) (sRet (eOp modD (eCl intDD (aCons (eVar 3) aNil)) (eVar 1))))))))
def F__law_taken : DF := denF 4 2 B__law_taken
def B__law_machine : SM :=
  sRet (eTup (aCons (eOp addD (eC (.int 1)) (eCall F__law_taken (aCons (eVar 0) (aCons (eC (.int 3)) aNil)))) (aCons (eCl tupDD (aCons (eComp (rg1 (aCons (eOp addD (eC (.int 1)) (eCall F__law_taken (aCons (eVar 0) (aCons (eC (.int 2)) aNil)))) aNil)) (gNameD 1) bYes (eOp addD (eC (.int 1)) (eCall F__law_taken (aCons (eVar 0) (aCons (eC (.int 2)) aNil)))) [1]) aNil)) aNil)))
def F__law_machine : DF := denF 2 1 B__law_machine
def B__law_pick : SM :=
  sRet (eOp ixD (eVar 1) (eCall F__law_taken (aCons (eVar 0) (aCons (eCl lenD (aCons (eVar 1) aNil)) aNil))))
def F__law_pick : DF := denF 2 2 B__law_pick
def B__law_line : SM :=
  sSeq (sAsg (gTupD [2,3]) (eVar 1)) (sSeq (sIf (bAnd (bOf (eOp gtD (eVar 2) (eC (.int 1)))) (bOf (eOp eqD (eCall F__law_taken (aCons (eVar 0) (aCons (eC (.int 4)) aNil))) (eC (.int 0))))) (sSeq (sSet 4 (eCall F__law_taken (aCons (eVar 0) (aCons (eVar 2) aNil)))) (sRet (eTup (aCons (eVar 4) (aCons (eC .non) (aCons (eTup (aCons (eCall F__law_pick (aCons (eVar 0) (aCons (eComp (rg1 (aCons (eVar 2) aNil)) (gNameD 5) (bOf (eOp neD (eVar 5) (eVar 4))) (eVar 5) [5]) aNil))) aNil)) aNil)))))) sNil) (sSeq (sSet 6 (eCall F__law_taken (aCons (eVar 0) (aCons (eCl lenD (aCons (eVar 3) aNil)) aNil)))) (sRet (eTup (aCons (eCall F__law_taken (aCons (eVar 0) (aCons (eVar 2) aNil))) (aCons (eVar 6) (aCons (eCl tupDD (aCons (eComp (rg1 (aCons (eOp ixD (eVar 3) (eVar 6)) aNil)) (gNameD 7) bYes (eCall F__law_taken (aCons (eVar 0) (aCons (eVar 2) aNil))) [7]) aNil)) aNil)))))))
def F__law_line : DF := denF 8 2 B__law_line
def B__law_program : SM :=
  sSeq (sSet 3 (eTup aNil)) (sSeq (sFor (rg1 (aCons (eCall F__law_taken (aCons (eVar 0) (aCons (eOp addD (eVar 2) (eC (.int 1))) aNil))) aNil)) (gNameD 4) (sSeq (sSet 5 (eCall F__law_line (aCons (eVar 0) (aCons (eVar 1) aNil)))) (sSet 3 (eOp addD (eVar 3) (eIf (bOf (eOp eqD (eCall F__law_taken (aCons (eVar 0) (aCons (eC (.int 3)) aNil))) (eC (.int 0)))) (eTup (aCons (eVar 5) (aCons (eVar 5) aNil))) (eTup (aCons (eVar 5) aNil))))))) (sRet (eSl slD (eVar 3) oNone (oSome (eVar 2)))))
def F__law_program : DF := denF 6 3 B__law_program
def B__law_done : SM :=
  sSeq (sAsg (gTupD [2,3,4]) (eVar 1)) (sSeq (sSet 5 (eCl tupDD (aCons (eComp (tupOf (eVar 4)) (gNameD 6) bYes (eOp ixD (eVar 0) (eVar 6)) [6]) aNil))) (sRet (eOp addD (eOp addD (eSl slD (eVar 0) oNone (oSome (eVar 2))) (eTup (aCons (eIf (bOf (eOp isND (eVar 3) (eC .non))) (eOp ixD (eVar 5) (eC (.int 0))) (eOp addD (eTup (aCons (eVar 3) aNil)) (eVar 5))) aNil))) (eSl slD (eVar 0) (oSome (eOp addD (eVar 2) (eC (.int 1)))) oNone))))
def F__law_done : DF := denF 7 2 B__law_done
def B__law_run : SM :=
  sSeq (sSet 2 (eTupRg (eOp ixD (eVar 0) (eC (.int 0))))) (sSeq (sFor (tupOf (eVar 1)) (gNameD 3) (sSet 2 (eCall F__law_done (aCons (eVar 2) (aCons (eVar 3) aNil))))) (sRet (eVar 2)))
def F__law_run : DF := denF 4 2 B__law_run
def B__law_wishes : SM :=
  sSeq (sSet 3 (eCall F__law_run (aCons (eVar 1) (aCons (eVar 2) aNil)))) (sSeq (sSet 4 (eComp (rg1 (aCons (eOp ixD (eVar 1) (eC (.int 0))) aNil)) (gNameD 5) (bOf (eOp eqD (eCall F__law_taken (aCons (eVar 0) (aCons (eC (.int 2)) aNil))) (eC (.int 0)))) (eVar 5) [5])) (sSeq (sSet 4 (eIf (bOf (eOp neD (eVar 4) (eLst aNil))) (eVar 4) (eLst (aCons (eCall F__law_taken (aCons (eVar 0) (aCons (eOp ixD (eVar 1) (eC (.int 0))) aNil))) aNil)))) (sRet (eCl tupDD (aCons (eComp (lstOf (eVar 4)) (gNameD 5) bYes (eTup (aCons (eVar 5) (aCons (eIf (bOf (eOp gtD (eCall F__law_taken (aCons (eVar 0) (aCons (eC (.int 8)) aNil))) (eC (.int 0)))) (eOp ixD (eVar 3) (eVar 5)) (eCall F__law_taken (aCons (eVar 0) (aCons (eOp ixD (eVar 1) (eC (.int 0))) aNil)))) aNil))) [5]) aNil)))))
def F__law_wishes : DF := denF 6 3 B__law_wishes
def B__law_bent : SM :=
  sSeq (sPar [3,4] (aCons (eCall F__law_taken (aCons (eVar 0) (aCons (eOp addD (eCl lenD (aCons (eVar 1) aNil)) (eC (.int 1))) aNil))) (aCons (eCall F__law_taken (aCons (eVar 0) (aCons (eC (.int 6)) aNil))) aNil))) (sSeq (sSet 5 (eIf (bOf (eOp ltD (eVar 4) (eC (.int 3)))) (eOp addD (eOp addD (eSl slD (eVar 1) oNone (oSome (eVar 3))) (eLst (aCons (eCall F__law_pick (aCons (eVar 0) (aCons (eVar 2) aNil))) aNil))) (eSl slD (eVar 1) (oSome (eVar 3)) oNone)) (eOp addD (eSl slD (eVar 1) oNone (oSome (eVar 3))) (eSl slD (eVar 1) (oSome (eOp addD (eVar 3) (eC (.int 1)))) oNone)))) (sSeq (sSet 6 (eComp (lstOf (eSl slD (eVar 1) (oSome (eVar 3)) (oSome (eOp addD (eVar 3) (eC (.int 1)))))) (gNameD 7) bYes (eOp addD (eVar 7) (eCall F__law_pick (aCons (eVar 0) (aCons (eLst (aCons (eC (sT " ")) (aCons (eC (sT "0")) (aCons (eC (sT ")")) (aCons (eC (sT "x")) aNil))))) aNil)))) [7])) (sSeq (sSet 5 (eIf (bOf (eOp eqD (eVar 4) (eC (.int 5)))) (eOp addD (eOp addD (eSl slD (eVar 1) oNone (oSome (eVar 3))) (eVar 6)) (eSl slD (eVar 1) (oSome (eOp addD (eVar 3) (eC (.int 1)))) oNone)) (eVar 5))) (sSeq (sSet 8 (eM1 joinDD (eC (sT "")) (eComp (lstOf (eVar 5)) (gNameD 7) bYes (eOp addD (eVar 7) (eC (sT "\n"))) [7]))) (sRet (eCall F__law_pick (aCons (eVar 0) (aCons (eLst (aCons (eVar 8) (aCons (eVar 8) (aCons (eVar 8) (aCons (eVar 8) (aCons (eSl slD (eVar 8) oNone (oSome (eC (.int (-1))))) (aCons (eC .non) (aCons (eC (sT "")) (aCons (eC (.int 3)) (aCons (eC (sT "\n")) aNil)))))))))) aNil))))))))
def F__law_bent : DF := denF 9 3 B__law_bent
def B__law_text (F : DF) : SM :=
  sRet (eIf (bNot (bTru (eUn (isiD "tuple") (eVar 0)))) (eOp addD (eC (sT "c")) (eCl strDD (aCons (eVar 0) aNil))) (eOp addD (eOp addD (eOp addD (eOp addD (eC (sT "f")) (eCl strDD (aCons (eOp ixD (eVar 0) (eC (.int 0))) aNil))) (eC (sT "("))) (eM1 joinDD (eC (sT ",")) (eComp (tupOf (eSl slD (eVar 0) (oSome (eC (.int 1))) oNone)) (gNameD 1) bYes (eCall F (aCons (eVar 1) aNil)) [1]))) (eC (sT ")"))))
def F__law_text : Nat → DF
  | 0 => fun _ _ => none
  | m + 1 => denF 2 1 (B__law_text (F__law_text m))
def B__law_all_terms : SM :=
  sSeq (sSet 2 (eDict (aCons (eComp (rg1 (aCons (eOp ixD (eVar 0) (eC (.int 0))) aNil)) (gNameD 3) bYes (eTup (aCons (eOp addD (eC (sT "c")) (eCl strDD (aCons (eVar 3) aNil))) (aCons (eVar 3) aNil))) [3]) aNil))) (sSeq (sFor (rg1 (aCons (eOp subD (eVar 1) (eC (.int 1))) aNil)) (gNameD 4) (sSeq (sSet 5 (eOp addD (eSl slD (eCl sortedN (aCons (eCl listDD (aCons (eVar 2) aNil)) aNil)) oNone (oSome (eC (.int 12)))) (eSl slD (eCl sortedN (aCons (eCl listDD (aCons (eVar 2) aNil)) aNil)) (oSome (eC (.int (-4)))) oNone))) (sFor (rg1 (aCons (eCl lenD (aCons (eOp ixD (eVar 0) (eC (.int 1))) aNil)) aNil)) (gNameD 6) (sFor (lstOf (eVar 5)) (gNameD 7) (sSeq (sSet 8 (eOp addD (eTup (aCons (eVar 6) aNil)) (eOp mulTD (eTup (aCons (eDGet (eVar 2) (eVar 7)) aNil)) (eOp ixD (eOp ixD (eVar 0) (eC (.int 1))) (eVar 6))))) (sDPutD (eVar 2) (eCall (F__law_text 20) (aCons (eVar 8) aNil)) (eVar 8))))))) (sRet (eVar 2)))
def F__law_all_terms : DF := denF 9 2 B__law_all_terms
def B_is_number : SM :=
  sRet (eAnd (eUn (isiD "int") (eVar 0)) (eAnd (eNot (eUn (isiD "bool") (eVar 0))) (eChain leD leD (eVar 1) (eVar 0) (eVar 2))))
def F_is_number : DF := denF 3 3 B_is_number
def B_need_machine : SM :=
  sSeq (sIf (bOr (bNot (bTru (eUn (isiD "tuple") (eVar 0)))) (bOf (eOp neD (eCl lenD (aCons (eVar 0) aNil)) (eC (.int 2))))) sNever sNil) (sSeq (sAsg (gTupD [1,2]) (eVar 0)) (sSeq (sIf (bNot (bTru (eCall F_is_number (aCons (eVar 1) (aCons (eC (.int 1)) (aCons (eC (.int 4)) aNil)))))) sNever sNil) (sSeq (sIf (bOr (bNot (bTru (eUn (isiD "tuple") (eVar 2)))) (bNot (bOf (eChain leD leD (eC (.int 1)) (eCl lenD (aCons (eVar 2) aNil)) (eC (.int 3)))))) sNever sNil) (sIf (bNot (bTru (eGen false (tupOf (eVar 2)) (gNameD 3) (eCall F_is_number (aCons (eVar 3) (aCons (eC (.int 1)) (aCons (eC (.int 2)) aNil)))) [3]))) sNever sNil))))
def F_need_machine : DF := denF 4 1 B_need_machine
def B_figure : SM :=
  sRet (eIf (bAnd (bOf (eOp eqD (eCl lenD (aCons (eVar 0) aNil)) (eC (.int 1)))) (bAnd (bOf (eOp inD (eVar 0) (eC (sT "0123456789")))) (bOf (eChain leD leD (eVar 1) (eCl intDD (aCons (eVar 0) aNil)) (eVar 2))))) (eCl intDD (aCons (eVar 0) aNil)) (eC .non))
def F_figure : DF := denF 3 3 B_figure
def B_term_at (F : DF) : SM :=
  sSeq (sPar [4,5] (aCons (eSl slD (eVar 1) (oSome (eVar 2)) (oSome (eOp addD (eVar 2) (eC (.int 1))))) (aCons (eCall F_figure (aCons (eSl slD (eVar 1) (oSome (eOp addD (eVar 2) (eC (.int 1)))) (oSome (eOp addD (eVar 2) (eC (.int 2))))) (aCons (eC (.int 0)) (aCons (eOp subD (eC (.int 4)) (eC (.int 1))) aNil)))) aNil))) (sSeq (sIf (bAnd (bOf (eOp eqD (eVar 4) (eC (sT "c")))) (bAnd (bOf (eOp notND (eVar 5) (eC .non))) (bOf (eOp ltD (eVar 5) (eOp ixD (eVar 0) (eC (.int 0))))))) (sRet (eTup (aCons (eVar 5) (aCons (eOp addD (eVar 2) (eC (.int 2))) aNil)))) sNil) (sSeq (sIf (bOr (bOf (eOp neD (eVar 4) (eC (sT "f")))) (bOr (bOf (eOp isND (eVar 5) (eC .non))) (bOr (bOf (eOp geD (eVar 5) (eCl lenD (aCons (eOp ixD (eVar 0) (eC (.int 1))) aNil)))) (bOf (eOp ltD (eVar 3) (eC (.int 2))))))) (sRet (eTup (aCons (eC .non) (aCons (eVar 2) aNil)))) sNil) (sSeq (sPar [2,6] (aCons (eOp addD (eVar 2) (eC (.int 2))) (aCons (eMut (aCons (eVar 5) aNil)) aNil))) (sSeq (sFor (rg1 (aCons (eOp ixD (eOp ixD (eVar 0) (eC (.int 1))) (eVar 5)) aNil)) (gNameD 7) (sSeq (sIf (bOf (eOp neD (eSl slD (eVar 1) (oSome (eVar 2)) (oSome (eOp addD (eVar 2) (eC (.int 1))))) (eIf (bOf (eOp eqD (eVar 7) (eC (.int 0)))) (eC (sT "(")) (eC (sT ","))))) (sRet (eTup (aCons (eC .non) (aCons (eVar 2) aNil)))) sNil) (sSeq (sAsg (gTupD [8,2]) (eCall F (aCons (eVar 0) (aCons (eVar 1) (aCons (eOp addD (eVar 2) (eC (.int 1))) (aCons (eOp subD (eVar 3) (eC (.int 1))) aNil)))))) (sSeq (sIf (bOf (eOp isND (eVar 8) (eC .non))) (sRet (eTup (aCons (eC .non) (aCons (eVar 2) aNil)))) sNil) (sAppend (eVar 6) (eVar 8)))))) (sRet (eIf (bOf (eOp eqD (eSl slD (eVar 1) (oSome (eVar 2)) (oSome (eOp addD (eVar 2) (eC (.int 1))))) (eC (sT ")")))) (eTup (aCons (eCl tupDD (aCons (eVar 6) aNil)) (aCons (eOp addD (eVar 2) (eC (.int 1))) aNil))) (eTup (aCons (eC .non) (aCons (eVar 2) aNil)))))))))
def F_term_at : Nat → DF
  | 0 => fun _ _ => none
  | m + 1 => denF 9 4 (B_term_at (F_term_at m))
def B_read_term : SM :=
  sSeq (sExpr (eCall F_need_machine (aCons (eVar 0) aNil))) (sSeq (sIf (bNot (bTru (eUn (isiD "str") (eVar 1)))) (sRaiseT (eC (.int 0))) sNil) (sSeq (sAsg (gTupD [2,3]) (eCall (F_term_at 20) (aCons (eVar 0) (aCons (eVar 1) (aCons (eC (.int 0)) (aCons (eC (.int 8)) aNil)))))) (sSeq (sIf (bOr (bOf (eOp isND (eVar 2) (eC .non))) (bOf (eOp neD (eVar 3) (eCl lenD (aCons (eVar 1) aNil))))) (sRaiseT (eC (.int 0))) sNil) (sRet (eVar 2)))))
def F_read_term : DF := denF 4 2 B_read_term
def B__law_told_term : SM :=
  sTryT 2 (xCall F_read_term (aCons (eVar 0) (aCons (eVar 1) aNil)))
def F__law_told_term : DF := denF 3 2 B__law_told_term
def B__law_split : SM :=
  sSeq (sPar [1,2,3] (aCons (eLst aNil) (aCons (eC (.int 0)) (aCons (eC (sT "")) aNil)))) (sSeq (sFor (strOf (eVar 0)) (gNameD 4) (sIf (bAnd (bOf (eOp eqD (eVar 4) (eC (sT ",")))) (bOf (eOp eqD (eVar 2) (eC (.int 0))))) (sPar [1,3] (aCons (eOp addD (eVar 1) (eLst (aCons (eVar 3) aNil))) (aCons (eC (sT "")) aNil))) (sPar [3,2] (aCons (eOp addD (eVar 3) (eVar 4)) (aCons (eOp subD (eOp addD (eVar 2) (eCl intDD (aCons (eOp eqD (eVar 4) (eC (sT "("))) aNil))) (eCl intDD (aCons (eOp eqD (eVar 4) (eC (sT ")"))) aNil))) aNil))))) (sRet (eOp addD (eVar 1) (eLst (aCons (eVar 3) aNil)))))
def F__law_split : DF := denF 5 1 B__law_split
def B__law_term (F : DF) : SM :=
  sSeq (sIf (bAnd (bOf (eOp eqD (eCl lenD (aCons (eVar 1) aNil)) (eC (.int 2)))) (bAnd (bOf (eOp eqD (eOp ixD (eVar 1) (eC (.int 0))) (eC (sT "c")))) (bOf (eOp inD (eOp ixD (eVar 1) (eC (.int 1))) (eC (sT "0123")))))) (sRet (eIf (bOf (eOp ltD (eCl intDD (aCons (eOp ixD (eVar 1) (eC (.int 1))) aNil)) (eOp ixD (eVar 0) (eC (.int 0))))) (eCl intDD (aCons (eOp ixD (eVar 1) (eC (.int 1))) aNil)) (eC .non))) sNil) (sSeq (sIf (bOr (bOf (eOp ltD (eVar 2) (eC (.int 2)))) (bOr (bOf (eOp ltD (eCl lenD (aCons (eVar 1) aNil)) (eC (.int 5)))) (bOr (bOf (eOp neD (eOp ixD (eVar 1) (eC (.int 0))) (eC (sT "f")))) (bOr (bOf (eOp ninD (eOp ixD (eVar 1) (eC (.int 1))) (eC (sT "012")))) (bOr (bOf (eOp neD (eOp ixD (eVar 1) (eC (.int 2))) (eC (sT "(")))) (bOr (bOf (eOp neD (eOp ixD (eVar 1) (eC (.int (-1)))) (eC (sT ")")))) (bOf (eOp geD (eCl intDD (aCons (eOp ixD (eVar 1) (eC (.int 1))) aNil)) (eCl lenD (aCons (eOp ixD (eVar 0) (eC (.int 1))) aNil)))))))))) (sRet (eC .non)) sNil) (sSeq (sSet 3 (eComp (lstOf (eCall F__law_split (aCons (eSl slD (eVar 1) (oSome (eC (.int 3))) (oSome (eC (.int (-1))))) aNil))) (gNameD 4) bYes (eCall F (aCons (eVar 0) (aCons (eVar 4) (aCons (eOp subD (eVar 2) (eC (.int 1))) aNil)))) [4])) (sRet (eIf (bAnd (bOf (eOp ninD (eC .non) (eVar 3))) (bOf (eOp eqD (eCl lenD (aCons (eVar 3) aNil)) (eOp ixD (eOp ixD (eVar 0) (eC (.int 1))) (eCl intDD (aCons (eOp ixD (eVar 1) (eC (.int 1))) aNil)))))) (eOp addD (eTup (aCons (eCl intDD (aCons (eOp ixD (eVar 1) (eC (.int 1))) aNil)) aNil)) (eCl tupDD (aCons (eVar 3) aNil))) (eC .non)))))
def F__law_term : Nat → DF
  | 0 => fun _ _ => none
  | m + 1 => denF 5 3 (B__law_term (F__law_term m))
def B__law_alike (F : DF) : SM :=
  sSeq (sIf (bTru (eUn (isi2D "tuple" "list") (eVar 1))) (sSeq (sIf (bOr (bNot (bTru (eUn (isi2D "tuple" "list") (eVar 0)))) (bOf (eOp neD (eUn (isiD "list") (eVar 0)) (eUn (isiD "list") (eVar 1))))) (sRet (eC (.bl false))) sNil) (sSeq (sIf (bOf (eOp neD (eCl lenD (aCons (eVar 0) aNil)) (eCl lenD (aCons (eVar 1) aNil)))) (sRet (eC (.bl false))) sNil) (sRet (eOp eqD (eComp (rg1 (aCons (eCl lenD (aCons (eVar 1) aNil)) aNil)) (gNameD 2) (bNot (bTru (eCall F (aCons (eOp ixD (eVar 0) (eVar 2)) (aCons (eOp ixD (eVar 1) (eVar 2)) aNil))))) (eVar 2) [2]) (eLst aNil))))) sNil) (sSeq (sIf (bOr (bOf (eOp isND (eVar 1) (eC .non))) (bTru (eUn (isiD "str") (eVar 1)))) (sRet (eAnd (eOp eqD (eVar 0) (eVar 1)) (eOp eqD (eUn (isiD "str") (eVar 0)) (eUn (isiD "str") (eVar 1))))) sNil) (sRet (eAnd (eUn (isiD "int") (eVar 0)) (eAnd (eOp eqD (eUn (isiD "bool") (eVar 0)) (eUn (isiD "bool") (eVar 1))) (eOp eqD (eVar 0) (eVar 1))))))
def F__law_alike : Nat → DF
  | 0 => fun _ _ => none
  | m + 1 => denF 3 2 (B__law_alike (F__law_alike m))
def B__law_terms_right : SM :=
  sSeq (sSet 2 (eCall F__law_all_terms (aCons (eVar 1) (aCons (eC (.int 8)) aNil)))) (sSeq (sSet 3 (eCall F__law_pick (aCons (eVar 0) (aCons (eCl sortedDD (aCons (eCl listDD (aCons (eVar 2) aNil)) aNil)) aNil)))) (sSeq (sSet 4 (eCall F__law_taken (aCons (eVar 0) (aCons (eCl lenD (aCons (eVar 3) aNil)) aNil)))) (sSeq (sSet 5 (eLst (aCons (eVar 3) (aCons (eOp addD (eSl slD (eVar 3) oNone (oSome (eVar 4))) (eSl slD (eVar 3) (oSome (eOp addD (eVar 4) (eC (.int 1)))) oNone)) (aCons (eOp addD (eOp addD (eSl slD (eVar 3) oNone (oSome (eVar 4))) (eCall F__law_pick (aCons (eVar 0) (aCons (eLst (aCons (eC (sT "c0")) (aCons (eC (sT "(")) (aCons (eC (sT ")")) (aCons (eC (sT ",")) (aCons (eC (sT "f0")) aNil)))))) aNil)))) (eSl slD (eVar 3) (oSome (eVar 4)) oNone)) aNil))))) (sSeq (sFor (lstOf (eOp addD (eVar 5) (eLst (aCons (eOp addD (eOp addD (eC (sT "f0(")) (eVar 3)) (eC (sT ")"))) (aCons (eC (sT "")) (aCons (eC .non) (aCons (eOp addD (eC (sT " ")) (eVar 3)) (aCons (eC (.int 7)) aNil)))))))) (gNameD 6) (sSeq (sSet 7 (eIf (bTru (eUn (isiD "str") (eVar 6))) (eCall (F__law_term 20) (aCons (eVar 1) (aCons (eVar 6) (aCons (eC (.int 8)) aNil)))) (eC .non))) (sSeq (sSet 8 (eCall F__law_told_term (aCons (eVar 1) (aCons (eVar 6) aNil)))) (sIf (bNot (bTru (eCall (F__law_alike 20) (aCons (eVar 8) (aCons (eIf (bOf (eOp isND (eVar 7) (eC .non))) (eC (sT "bad")) (eVar 7)) aNil))))) (sRet (eC (.bl false))) sNil)))) (sRet (eC (.bl true)))))))
def F__law_terms_right : DF := denF 9 2 B__law_terms_right
def B__law_line_text : SM :=
  sSeq (sAsg (gTupD [1,2,3]) (eVar 0)) (sSeq (sIf (bOf (eOp isND (eVar 2) (eC .non))) (sRet (eOp addD (eOp addD (eOp addD (eC (sT "c")) (eCl strDD (aCons (eVar 1) aNil))) (eC (sT " = c"))) (eCl strDD (aCons (eOp ixD (eVar 3) (eC (.int 0))) aNil)))) sNil) (sRet (eOp addD (eOp addD (eOp addD (eOp addD (eOp addD (eOp addD (eC (sT "c")) (eCl strDD (aCons (eVar 1) aNil))) (eC (sT " = f"))) (eCl strDD (aCons (eVar 2) aNil))) (eC (sT "("))) (eM1 joinDD (eC (sT ",")) (eComp (tupOf (eVar 3)) (gNameD 4) bYes (eOp addD (eC (sT "c")) (eCl strDD (aCons (eVar 4) aNil))) [4]))) (eC (sT ")")))))
def F__law_line_text : DF := denF 5 1 B__law_line_text
def B_is_line : SM :=
  sSeq (sAsg (gTupD [2,3]) (eVar 0)) (sSeq (sIf (bOr (bNot (bTru (eUn (isiD "tuple") (eVar 1)))) (bOr (bOf (eOp neD (eCl lenD (aCons (eVar 1) aNil)) (eC (.int 3)))) (bNot (bTru (eCall F_is_number (aCons (eOp ixD (eVar 1) (eC (.int 0))) (aCons (eC (.int 0)) (aCons (eOp subD (eVar 2) (eC (.int 1))) aNil)))))))) (sRet (eC (.bl false))) sNil) (sSeq (sAsg (gTupD [4,5,6]) (eVar 1)) (sSeq (sIf (bOr (bNot (bTru (eUn (isiD "tuple") (eVar 6)))) (bNot (bTru (eGen false (tupOf (eVar 6)) (gNameD 7) (eCall F_is_number (aCons (eVar 7) (aCons (eC (.int 0)) (aCons (eOp subD (eVar 2) (eC (.int 1))) aNil)))) [7])))) (sRet (eC (.bl false))) sNil) (sSeq (sIf (bOf (eOp isND (eVar 5) (eC .non))) (sRet (eAnd (eOp eqD (eCl lenD (aCons (eVar 6) aNil)) (eC (.int 1))) (eOp neD (eOp ixD (eVar 6) (eC (.int 0))) (eVar 4)))) sNil) (sRet (eAnd (eCall F_is_number (aCons (eVar 5) (aCons (eC (.int 0)) (aCons (eOp subD (eCl lenD (aCons (eVar 3) aNil)) (eC (.int 1))) aNil)))) (eOp eqD (eCl lenD (aCons (eVar 6) aNil)) (eOp ixD (eVar 3) (eVar 5)))))))))
def F_is_line : DF := denF 8 2 B_is_line
def B_need_program : SM :=
  sSeq (sIf (bOr (bNot (bTru (eUn (isiD "tuple") (eVar 1)))) (bOf (eOp gtD (eCl lenD (aCons (eVar 1) aNil)) (eC (.int 60))))) sNever sNil) (sFor (enT (aCons (eVar 1) aNil)) (gTupD [2,3]) (sIf (bNot (bTru (eCall F_is_line (aCons (eVar 0) (aCons (eVar 3) aNil))))) sNever sNil))
def F_need_program : DF := denF 4 2 B_need_program
def B_need_many : SM :=
  sIf (bNot (bTru (eCall F_is_number (aCons (eVar 0) (aCons (eC (.int 1)) (aCons (eC (.int 3)) aNil)))))) sNever sNil
def F_need_many : DF := denF 1 1 B_need_many
def B_are_losses : SM :=
  sSeq (sIf (bOr (bNot (bTru (eUn (isiD "tuple") (eVar 2)))) (bNot (bTru (eGen false (tupOf (eVar 2)) (gNameD 3) (eCall F_is_number (aCons (eVar 3) (aCons (eC (.int 0)) (aCons (eOp subD (eCl lenD (aCons (eVar 0) aNil)) (eC (.int 1))) aNil)))) [3])))) (sRet (eC (.bl false))) sNil) (sSeq (sIf (bNot (bTru (eGen false (zpT (aCons (eVar 2) (aCons (eSl slD (eVar 2) (oSome (eC (.int 1))) oNone) aNil))) (gTupD [4,5]) (eOp ltD (eVar 4) (eVar 5)) [4,5]))) (sRet (eC (.bl false))) sNil) (sRet (eNot (eGen true (rg1 (aCons (eOp subD (eCl lenD (aCons (eVar 2) aNil)) (eVar 1)) aNil)) (gNameD 6) (eOp eqD (eOp subD (eOp ixD (eVar 2) (eOp addD (eVar 6) (eVar 1))) (eOp ixD (eVar 2) (eVar 6))) (eVar 1)) [6]))))
def F_are_losses : DF := denF 7 3 B_are_losses
def B_first_terms : SM :=
  sRet (eTupRg (eOp ixD (eVar 0) (eC (.int 0))))
def F_first_terms : DF := denF 1 1 B_first_terms
def B_depth (F : DF) : SM :=
  sRet (eIf (bTru (eUn (isiD "tuple") (eVar 0))) (eOp addD (eC (.int 1)) (eCl maxDD (aCons (eComp (tupOf (eSl slD (eVar 0) (oSome (eC (.int 1))) oNone)) (gNameD 1) bYes (eCall F (aCons (eVar 1) aNil)) [1]) aNil))) (eC (.int 1)))
def F_depth : Nat → DF
  | 0 => fun _ _ => none
  | m + 1 => denF 2 1 (B_depth (F_depth m))
def B_done : SM :=
  sSeq (sAsg (gTupD [2,3,4]) (eVar 1)) (sSeq (sIf (bOf (eOp isND (eVar 3) (eC .non))) (sSet 5 (eOp ixD (eVar 0) (eOp ixD (eVar 4) (eC (.int 0))))) (sSeq (sSet 5 (eOp addD (eTup (aCons (eVar 3) aNil)) (eCl tupDD (aCons (eComp (tupOf (eVar 4)) (gNameD 6) bYes (eOp ixD (eVar 0) (eVar 6)) [6]) aNil)))) (sIf (bOf (eOp gtD (eCall (F_depth 20) (aCons (eVar 5) aNil)) (eC (.int 8)))) sNever sNil))) (sRet (eOp addD (eOp addD (eSl slD (eVar 0) oNone (oSome (eVar 2))) (eTup (aCons (eVar 5) aNil))) (eSl slD (eVar 0) (oSome (eOp addD (eVar 2) (eC (.int 1)))) oNone))))
def F_done : DF := denF 7 2 B_done
def B_line_text : SM :=
  sSeq (sAsg (gTupD [1,2,3]) (eVar 0)) (sSeq (sIf (bOf (eOp isND (eVar 2) (eC .non))) (sRet (eOp addD (eOp addD (eOp addD (eC (sT "c")) (eCl strDD (aCons (eVar 1) aNil))) (eC (sT " = c"))) (eCl strDD (aCons (eOp ixD (eVar 3) (eC (.int 0))) aNil)))) sNil) (sRet (eOp addD (eOp addD (eOp addD (eOp addD (eOp addD (eOp addD (eC (sT "c")) (eCl strDD (aCons (eVar 1) aNil))) (eC (sT " = f"))) (eCl strDD (aCons (eVar 2) aNil))) (eC (sT "("))) (eM1 joinDD (eC (sT ",")) (eComp (tupOf (eVar 3)) (gNameD 4) bYes (eOp addD (eC (sT "c")) (eCl strDD (aCons (eVar 4) aNil))) [4]))) (eC (sT ")")))))
def F_line_text : DF := denF 5 1 B_line_text
def B_text_of (F : DF) : SM :=
  sSeq (sIf (bNot (bTru (eUn (isiD "tuple") (eVar 0)))) (sRet (eOp addD (eC (sT "c")) (eCl strDD (aCons (eVar 0) aNil)))) sNil) (sRet (eOp addD (eOp addD (eOp addD (eOp addD (eC (sT "f")) (eCl strDD (aCons (eOp ixD (eVar 0) (eC (.int 0))) aNil))) (eC (sT "("))) (eM1 joinDD (eC (sT ",")) (eComp (tupOf (eSl slD (eVar 0) (oSome (eC (.int 1))) oNone)) (gNameD 1) bYes (eCall F (aCons (eVar 1) aNil)) [1]))) (eC (sT ")"))))
def F_text_of : Nat → DF
  | 0 => fun _ _ => none
  | m + 1 => denF 2 1 (B_text_of (F_text_of m))
def B_told : SM :=
  sSeq (sExpr (eCall F_need_machine (aCons (eVar 0) aNil))) (sSeq (sExpr (eCall F_need_program (aCons (eVar 0) (aCons (eVar 1) aNil)))) (sSeq (sExpr (eCall F_need_many (aCons (eVar 2) aNil))) (sSeq (sIf (bNot (bTru (eCall F_are_losses (aCons (eVar 1) (aCons (eVar 2) (aCons (eVar 3) aNil)))))) sRaiseL sNil) (sSeq (sPar [4,5] (aCons (eCall F_first_terms (aCons (eVar 0) aNil)) (aCons (eMut aNil) aNil))) (sSeq (sFor (enT (aCons (eVar 1) aNil)) (gTupD [6,7]) (sSeq (sSet 8 (eOp inD (eVar 6) (eVar 3))) (sSeq (sIf (bNot (bTru (eVar 8))) (sSet 4 (eCall F_done (aCons (eVar 4) (aCons (eVar 7) aNil)))) sNil) (sSeq (sSet 9 (eIf (bTru (eVar 8)) (eC (sT " lost ")) (eC (sT " ")))) (sAppend (eVar 5) (eOp addD (eOp addD (eOp addD (eOp addD (eOp addD (eCl strDD (aCons (eVar 6) aNil)) (eVar 9)) (eCall F_line_text (aCons (eVar 7) aNil))) (eC (sT " : "))) (eM1 joinDD (eC (sT " ")) (eComp (tupOf (eVar 4)) (gNameD 10) bYes (eCall (F_text_of 20) (aCons (eVar 10) aNil)) [10]))) (eC (sT "\n")))))))) (sRet (eM1 joinDD (eC (sT "")) (eVar 5))))))))
def F_told : DF := denF 11 4 B_told
def B__law_rows : SM :=
  sSeq (sPar [3,4] (aCons (eTupRg (eOp ixD (eVar 0) (eC (.int 0)))) (aCons (eC (sT "")) aNil))) (sSeq (sFor (rg1 (aCons (eCl lenD (aCons (eVar 1) aNil)) aNil)) (gNameD 5) (sSeq (sSet 3 (eIf (bOf (eOp inD (eVar 5) (eVar 2))) (eVar 3) (eCall F__law_done (aCons (eVar 3) (aCons (eOp ixD (eVar 1) (eVar 5)) aNil))))) (sSeq (sSet 6 (eIf (bOf (eOp inD (eVar 5) (eVar 2))) (eC (sT " lost ")) (eC (sT " ")))) (sSet 4 (eOp addD (eOp addD (eOp addD (eOp addD (eOp addD (eOp addD (eVar 4) (eCl strDD (aCons (eVar 5) aNil))) (eVar 6)) (eCall F__law_line_text (aCons (eOp ixD (eVar 1) (eVar 5)) aNil))) (eC (sT " : "))) (eM1 joinDD (eC (sT " ")) (eComp (tupOf (eVar 3)) (gNameD 7) bYes (eCall (F__law_text 20) (aCons (eVar 7) aNil)) [7]))) (eC (sT "\n"))))))) (sRet (eVar 4)))
def F__law_rows : DF := denF 8 3 B__law_rows
def B_written : SM :=
  sSeq (sExpr (eCall F_need_machine (aCons (eVar 0) aNil))) (sSeq (sExpr (eCall F_need_program (aCons (eVar 0) (aCons (eVar 1) aNil)))) (sSeq (sSet 2 (eLst (aCons (eOp addD (eC (sT "cells ")) (eCl strDD (aCons (eOp ixD (eVar 0) (eC (.int 0))) aNil))) (aCons (eOp addD (eC (sT "functions ")) (eM1 joinDD (eC (sT " ")) (eComp (tupOf (eOp ixD (eVar 0) (eC (.int 1)))) (gNameD 3) bYes (eCl strDD (aCons (eVar 3) aNil)) [3]))) aNil)))) (sRet (eM1 joinDD (eC (sT "")) (eComp (lstOf (eOp addD (eVar 2) (eComp (tupOf (eVar 1)) (gNameD 4) bYes (eCall F_line_text (aCons (eVar 4) aNil)) [4]))) (gNameD 4) bYes (eOp addD (eVar 4) (eC (sT "\n"))) [4])))))
def F_written : DF := denF 5 2 B_written
def B_lines_of : SM :=
  sSeq (sIf (bOr (bNot (bTru (eUn (isiD "str") (eVar 0)))) (bNot (bTru (eVar 0)))) (sRaiseT (eC (.int 0))) sNil) (sSeq (sIf (bOf (eOp neD (eOp ixD (eVar 0) (eC (.int (-1)))) (eC (sT "\n")))) (sRaiseT (eM1 countDD (eVar 0) (eC (sT "\n")))) sNil) (sRet (eM1 splitDD (eSl slD (eVar 0) oNone (oSome (eC (.int (-1))))) (eC (sT "\n")))))
def F_lines_of : DF := denF 1 1 B_lines_of
def B_cell_of : SM :=
  sRet (eIf (bOf (eOp eqD (eSl slD (eVar 0) oNone (oSome (eC (.int 1)))) (eC (sT "c")))) (eCall F_figure (aCons (eSl slD (eVar 0) (oSome (eC (.int 1))) oNone) (aCons (eC (.int 0)) (aCons (eOp subD (eC (.int 4)) (eC (.int 1))) aNil)))) (eC .non))
def F_cell_of : DF := denF 1 1 B_cell_of
def B_line_of : SM :=
  sSeq (sSet 2 (eM1 splitDD (eVar 1) (eC (sT " = ")))) (sSeq (sIf (bOr (bOf (eOp neD (eCl lenD (aCons (eVar 2) aNil)) (eC (.int 2)))) (bOf (eOp isND (eCall F_cell_of (aCons (eOp ixD (eVar 2) (eC (.int 0))) aNil)) (eC .non)))) (sRet (eC .non)) sNil) (sSeq (sPar [3,4] (aCons (eCall F_cell_of (aCons (eOp ixD (eVar 2) (eC (.int 0))) aNil)) (aCons (eOp ixD (eVar 2) (eC (.int 1))) aNil))) (sSeq (sIf (bOf (eOp notND (eCall F_cell_of (aCons (eVar 4) aNil)) (eC .non))) (sSet 5 (eTup (aCons (eVar 3) (aCons (eC .non) (aCons (eTup (aCons (eCall F_cell_of (aCons (eVar 4) aNil)) aNil)) aNil))))) (sSeq (sSet 6 (eCall F_figure (aCons (eSl slD (eVar 4) (oSome (eC (.int 1))) (oSome (eC (.int 2)))) (aCons (eC (.int 0)) (aCons (eOp subD (eC (.int 3)) (eC (.int 1))) aNil))))) (sSeq (sIf (bOr (bOf (eOp neD (eSl slD (eVar 4) oNone (oSome (eC (.int 1)))) (eC (sT "f")))) (bOr (bOf (eOp isND (eVar 6) (eC .non))) (bOr (bOf (eOp neD (eSl slD (eVar 4) (oSome (eC (.int 2))) (oSome (eC (.int 3)))) (eC (sT "(")))) (bOf (eOp neD (eSl slD (eVar 4) (oSome (eC (.int (-1)))) oNone) (eC (sT ")"))))))) (sRet (eC .non)) sNil) (sSet 5 (eTup (aCons (eVar 3) (aCons (eVar 6) (aCons (eCl tupDD (aCons (eComp (lstOf (eM1 splitDD (eSl slD (eVar 4) (oSome (eC (.int 3))) (oSome (eC (.int (-1))))) (eC (sT ",")))) (gNameD 7) bYes (eCall F_cell_of (aCons (eVar 7) aNil)) [7]) aNil)) aNil)))))))) (sRet (eIf (bTru (eCall F_is_line (aCons (eVar 0) (aCons (eVar 5) aNil)))) (eVar 5) (eC .non))))))
def F_line_of : DF := denF 8 2 B_line_of
def B_read_program : SM :=
  sSeq (sSetX 1 (xCall F_lines_of (aCons (eVar 0) aNil))) (sSeq (sSet 2 (eM1 splitDD (eOp ixD (eVar 1) (eC (.int 0))) (eC (sT " ")))) (sSeq (sSet 3 (eIf (bAnd (bOf (eOp eqD (eCl lenD (aCons (eVar 2) aNil)) (eC (.int 2)))) (bOf (eOp eqD (eOp ixD (eVar 2) (eC (.int 0))) (eC (sT "cells"))))) (eCall F_figure (aCons (eOp ixD (eVar 2) (eC (.int 1))) (aCons (eC (.int 1)) (aCons (eC (.int 4)) aNil)))) (eC .non))) (sSeq (sIf (bOf (eOp isND (eVar 3) (eC .non))) (sRaiseT (eC (.int 0))) sNil) (sSeq (sSet 2 (eIf (bOf (eOp gtD (eCl lenD (aCons (eVar 1) aNil)) (eC (.int 1)))) (eM1 splitDD (eOp ixD (eVar 1) (eC (.int 1))) (eC (sT " "))) (eLst aNil))) (sSeq (sSet 4 (eCl tupDD (aCons (eComp (lstOf (eSl slD (eVar 2) (oSome (eC (.int 1))) oNone)) (gNameD 5) bYes (eCall F_figure (aCons (eVar 5) (aCons (eC (.int 1)) (aCons (eC (.int 2)) aNil)))) [5]) aNil))) (sSeq (sIf (bOr (bOf (eOp neD (eSl slD (eVar 2) oNone (oSome (eC (.int 1)))) (eLst (aCons (eC (sT "functions")) aNil)))) (bOr (bNot (bOf (eChain leD leD (eC (.int 1)) (eCl lenD (aCons (eVar 4) aNil)) (eC (.int 3))))) (bOf (eOp inD (eC .non) (eVar 4))))) (sRaiseT (eC (.int 1))) sNil) (sSeq (sPar [6,7] (aCons (eTup (aCons (eVar 3) (aCons (eVar 4) aNil))) (aCons (eMut aNil) aNil))) (sSeq (sFor (rg2 (aCons (eC (.int 2)) (aCons (eCl lenD (aCons (eVar 1) aNil)) aNil))) (gNameD 8) (sSeq (sSet 9 (eCall F_line_of (aCons (eVar 6) (aCons (eOp ixD (eVar 1) (eVar 8)) aNil)))) (sSeq (sIf (bOr (bOf (eOp isND (eVar 9) (eC .non))) (bOf (eOp eqD (eCl lenD (aCons (eVar 7) aNil)) (eC (.int 60))))) (sRaiseT (eVar 8)) sNil) (sAppend (eVar 7) (eVar 9))))) (sRet (eTup (aCons (eVar 6) (aCons (eCl tupDD (aCons (eVar 7) aNil)) aNil))))))))))))
def F_read_program : DF := denF 10 1 B_read_program
def B__law_lines : SM :=
  sSeq (sIf (bOr (bNot (bTru (eUn (isiD "str") (eVar 0)))) (bOf (eOp eqD (eVar 0) (eC (sT ""))))) (sRet (eC (.int 0))) sNil) (sSeq (sSet 1 (eM1 splitDD (eVar 0) (eC (sT "\n")))) (sRet (eIf (bOf (eOp eqD (eOp ixD (eVar 1) (eC (.int (-1)))) (eC (sT "")))) (eSl slD (eVar 1) oNone (oSome (eC (.int (-1))))) (eOp subD (eCl lenD (aCons (eVar 1) aNil)) (eC (.int 1))))))
def F__law_lines : DF := denF 2 1 B__law_lines
def B__law_line_of : SM :=
  sSeq (sSet 2 (eM1 splitDD (eVar 1) (eC (sT " = ")))) (sSeq (sSet 3 (eCall (F__law_term 20) (aCons (eVar 0) (aCons (eOp ixD (eVar 2) (eC (.int 0))) (aCons (eC (.int 1)) aNil))))) (sSeq (sIf (bOr (bOf (eOp neD (eCl lenD (aCons (eVar 2) aNil)) (eC (.int 2)))) (bOf (eOp isND (eVar 3) (eC .non)))) (sRet (eC .non)) sNil) (sSeq (sIf (bOf (eOp notND (eCall (F__law_term 20) (aCons (eVar 0) (aCons (eOp ixD (eVar 2) (eC (.int 1))) (aCons (eC (.int 1)) aNil)))) (eC .non))) (sSeq (sSet 4 (eCall (F__law_term 20) (aCons (eVar 0) (aCons (eOp ixD (eVar 2) (eC (.int 1))) (aCons (eC (.int 1)) aNil))))) (sRet (eIf (bOf (eOp neD (eVar 4) (eVar 3))) (eTup (aCons (eVar 3) (aCons (eC .non) (aCons (eTup (aCons (eVar 4) aNil)) aNil)))) (eC .non)))) sNil) (sSeq (sSet 5 (eCall (F__law_term 20) (aCons (eVar 0) (aCons (eOp ixD (eVar 2) (eC (.int 1))) (aCons (eC (.int 2)) aNil))))) (sRet (eIf (bOf (eOp notND (eVar 5) (eC .non))) (eTup (aCons (eVar 3) (aCons (eOp ixD (eVar 5) (eC (.int 0))) (aCons (eSl slD (eVar 5) (oSome (eC (.int 1))) oNone) aNil)))) (eC .non)))))))
def F__law_line_of : DF := denF 6 2 B__law_line_of
def B__law_read : SM :=
  sSeq (sSet 1 (eCall F__law_lines (aCons (eVar 0) aNil))) (sSeq (sIf (bTru (eUn (isiD "int") (eVar 1))) (sRet (eVar 1)) sNil) (sSeq (sIf (bOf (eOp ninD (eOp ixD (eVar 1) (eC (.int 0))) (eLst (aCons (eC (sT "cells 1")) (aCons (eC (sT "cells 2")) (aCons (eC (sT "cells 3")) (aCons (eC (sT "cells 4")) aNil))))))) (sRet (eC (.int 0))) sNil) (sSeq (sSet 2 (eIf (bOf (eOp gtD (eCl lenD (aCons (eVar 1) aNil)) (eC (.int 1)))) (eM1 splitDD (eOp ixD (eVar 1) (eC (.int 1))) (eC (sT " "))) (eLst aNil))) (sSeq (sIf (bOr (bOf (eOp neD (eSl slD (eVar 2) oNone (oSome (eC (.int 1)))) (eLst (aCons (eC (sT "functions")) aNil)))) (bOr (bNot (bOf (eChain leD leD (eC (.int 2)) (eCl lenD (aCons (eVar 2) aNil)) (eC (.int 4))))) (bOf (eOp neD (eComp (lstOf (eSl slD (eVar 2) (oSome (eC (.int 1))) oNone)) (gNameD 3) (bOf (eOp ninD (eVar 3) (eLst (aCons (eC (sT "1")) (aCons (eC (sT "2")) aNil))))) (eVar 3) [3]) (eLst aNil))))) (sRet (eC (.int 1))) sNil) (sSeq (sPar [4,5] (aCons (eTup (aCons (eCl intDD (aCons (eOp ixD (eOp ixD (eVar 1) (eC (.int 0))) (eC (.int (-1)))) aNil)) (aCons (eCl tupDD (aCons (eComp (lstOf (eSl slD (eVar 2) (oSome (eC (.int 1))) oNone)) (gNameD 3) bYes (eCl intDD (aCons (eVar 3) aNil)) [3]) aNil)) aNil))) (aCons (eMut aNil) aNil))) (sSeq (sFor (rg2 (aCons (eC (.int 2)) (aCons (eCl lenD (aCons (eVar 1) aNil)) aNil))) (gNameD 6) (sSeq (sSet 7 (eCall F__law_line_of (aCons (eVar 4) (aCons (eOp ixD (eVar 1) (eVar 6)) aNil)))) (sSeq (sIf (bOr (bOf (eOp isND (eVar 7) (eC .non))) (bOf (eOp eqD (eCl lenD (aCons (eVar 5) aNil)) (eC (.int 60))))) (sRet (eVar 6)) sNil) (sAppend (eVar 5) (eVar 7))))) (sRet (eTup (aCons (eVar 4) (aCons (eCl tupDD (aCons (eVar 5) aNil)) aNil))))))))))
def F__law_read : DF := denF 8 1 B__law_read
def B_is_term (F : DF) : SM :=
  sSeq (sAsg (gTupD [3,4]) (eVar 0)) (sSeq (sIf (bNot (bTru (eUn (isiD "tuple") (eVar 1)))) (sRet (eCall F_is_number (aCons (eVar 1) (aCons (eC (.int 0)) (aCons (eOp subD (eVar 3) (eC (.int 1))) aNil))))) sNil) (sSeq (sIf (bOr (bOf (eOp ltD (eVar 2) (eC (.int 2)))) (bOr (bNot (bTru (eVar 1))) (bNot (bTru (eCall F_is_number (aCons (eOp ixD (eVar 1) (eC (.int 0))) (aCons (eC (.int 0)) (aCons (eOp subD (eCl lenD (aCons (eVar 4) aNil)) (eC (.int 1))) aNil)))))))) (sRet (eC (.bl false))) sNil) (sSeq (sIf (bOf (eOp neD (eCl lenD (aCons (eVar 1) aNil)) (eOp addD (eC (.int 1)) (eOp ixD (eVar 4) (eOp ixD (eVar 1) (eC (.int 0))))))) (sRet (eC (.bl false))) sNil) (sRet (eGen false (tupOf (eSl slD (eVar 1) (oSome (eC (.int 1))) oNone)) (gNameD 5) (eCall F (aCons (eVar 0) (aCons (eVar 5) (aCons (eOp subD (eVar 2) (eC (.int 1))) aNil)))) [5])))))
def F_is_term : Nat → DF
  | 0 => fun _ _ => none
  | m + 1 => denF 6 3 (B_is_term (F_is_term m))
def B_is_wish : SM :=
  sSeq (sIf (bOr (bNot (bTru (eUn (isiD "tuple") (eVar 1)))) (bOr (bOf (eOp neD (eCl lenD (aCons (eVar 1) aNil)) (eC (.int 2)))) (bNot (bTru (eCall F_is_number (aCons (eOp ixD (eVar 1) (eC (.int 0))) (aCons (eC (.int 0)) (aCons (eOp subD (eOp ixD (eVar 0) (eC (.int 0))) (eC (.int 1))) aNil)))))))) (sRet (eC (.bl false))) sNil) (sRet (eCallD (F_is_term 20) (.int 8) (aCons (eVar 0) (aCons (eOp ixD (eVar 1) (eC (.int 1))) aNil))))
def F_is_wish : DF := denF 2 2 B_is_wish
def B_need_wishes : SM :=
  sSeq (sIf (bOr (bNot (bTru (eUn (isiD "tuple") (eVar 1)))) (bNot (bTru (eVar 1)))) sNever sNil) (sFor (enT (aCons (eVar 1) aNil)) (gTupD [2,3]) (sIf (bOr (bNot (bTru (eCall F_is_wish (aCons (eVar 0) (aCons (eVar 3) aNil))))) (bAnd (bOf (eOp gtD (eVar 2) (eC (.int 0)))) (bOf (eOp geD (eOp ixD (eOp ixD (eVar 1) (eOp subD (eVar 2) (eC (.int 1)))) (eC (.int 0))) (eOp ixD (eVar 3) (eC (.int 0))))))) sNever sNil))
def F_need_wishes : DF := denF 4 2 B_need_wishes
def B_wishes_text : SM :=
  sSeq (sExpr (eCall F_need_machine (aCons (eVar 0) aNil))) (sSeq (sExpr (eCall F_need_wishes (aCons (eVar 0) (aCons (eVar 1) aNil)))) (sRet (eM1 joinDD (eC (sT "")) (eComp (tupOf (eVar 1)) (gTupD [2,3]) bYes (eOp addD (eOp addD (eOp addD (eOp addD (eC (sT "c")) (eCl strDD (aCons (eVar 2) aNil))) (eC (sT " holds "))) (eCall (F_text_of 20) (aCons (eVar 3) aNil))) (eC (sT "\n"))) [2,3]))))
def F_wishes_text : DF := denF 4 2 B_wishes_text
def B_read_wishes : SM :=
  sSeq (sExpr (eCall F_need_machine (aCons (eVar 0) aNil))) (sSeq (sSet 2 (eMut aNil)) (sSeq (sForEX (xCall F_lines_of (aCons (eVar 1) aNil)) (gTupD [3,4]) (sSeq (sSet 5 (eM1 splitDD (eVar 4) (eC (sT " holds ")))) (sSeq (sSet 6 (eCall F_cell_of (aCons (eOp ixD (eVar 5) (eC (.int 0))) aNil))) (sSeq (sIf (bOr (bOf (eOp neD (eCl lenD (aCons (eVar 5) aNil)) (eC (.int 2)))) (bOr (bOf (eOp isND (eVar 6) (eC .non))) (bOr (bOf (eOp geD (eVar 6) (eOp ixD (eVar 0) (eC (.int 0))))) (bAnd (bTru (eVar 2)) (bOf (eOp leD (eVar 6) (eOp ixD (eOp ixD (eVar 2) (eC (.int (-1)))) (eC (.int 0))))))))) (sRaiseT (eVar 3)) sNil) (sSeq (sAsg (gTupD [7,8]) (eCall (F_term_at 20) (aCons (eVar 0) (aCons (eOp ixD (eVar 5) (eC (.int 1))) (aCons (eC (.int 0)) (aCons (eC (.int 8)) aNil)))))) (sSeq (sIf (bOr (bOf (eOp isND (eVar 7) (eC .non))) (bOf (eOp neD (eVar 8) (eCl lenD (aCons (eOp ixD (eVar 5) (eC (.int 1))) aNil))))) (sRaiseT (eVar 3)) sNil) (sAppend (eVar 2) (eTup (aCons (eVar 6) (aCons (eVar 7) aNil)))))))))) (sRet (eCl tupDD (aCons (eVar 2) aNil)))))
def F_read_wishes : DF := denF 9 2 B_read_wishes
def B__law_read_wishes : SM :=
  sSeq (sPar [2,3] (aCons (eCall F__law_lines (aCons (eVar 1) aNil)) (aCons (eMut aNil) aNil))) (sSeq (sIf (bTru (eUn (isiD "int") (eVar 2))) (sRet (eVar 2)) sNil) (sSeq (sFor (rg1 (aCons (eCl lenD (aCons (eVar 2) aNil)) aNil)) (gNameD 4) (sSeq (sSet 5 (eM1 splitDD (eOp ixD (eVar 2) (eVar 4)) (eC (sT " holds ")))) (sSeq (sSet 6 (eCall (F__law_term 20) (aCons (eVar 0) (aCons (eOp ixD (eVar 5) (eC (.int 0))) (aCons (eC (.int 1)) aNil))))) (sSeq (sSet 7 (eIf (bOf (eOp eqD (eCl lenD (aCons (eVar 5) aNil)) (eC (.int 2)))) (eCall (F__law_term 20) (aCons (eVar 0) (aCons (eOp ixD (eVar 5) (eC (.int 1))) (aCons (eC (.int 8)) aNil)))) (eC .non))) (sSeq (sIf (bOr (bOf (eOp isND (eVar 6) (eC .non))) (bOr (bOf (eOp isND (eVar 7) (eC .non))) (bAnd (bOf (eOp neD (eVar 3) (eLst aNil))) (bOf (eOp leD (eVar 6) (eOp ixD (eOp ixD (eVar 3) (eC (.int (-1)))) (eC (.int 0)))))))) (sRet (eVar 4)) sNil) (sAppend (eVar 3) (eTup (aCons (eVar 6) (aCons (eVar 7) aNil))))))))) (sRet (eCl tupDD (aCons (eVar 3) aNil)))))
def F__law_read_wishes : DF := denF 8 2 B__law_read_wishes
def B__law_subsets : SM :=
  sSeq (sSet 1 (eLst (aCons (eTup aNil) aNil))) (sSeq (sFor (rg1 (aCons (eVar 0) aNil)) (gNameD 2) (sSet 1 (eOp addD (eVar 1) (eComp (lstOf (eVar 1)) (gNameD 3) bYes (eOp addD (eVar 3) (eTup (aCons (eVar 2) aNil))) [3])))) (sRet (eVar 1)))
def F__law_subsets : DF := denF 4 1 B__law_subsets
def B__law_near : SM :=
  sRet (eOp eqD (eComp (rg1 (aCons (eOp subD (eCl lenD (aCons (eVar 0) aNil)) (eVar 1)) aNil)) (gNameD 2) (bOf (eOp eqD (eOp subD (eOp ixD (eVar 0) (eOp addD (eVar 2) (eVar 1))) (eOp ixD (eVar 0) (eVar 2))) (eVar 1))) (eVar 2) [2]) (eLst aNil))
def F__law_near : DF := denF 3 2 B__law_near
def B_law : SM :=
  sSeq (sSet 1 (eMut (aCons (eVar 0) (aCons (eC (.int 0)) (aCons (eC (.int 25060)) (aCons (eC (.int 0)) aNil)))))) (sSeq (sSet 2 (eCall F__law_machine (aCons (eVar 1) aNil))) (sSeq (sSet 3 (eCall F__law_program (aCons (eVar 1) (aCons (eVar 2) (aCons (eC (.int 6)) aNil))))) (sSeq (sSet 4 (eOp addD (eLst (aCons (eOp addD (eC (sT "cells ")) (eCl strDD (aCons (eOp ixD (eVar 2) (eC (.int 0))) aNil))) (aCons (eOp addD (eC (sT "functions ")) (eM1 joinDD (eC (sT " ")) (eComp (tupOf (eOp ixD (eVar 2) (eC (.int 1)))) (gNameD 5) bYes (eCl strDD (aCons (eVar 5) aNil)) [5]))) aNil))) (eComp (tupOf (eVar 3)) (gNameD 6) bYes (eCall F__law_line_text (aCons (eVar 6) aNil)) [6]))) (sSeq (sSet 7 (eM1 joinDD (eC (sT "")) (eComp (lstOf (eVar 4)) (gNameD 6) bYes (eOp addD (eVar 6) (eC (sT "\n"))) [6]))) (sSeq (sIf (bOr (bNot (bTru (eCall (F__law_alike 20) (aCons (eCall F_written (aCons (eVar 2) (aCons (eVar 3) aNil))) (aCons (eVar 7) aNil))))) (bNot (bTru (eCall (F__law_alike 20) (aCons (eCall F_read_program (aCons (eVar 7) aNil)) (aCons (eTup (aCons (eVar 2) (aCons (eVar 3) aNil))) aNil)))))) (sRet (eC (.bl false))) sNil) (sSeq (sSet 8 (eLst (aCons (eC (sT "cells 2")) (aCons (eC (sT "cells 5")) (aCons (eC (sT "functions 1")) (aCons (eC (sT "functions")) (aCons (eC (sT "functions 3")) (aCons (eC (sT "c0 = c0")) (aCons (eC (sT "c0 = c1")) (aCons (eC (sT "c1 = f0(c0)")) aNil)))))))))) (sSeq (sSet 8 (eOp addD (eVar 8) (eLst (aCons (eC (sT "c0 = f0(c0,c0)")) (aCons (eC (sT "c0 = f1(c0)")) (aCons (eC (sT "c9 = c0")) (aCons (eC (sT "c0 = f0()")) (aCons (eC (sT "c0= c1")) (aCons (eC (sT "c0 = f0(c0")) (aCons (eC (sT "")) aNil)))))))))) (sSeq (sFor (rg1 (aCons (eC (.int 6)) aNil)) (gNameD 9) (sSeq (sSet 10 (eCall F__law_bent (aCons (eVar 1) (aCons (eVar 4) (aCons (eVar 8) aNil))))) (sIf (bNot (bTru (eCall (F__law_alike 20) (aCons (eTold (xCall F_read_program (aCons (eVar 10) aNil))) (aCons (eCall F__law_read (aCons (eVar 10) aNil)) aNil))))) (sRet (eC (.bl false))) sNil))) (sSeq (sIf (bNot (bTru (eCall F__law_terms_right (aCons (eVar 1) (aCons (eVar 2) aNil))))) (sRet (eC (.bl false))) sNil) (sSeq (sSet 11 (eCall F__law_wishes (aCons (eVar 1) (aCons (eVar 2) (aCons (eVar 3) aNil))))) (sSeq (sSet 4 (eComp (tupOf (eVar 11)) (gTupD [12,13]) bYes (eOp addD (eOp addD (eOp addD (eC (sT "c")) (eCl strDD (aCons (eVar 12) aNil))) (eC (sT " holds "))) (eCall (F__law_text 20) (aCons (eVar 13) aNil))) [12,13])) (sSeq (sSet 7 (eM1 joinDD (eC (sT "")) (eComp (lstOf (eVar 4)) (gNameD 6) bYes (eOp addD (eVar 6) (eC (sT "\n"))) [6]))) (sSeq (sIf (bOr (bNot (bTru (eCall (F__law_alike 20) (aCons (eCall F_wishes_text (aCons (eVar 2) (aCons (eVar 11) aNil))) (aCons (eVar 7) aNil))))) (bNot (bTru (eCall (F__law_alike 20) (aCons (eCall F_read_wishes (aCons (eVar 2) (aCons (eVar 7) aNil))) (aCons (eVar 11) aNil)))))) (sRet (eC (.bl false))) sNil) (sSeq (sFor (rg1 (aCons (eC (.int 4)) aNil)) (gNameD 9) (sSeq (sSet 10 (eCall F__law_bent (aCons (eVar 1) (aCons (eVar 4) (aCons (eLst (aCons (eC (sT "c0 holds c0")) (aCons (eC (sT "c1 holds f0(c0)")) (aCons (eC (sT "c0 holds")) (aCons (eC (sT "c0 holds c9")) (aCons (eC (sT "holds c0")) (aCons (eC (sT "c0  holds c0")) aNil))))))) aNil))))) (sIf (bNot (bTru (eCall (F__law_alike 20) (aCons (eTold (xCall F_read_wishes (aCons (eVar 2) (aCons (eVar 10) aNil)))) (aCons (eCall F__law_read_wishes (aCons (eVar 2) (aCons (eVar 10) aNil))) aNil))))) (sRet (eC (.bl false))) sNil))) (sSeq (sSet 14 (eOp addD (eC (.int 1)) (eCall F__law_taken (aCons (eVar 1) (aCons (eC (.int 3)) aNil))))) (sSeq (sSet 15 (eCall F__law_pick (aCons (eVar 1) (aCons (eComp (lstOf (eCall F__law_subsets (aCons (eCl lenD (aCons (eVar 3) aNil)) aNil))) (gNameD 16) (bTru (eCall F__law_near (aCons (eVar 16) (aCons (eVar 14) aNil)))) (eVar 16) [16]) aNil)))) (sSeq (sIf (bNot (bTru (eCall (F__law_alike 20) (aCons (eCall F_told (aCons (eVar 2) (aCons (eVar 3) (aCons (eVar 14) (aCons (eVar 15) aNil))))) (aCons (eCall F__law_rows (aCons (eVar 2) (aCons (eVar 3) (aCons (eVar 15) aNil)))) aNil))))) (sRet (eC (.bl false))) sNil) (sSeq (sSet 17 (eLst (aCons (eC .non) (aCons (eLst (aCons (eC (.int 0)) aNil)) (aCons (eTup (aCons (eCl lenD (aCons (eVar 3) aNil)) aNil)) (aCons (eTup (aCons (eC (.int 0)) (aCons (eC (.int 0)) aNil))) (aCons (eTup (aCons (eC (.bl true)) aNil)) (aCons (eTup (aCons (eOp subD (eC (.int 0)) (eC (.int 1))) aNil)) aNil)))))))) (sRet (eOp eqD (eComp (lstOf (eVar 17)) (gNameD 10) (bOf (eOp neD (eTold (xCall F_told (aCons (eVar 2) (aCons (eVar 3) (aCons (eVar 14) (aCons (eVar 10) aNil)))))) (eC (sT "losses")))) (eVar 10) [10]) (eLst aNil)))))))))))))))))))))
def F_law : DF := denF 18 1 B_law
end L2.DL
-- part Txt
/-! Txt: the defs of the text by their places (printed by gen.py). -/
namespace L2.DL
open PySem PySem.Spec PyProof.Rows
def topS (i : Nat) : Stmt := PySem.Challenge.pw_lostlines_k60_whole_texts.main.body.getD i (.Pass ⟨0, 0, 0, 0⟩)
abbrev s__law_taken : Stmt := topS 45
abbrev s__law_machine : Stmt := topS 48
abbrev s__law_pick : Stmt := topS 46
abbrev s__law_line : Stmt := topS 49
abbrev s__law_program : Stmt := topS 50
abbrev s__law_done : Stmt := topS 52
abbrev s__law_run : Stmt := topS 53
abbrev s__law_wishes : Stmt := topS 58
abbrev s__law_bent : Stmt := topS 69
abbrev s__law_text : Stmt := topS 51
abbrev s__law_all_terms : Stmt := topS 61
abbrev s_is_number : Stmt := topS 15
abbrev s_need_machine : Stmt := topS 16
abbrev s_figure : Stmt := topS 34
abbrev s_term_at : Stmt := topS 39
abbrev s_read_term : Stmt := topS 40
abbrev s__law_told_term : Stmt := topS 72
abbrev s__law_split : Stmt := topS 62
abbrev s__law_term : Stmt := topS 63
abbrev s__law_alike : Stmt := topS 47
abbrev s__law_terms_right : Stmt := topS 71
abbrev s__law_line_text : Stmt := topS 60
abbrev s_is_line : Stmt := topS 17
abbrev s_need_program : Stmt := topS 18
abbrev s_need_many : Stmt := topS 26
abbrev s_are_losses : Stmt := topS 27
abbrev s_first_terms : Stmt := topS 21
abbrev s_depth : Stmt := topS 19
abbrev s_done : Stmt := topS 22
abbrev s_line_text : Stmt := topS 32
abbrev s_text_of : Stmt := topS 23
abbrev s_told : Stmt := topS 43
abbrev s__law_rows : Stmt := topS 70
abbrev s_written : Stmt := topS 33
abbrev s_lines_of : Stmt := topS 35
abbrev s_cell_of : Stmt := topS 36
abbrev s_line_of : Stmt := topS 37
abbrev s_read_program : Stmt := topS 38
abbrev s__law_told : Stmt := topS 68
abbrev s__law_lines : Stmt := topS 65
abbrev s__law_line_of : Stmt := topS 64
abbrev s__law_read : Stmt := topS 66
abbrev s_is_term : Stmt := topS 20
abbrev s_is_wish : Stmt := topS 28
abbrev s_need_wishes : Stmt := topS 29
abbrev s_wishes_text : Stmt := topS 41
abbrev s_read_wishes : Stmt := topS 42
abbrev s__law_read_wishes : Stmt := topS 67
abbrev s__law_subsets : Stmt := topS 55
abbrev s__law_near : Stmt := topS 56
abbrev s_law : Stmt := topS 73
abbrev s_init : Stmt := inClass (topS 8) 0
end L2.DL
-- part Drv
set_option maxHeartbeats 4000000
/-! Drv: each def keeps what Den says (printed by gen.py). -/
namespace L2.DL
open PySem PySem.Spec PyProof.Rows

theorem sc__law_taken : FnScope ["_law_row", "_law_many", "_law_found", "_law_cell"] ["_law_row", "_law_many"] (defScope s__law_taken) := ⟨rfl, rfl, rfl, by decide +kernel, rfl, by decide +kernel, by decide +kernel⟩
theorem sc__law_machine : FnScope ["_law_row", "_law_k"] ["_law_row"] (defScope s__law_machine) := ⟨rfl, rfl, rfl, by decide +kernel, rfl, by decide +kernel, by decide +kernel⟩
theorem sc__law_pick : FnScope ["_law_row", "_law_things"] ["_law_row", "_law_things"] (defScope s__law_pick) := ⟨rfl, rfl, rfl, by decide +kernel, rfl, by decide +kernel, by decide +kernel⟩
theorem sc__law_line : FnScope ["_law_row", "_law_machine_here", "_law_cells", "_law_functions", "_law_cell", "_law_one", "_law_function", "_law_k"] ["_law_row", "_law_machine_here"] (defScope s__law_line) := ⟨rfl, rfl, rfl, by decide +kernel, rfl, by decide +kernel, by decide +kernel⟩
theorem sc__law_program : FnScope ["_law_row", "_law_machine_here", "_law_most", "_law_found", "_law_k", "_law_line_here"] ["_law_row", "_law_machine_here", "_law_most"] (defScope s__law_program) := ⟨rfl, rfl, rfl, by decide +kernel, rfl, by decide +kernel, by decide +kernel⟩
theorem sc__law_done : FnScope ["_law_held", "_law_line_here", "_law_cell", "_law_function", "_law_sources", "_law_some", "_law_source"] ["_law_held", "_law_line_here"] (defScope s__law_done) := ⟨rfl, rfl, rfl, by decide +kernel, rfl, by decide +kernel, by decide +kernel⟩
theorem sc__law_run : FnScope ["_law_machine_here", "_law_program_here", "_law_held", "_law_line_here"] ["_law_machine_here", "_law_program_here"] (defScope s__law_run) := ⟨rfl, rfl, rfl, by decide +kernel, rfl, by decide +kernel, by decide +kernel⟩
theorem sc__law_wishes : FnScope ["_law_row", "_law_machine_here", "_law_program_here", "_law_held", "_law_cells", "_law_cell"] ["_law_row", "_law_machine_here", "_law_program_here"] (defScope s__law_wishes) := ⟨rfl, rfl, rfl, by decide +kernel, rfl, by decide +kernel, by decide +kernel⟩
theorem sc__law_bent : FnScope ["_law_row", "_law_lines_here", "_law_more", "_law_k", "_law_kind", "_law_bent_here", "_law_some", "_law_line_here", "_law_text_here"] ["_law_row", "_law_lines_here", "_law_more"] (defScope s__law_bent) := ⟨rfl, rfl, rfl, by decide +kernel, rfl, by decide +kernel, by decide +kernel⟩
theorem sc__law_text : FnScope ["_law_term_here", "_law_part"] ["_law_term_here"] (defScope s__law_text) := ⟨rfl, rfl, rfl, by decide +kernel, rfl, by decide +kernel, by decide +kernel⟩
theorem sc__law_all_terms : FnScope ["_law_machine_here", "_law_deep", "_law_found", "_law_cell", "_law_turn", "_law_some", "_law_number", "_law_text_here", "_law_term_here"] ["_law_machine_here", "_law_deep"] (defScope s__law_all_terms) := ⟨rfl, rfl, rfl, by decide +kernel, rfl, by decide +kernel, by decide +kernel⟩
theorem sc_is_number : FnScope ["value", "low", "high"] ["value", "low", "high"] (defScope s_is_number) := ⟨rfl, rfl, rfl, by decide +kernel, rfl, by decide +kernel, by decide +kernel⟩
theorem sc_need_machine : FnScope ["value", "cells", "functions", "reads"] ["value"] (defScope s_need_machine) := ⟨rfl, rfl, rfl, by decide +kernel, rfl, by decide +kernel, by decide +kernel⟩
theorem sc_figure : FnScope ["word", "low", "high"] ["word", "low", "high"] (defScope s_figure) := ⟨rfl, rfl, rfl, by decide +kernel, rfl, by decide +kernel, by decide +kernel⟩
theorem sc_term_at : FnScope ["machine", "text", "place", "deep", "sign", "number", "found", "turn", "term"] ["machine", "text", "place", "deep"] (defScope s_term_at) := ⟨rfl, rfl, rfl, by decide +kernel, rfl, by decide +kernel, by decide +kernel⟩
theorem sc_read_term : FnScope ["machine", "text", "term", "place"] ["machine", "text"] (defScope s_read_term) := ⟨rfl, rfl, rfl, by decide +kernel, rfl, by decide +kernel, by decide +kernel⟩
theorem sc__law_told_term : FnScope ["_law_machine_here", "_law_text_here", "e"] ["_law_machine_here", "_law_text_here"] (defScope s__law_told_term) := ⟨rfl, rfl, rfl, by decide +kernel, rfl, by decide +kernel, by decide +kernel⟩
theorem sc__law_split : FnScope ["_law_text_here", "_law_found", "_law_deep", "_law_part", "_law_sign"] ["_law_text_here"] (defScope s__law_split) := ⟨rfl, rfl, rfl, by decide +kernel, rfl, by decide +kernel, by decide +kernel⟩
theorem sc__law_term : FnScope ["_law_machine_here", "_law_text_here", "_law_deep", "_law_parts", "_law_part"] ["_law_machine_here", "_law_text_here", "_law_deep"] (defScope s__law_term) := ⟨rfl, rfl, rfl, by decide +kernel, rfl, by decide +kernel, by decide +kernel⟩
theorem sc__law_alike : FnScope ["_law_found", "_law_due", "_law_k"] ["_law_found", "_law_due"] (defScope s__law_alike) := ⟨rfl, rfl, rfl, by decide +kernel, rfl, by decide +kernel, by decide +kernel⟩
theorem sc__law_terms_right : FnScope ["_law_row", "_law_machine_here", "_law_terms", "_law_text_here", "_law_k", "_law_some", "_law_value", "_law_due", "_law_got"] ["_law_row", "_law_machine_here"] (defScope s__law_terms_right) := ⟨rfl, rfl, rfl, by decide +kernel, rfl, by decide +kernel, by decide +kernel⟩
theorem sc__law_line_text : FnScope ["_law_line_here", "_law_cell", "_law_function", "_law_sources", "_law_one"] ["_law_line_here"] (defScope s__law_line_text) := ⟨rfl, rfl, rfl, by decide +kernel, rfl, by decide +kernel, by decide +kernel⟩
theorem sc_is_line : FnScope ["machine", "value", "cells", "functions", "cell", "function", "sources", "source"] ["machine", "value"] (defScope s_is_line) := ⟨rfl, rfl, rfl, by decide +kernel, rfl, by decide +kernel, by decide +kernel⟩
theorem sc_need_program : FnScope ["machine", "value", "index", "line"] ["machine", "value"] (defScope s_need_program) := ⟨rfl, rfl, rfl, by decide +kernel, rfl, by decide +kernel, by decide +kernel⟩
theorem sc_need_many : FnScope ["value"] ["value"] (defScope s_need_many) := ⟨rfl, rfl, rfl, by decide +kernel, rfl, by decide +kernel, by decide +kernel⟩
theorem sc_are_losses : FnScope ["program", "many", "value", "index", "one", "other", "place"] ["program", "many", "value"] (defScope s_are_losses) := ⟨rfl, rfl, rfl, by decide +kernel, rfl, by decide +kernel, by decide +kernel⟩
theorem sc_first_terms : FnScope ["machine"] ["machine"] (defScope s_first_terms) := ⟨rfl, rfl, rfl, by decide +kernel, rfl, by decide +kernel, by decide +kernel⟩
theorem sc_depth : FnScope ["term", "part"] ["term"] (defScope s_depth) := ⟨rfl, rfl, rfl, by decide +kernel, rfl, by decide +kernel, by decide +kernel⟩
theorem sc_done : FnScope ["held", "line", "cell", "function", "sources", "term", "source"] ["held", "line"] (defScope s_done) := ⟨rfl, rfl, rfl, by decide +kernel, rfl, by decide +kernel, by decide +kernel⟩
theorem sc_line_text : FnScope ["line", "cell", "function", "sources", "source"] ["line"] (defScope s_line_text) := ⟨rfl, rfl, rfl, by decide +kernel, rfl, by decide +kernel, by decide +kernel⟩
theorem sc_text_of : FnScope ["term", "part"] ["term"] (defScope s_text_of) := ⟨rfl, rfl, rfl, by decide +kernel, rfl, by decide +kernel, by decide +kernel⟩
theorem sc_told : FnScope ["machine", "program", "many", "losses", "held", "rows", "number", "line", "is_lost", "word", "term"] ["machine", "program", "many", "losses"] (defScope s_told) := ⟨rfl, rfl, rfl, by decide +kernel, rfl, by decide +kernel, by decide +kernel⟩
theorem sc__law_rows : FnScope ["_law_machine_here", "_law_program_here", "_law_losses", "_law_held", "_law_found", "_law_k", "_law_words", "_law_term_here"] ["_law_machine_here", "_law_program_here", "_law_losses"] (defScope s__law_rows) := ⟨rfl, rfl, rfl, by decide +kernel, rfl, by decide +kernel, by decide +kernel⟩
theorem sc_written : FnScope ["machine", "program", "lines", "reads", "line"] ["machine", "program"] (defScope s_written) := ⟨rfl, rfl, rfl, by decide +kernel, rfl, by decide +kernel, by decide +kernel⟩
theorem sc_lines_of : FnScope ["text"] ["text"] (defScope s_lines_of) := ⟨rfl, rfl, rfl, by decide +kernel, rfl, by decide +kernel, by decide +kernel⟩
theorem sc_cell_of : FnScope ["word"] ["word"] (defScope s_cell_of) := ⟨rfl, rfl, rfl, by decide +kernel, rfl, by decide +kernel, by decide +kernel⟩
theorem sc_line_of : FnScope ["machine", "text", "parts", "cell", "right", "line", "function", "word"] ["machine", "text"] (defScope s_line_of) := ⟨rfl, rfl, rfl, by decide +kernel, rfl, by decide +kernel, by decide +kernel⟩
theorem sc_read_program : FnScope ["text", "lines", "words", "cells", "reads", "word", "machine", "program", "at", "line"] ["text"] (defScope s_read_program) := ⟨rfl, rfl, rfl, by decide +kernel, rfl, by decide +kernel, by decide +kernel⟩
theorem sc__law_told : FnScope ["_law_work", "e"] ["_law_work"] (defScope s__law_told) := ⟨rfl, rfl, rfl, by decide +kernel, rfl, by decide +kernel, by decide +kernel⟩
theorem sc__law_lines : FnScope ["_law_text_here", "_law_lines_here"] ["_law_text_here"] (defScope s__law_lines) := ⟨rfl, rfl, rfl, by decide +kernel, rfl, by decide +kernel, by decide +kernel⟩
theorem sc__law_line_of : FnScope ["_law_machine_here", "_law_text_here", "_law_parts", "_law_cell", "_law_other", "_law_term_here"] ["_law_machine_here", "_law_text_here"] (defScope s__law_line_of) := ⟨rfl, rfl, rfl, by decide +kernel, rfl, by decide +kernel, by decide +kernel⟩
theorem sc__law_read : FnScope ["_law_text_here", "_law_lines_here", "_law_words", "_law_word", "_law_machine_here", "_law_program_here", "_law_at", "_law_line_here"] ["_law_text_here"] (defScope s__law_read) := ⟨rfl, rfl, rfl, by decide +kernel, rfl, by decide +kernel, by decide +kernel⟩
theorem sc_is_term : FnScope ["machine", "value", "deep", "cells", "functions", "part"] ["machine", "value", "deep"] (defScope s_is_term) := ⟨rfl, rfl, rfl, by decide +kernel, rfl, by decide +kernel, by decide +kernel⟩
theorem sc_is_wish : FnScope ["machine", "value"] ["machine", "value"] (defScope s_is_wish) := ⟨rfl, rfl, rfl, by decide +kernel, rfl, by decide +kernel, by decide +kernel⟩
theorem sc_need_wishes : FnScope ["machine", "value", "index", "wish"] ["machine", "value"] (defScope s_need_wishes) := ⟨rfl, rfl, rfl, by decide +kernel, rfl, by decide +kernel, by decide +kernel⟩
theorem sc_wishes_text : FnScope ["machine", "wishes", "cell", "term"] ["machine", "wishes"] (defScope s_wishes_text) := ⟨rfl, rfl, rfl, by decide +kernel, rfl, by decide +kernel, by decide +kernel⟩
theorem sc_read_wishes : FnScope ["machine", "text", "found", "at", "line", "parts", "cell", "term", "place"] ["machine", "text"] (defScope s_read_wishes) := ⟨rfl, rfl, rfl, by decide +kernel, rfl, by decide +kernel, by decide +kernel⟩
theorem sc__law_read_wishes : FnScope ["_law_machine_here", "_law_text_here", "_law_lines_here", "_law_found", "_law_at", "_law_parts", "_law_cell", "_law_term_here"] ["_law_machine_here", "_law_text_here"] (defScope s__law_read_wishes) := ⟨rfl, rfl, rfl, by decide +kernel, rfl, by decide +kernel, by decide +kernel⟩
theorem sc__law_subsets : FnScope ["_law_many", "_law_found", "_law_k", "_law_lot"] ["_law_many"] (defScope s__law_subsets) := ⟨rfl, rfl, rfl, by decide +kernel, rfl, by decide +kernel, by decide +kernel⟩
theorem sc__law_near : FnScope ["_law_losses", "_law_many", "_law_k"] ["_law_losses", "_law_many"] (defScope s__law_near) := ⟨rfl, rfl, rfl, by decide +kernel, rfl, by decide +kernel, by decide +kernel⟩
theorem sc_law : FnScope ["_law_script", "_law_row", "_law_machine_here", "_law_program_here", "_law_lines_here", "_law_one", "_law_line_here", "_law_text_here", "_law_more", "_law_turn", "_law_value", "_law_wishes_here", "_law_cell", "_law_term_here", "_law_many", "_law_losses", "_law_lot", "_law_bad"] ["_law_script"] (defScope s_law) := ⟨rfl, rfl, rfl, by decide +kernel, rfl, by decide +kernel, by decide +kernel⟩
/-- what the top gives -/
structure Glob (P : Program) (w : World) (K : PySem.W.Frag) (mg : Str → Option Value) (base : Heap) (C : Ctx) : Prop where
  b : Blt mg
  err : ErrT P w K mg base C
  c_FIGURES : ∃ t, mg "FIGURES" = some (.str "0123456789" t)
  c_MOST_CELLS : ∃ t, mg "MOST_CELLS" = some (.int 4 t)
  c_MOST_DEEP : ∃ t, mg "MOST_DEEP" = some (.int 8 t)
  c_MOST_FUNCTIONS : ∃ t, mg "MOST_FUNCTIONS" = some (.int 3 t)
  c_MOST_LINES : ∃ t, mg "MOST_LINES" = some (.int 60 t)
  c_MOST_LOST : ∃ t, mg "MOST_LOST" = some (.int 3 t)
  c_MOST_READ : ∃ t, mg "MOST_READ" = some (.int 2 t)
  told : ToldT K mg "_law_told" "_law_work" s__law_told ["_law_work", "e"]
structure TabF (mg : Str → Option Value) (base : Heap) (C : Ctx) (x suf : Str) (c Pt : Addr) : Prop where
  TB : LamX.TabB base mg c Pt
  mem : (Pt, x ++ ".<locals>." ++ suf) ∈ C.T
  uni : ∀ p ∈ C.T, p.1 = Pt → p.2 = x ++ ".<locals>." ++ suf
theorem Glob.toldG {P : Program} {w : World} {K : PySem.W.Frag} {mg : Str → Option Value} {base : Heap} {C : Ctx} (g : Glob P w K mg base C) {X : Cx} {gf : Addr} {cdg : Value} {qn : Str} (hX : X.prog = P ∧ X.w = w ∧ X.K = K ∧ X.mg = mg ∧ X.base = base) : LamX.GivesTo X ["_law_work", "e"] "_law_told" (defScope s__law_told) gf cdg (defBody s__law_told) "_law_work" qn (TToldD C) := by
  obtain ⟨rfl, rfl, rfl, rfl, rfl⟩ := hX
  exact told_givesD g.err rfl rfl (by decide +kernel) rfl rfl (fun _ => rfl) rfl (by decide) (by decide)
theorem b__law_taken {P : Program} {w : World} {K : PySem.W.Frag} {mg : Str → Option Value} {base : Heap} {C : Ctx} (g : Glob P w K mg base C)   {cdv : Value} {f : Addr} {A : Around} {outer : List Env} {s : Shared} {H : Hp} {E : XK} (hr : Room 1 (cxD P w K mg base ["_law_row", "_law_many", "_law_found", "_law_cell"] "_law_taken" s__law_taken f cdv A outer s H E).A) :
    DSs (cxD P w K mg base ["_law_row", "_law_many", "_law_found", "_law_cell"] "_law_taken" s__law_taken f cdv A outer s H E) C (wE E) (defBody s__law_taken) (B__law_taken) := by
  have hN := sc__law_taken.nd
  exact ds_cons (ds_if (t_cmp op_gt r_gtD (dx_ix (d_var 0) d_int) d_int (by rfl)) (ds_cons (ds_set hN (d_op op_modN r_modD (d_intC g.b.int (a_cons (dx_ix (d_var 0) d_int) a_nil)) (d_var 1))) (ds_cons (ds_setIx (d_var 0) d_int (d_op op_fdivN r_fdivD (dx_ix (d_var 0) d_int) (d_var 1))) (ds_one (ds_ret (d_var 2))))) ds_nil) (ds_cons (ds_setIx (d_var 0) d_int (d_op op_addD r_addD (dx_ix (d_var 0) d_int) d_int)) (ds_cons (ds_if (t_cmp op_gt r_gtD (dx_ix (d_var 0) d_int) (d_len g.b.len (a_cons (dx_ix (d_var 0) d_int) a_nil)) (by rfl)) (ds_cons (ds_setIx (d_var 0) d_int (d_op op_modN r_modD (d_intC g.b.int (a_cons (d_op op_addD r_addD (d_op op_mul r_mulD (dx_ix (d_var 0) d_int) d_int) d_int) a_nil)) d_int)) (ds_one (ds_ret (d_op op_modN r_modD (d_intC g.b.int (a_cons (d_op op_fdivN r_fdivD (dx_ix (d_var 0) d_int) d_int) a_nil)) (d_var 1))))) ds_nil) (ds_cons (ds_set hN (dx_ix (dx_ix (d_var 0) d_int) (d_op op_sub r_subD (dx_ix (d_var 0) d_int) d_int))) (ds_cons (ds_setIx (d_var 0) d_int (d_op op_modN r_modD (d_intC g.b.int (a_cons (d_op op_addD r_addD (d_op op_addD r_addD (d_op op_mul r_mulD (dx_ix (d_var 0) d_int) d_int) (d_var 3)) d_int) a_nil)) d_int)) (ds_cons (ds_if (t_cmp op_ge r_geD (d_var 3) (d_op op_pow r_powD d_int d_int) (by rfl)) (ds_one (ds_setIx (d_var 0) d_int (d_op op_fdivN r_fdivD (d_var 3) (d_var 1)))) ds_nil) (ds_one (ds_ret (d_op op_modN r_modD (d_intC g.b.int (a_cons (d_var 3) a_nil)) (d_var 1)))))))))
theorem b__law_machine {P : Program} {w : World} {K : PySem.W.Frag} {mg : Str → Option Value} {base : Heap} {C : Ctx} (g : Glob P w K mg base C) (G__law_taken : DFn P w K mg base C (L2.CX P w) 2 "_law_taken" 2 F__law_taken)  {cdv : Value} {f : Addr} {A : Around} {outer : List Env} {s : Shared} {H : Hp} {E : XK} (hr : Room 2 (cxD P w K mg base ["_law_row", "_law_k"] "_law_machine" s__law_machine f cdv A outer s H E).A) :
    DSs (cxD P w K mg base ["_law_row", "_law_k"] "_law_machine" s__law_machine f cdv A outer s H E) C (wE E) (defBody s__law_machine) (B__law_machine) := by
  have hN := sc__law_machine.nd
  exact ds_one (ds_ret (d_tup (a_cons (d_op op_addD r_addD d_int (d_call G__law_taken (hr.mono (by decide)) passL (a_cons (d_var 0) (a_cons d_int a_nil)) (len_cons (len_cons len_nil)))) (a_cons (d_tupC g.b.tuple (a_cons (d_comp (own := [("_law_k", 1)]) rfl hN (i_rg1 g.b.range (a_cons (d_op op_addD r_addD d_int (d_call G__law_taken (hr.mono (by decide)) passL (a_cons (d_var 0) (a_cons d_int a_nil)) (len_cons (len_cons len_nil)))) a_nil)) (blkOk_by rfl) (fun _ _ _ _ _ => g_name hN) (fun _ _ _ _ _ => ts_nil) (fun _ _ _ _ _ => d_op op_addD r_addD d_int (d_call G__law_taken (hr.mono (by decide)) passL (a_cons (d_var 0) (a_cons d_int a_nil)) (len_cons (len_cons len_nil))))) a_nil)) a_nil))))
theorem b__law_pick {P : Program} {w : World} {K : PySem.W.Frag} {mg : Str → Option Value} {base : Heap} {C : Ctx} (g : Glob P w K mg base C) (G__law_taken : DFn P w K mg base C (L2.CX P w) 2 "_law_taken" 2 F__law_taken)  {cdv : Value} {f : Addr} {A : Around} {outer : List Env} {s : Shared} {H : Hp} {E : XK} (hr : Room 2 (cxD P w K mg base ["_law_row", "_law_things"] "_law_pick" s__law_pick f cdv A outer s H E).A) :
    DSs (cxD P w K mg base ["_law_row", "_law_things"] "_law_pick" s__law_pick f cdv A outer s H E) C (wE E) (defBody s__law_pick) (B__law_pick) := by
  have hN := sc__law_pick.nd
  exact ds_one (ds_ret (dx_ix (d_var 1) (d_call G__law_taken (hr.mono (by decide)) passL (a_cons (d_var 0) (a_cons (d_len g.b.len (a_cons (d_var 1) a_nil)) a_nil)) (len_cons (len_cons len_nil)))))
theorem b__law_line {P : Program} {w : World} {K : PySem.W.Frag} {mg : Str → Option Value} {base : Heap} {C : Ctx} (g : Glob P w K mg base C) (G__law_taken : DFn P w K mg base C (L2.CX P w) 2 "_law_taken" 2 F__law_taken) (G__law_pick : DFn P w K mg base C (L2.CX P w) 3 "_law_pick" 2 F__law_pick)  {cdv : Value} {f : Addr} {A : Around} {outer : List Env} {s : Shared} {H : Hp} {E : XK} (hr : Room 3 (cxD P w K mg base ["_law_row", "_law_machine_here", "_law_cells", "_law_functions", "_law_cell", "_law_one", "_law_function", "_law_k"] "_law_line" s__law_line f cdv A outer s H E).A) :
    DSs (cxD P w K mg base ["_law_row", "_law_machine_here", "_law_cells", "_law_functions", "_law_cell", "_law_one", "_law_function", "_law_k"] "_law_line" s__law_line f cdv A outer s H E) C (wE E) (defBody s__law_line) (B__law_line) := by
  have hN := sc__law_line.nd
  exact ds_cons (ds_asg (g_tup rfl (gs_cons (g_name hN) (gs_cons (g_name hN) gs_nil))) (d_var 1)) (ds_cons (ds_if (t_w (w_and (t_cmp op_gt r_gtD (d_var 2) d_int (by rfl)) (w_and1 (t_cmp (op_eqX (hr).units) r_eqD (d_call G__law_taken (hr.mono (by decide)) passL (a_cons (d_var 0) (a_cons d_int a_nil)) (len_cons (len_cons len_nil))) d_int (by rfl))))) (ds_cons (ds_set hN (d_call G__law_taken (hr.mono (by decide)) passL (a_cons (d_var 0) (a_cons (d_var 2) a_nil)) (len_cons (len_cons len_nil)))) (ds_one (ds_ret (d_tup (a_cons (d_var 4) (a_cons d_non (a_cons (d_tup (a_cons (d_call G__law_pick (hr.mono (by decide)) passL (a_cons (d_var 0) (a_cons (d_comp (own := [("_law_one", 5)]) rfl hN (i_rg1 g.b.range (a_cons (d_var 2) a_nil)) (blkOk_by rfl) (fun _ _ _ _ _ => g_name hN) (fun _ _ _ _ _ => ts_one (t_cmp (op_neX (hr).units) r_neD (d_var 5) (d_var 4) (by rfl))) (fun _ _ _ _ _ => d_var 5)) a_nil)) (len_cons (len_cons len_nil))) a_nil)) a_nil))))))) ds_nil) (ds_cons (ds_set hN (d_call G__law_taken (hr.mono (by decide)) passL (a_cons (d_var 0) (a_cons (d_len g.b.len (a_cons (d_var 3) a_nil)) a_nil)) (len_cons (len_cons len_nil)))) (ds_one (ds_ret (d_tup (a_cons (d_call G__law_taken (hr.mono (by decide)) passL (a_cons (d_var 0) (a_cons (d_var 2) a_nil)) (len_cons (len_cons len_nil))) (a_cons (d_var 6) (a_cons (d_tupC g.b.tuple (a_cons (d_comp (own := [("_law_k", 7)]) rfl hN (i_rg1 g.b.range (a_cons (dx_ix (d_var 3) (d_var 6)) a_nil)) (blkOk_by rfl) (fun _ _ _ _ _ => g_name hN) (fun _ _ _ _ _ => ts_nil) (fun _ _ _ _ _ => d_call G__law_taken (hr.mono (by decide)) passL (a_cons (d_var 0) (a_cons (d_var 2) a_nil)) (len_cons (len_cons len_nil)))) a_nil)) a_nil))))))))
theorem b__law_program {P : Program} {w : World} {K : PySem.W.Frag} {mg : Str → Option Value} {base : Heap} {C : Ctx} (g : Glob P w K mg base C) (G__law_taken : DFn P w K mg base C (L2.CX P w) 2 "_law_taken" 2 F__law_taken) (G__law_line : DFn P w K mg base C (L2.CX P w) 4 "_law_line" 2 F__law_line)  {cdv : Value} {f : Addr} {A : Around} {outer : List Env} {s : Shared} {H : Hp} {E : XK} (hr : Room 4 (cxD P w K mg base ["_law_row", "_law_machine_here", "_law_most", "_law_found", "_law_k", "_law_line_here"] "_law_program" s__law_program f cdv A outer s H E).A) :
    DSs (cxD P w K mg base ["_law_row", "_law_machine_here", "_law_most", "_law_found", "_law_k", "_law_line_here"] "_law_program" s__law_program f cdv A outer s H E) C (wE E) (defBody s__law_program) (B__law_program) := by
  have hN := sc__law_program.nd
  exact ds_cons (ds_set hN (d_tup a_nil)) (ds_cons (ds_for ownsD rfl (i_rg1 g.b.range (a_cons (d_call G__law_taken (hr.mono (by decide)) passL (a_cons (d_var 0) (a_cons (d_op op_addD r_addD (d_var 2) d_int) a_nil)) (len_cons (len_cons len_nil))) a_nil)) (g_name hN) (ds_cons (ds_set hN (d_call G__law_line (hr.mono (by decide)) passL (a_cons (d_var 0) (a_cons (d_var 1) a_nil)) (len_cons (len_cons len_nil)))) (ds_one (ds_set hN (d_op op_addD r_addD (d_var 3) (d_if (t_cmp (op_eqX (hr).units) r_eqD (d_call G__law_taken (hr.mono (by decide)) passL (a_cons (d_var 0) (a_cons d_int a_nil)) (len_cons (len_cons len_nil))) d_int (by rfl)) (d_tup (a_cons (d_var 5) (a_cons (d_var 5) a_nil))) (d_tup (a_cons (d_var 5) a_nil)))))))) (ds_one (ds_ret (dx_sl (d_var 3) o_none (o_some (d_var 2))))))
theorem b__law_done {P : Program} {w : World} {K : PySem.W.Frag} {mg : Str → Option Value} {base : Heap} {C : Ctx} (g : Glob P w K mg base C)   {cdv : Value} {f : Addr} {A : Around} {outer : List Env} {s : Shared} {H : Hp} {E : XK} (hr : Room 1 (cxD P w K mg base ["_law_held", "_law_line_here", "_law_cell", "_law_function", "_law_sources", "_law_some", "_law_source"] "_law_done" s__law_done f cdv A outer s H E).A) :
    DSs (cxD P w K mg base ["_law_held", "_law_line_here", "_law_cell", "_law_function", "_law_sources", "_law_some", "_law_source"] "_law_done" s__law_done f cdv A outer s H E) C (wE E) (defBody s__law_done) (B__law_done) := by
  have hN := sc__law_done.nd
  exact ds_cons (ds_asg (g_tup rfl (gs_cons (g_name hN) (gs_cons (g_name hN) (gs_cons (g_name hN) gs_nil)))) (d_var 1)) (ds_cons (ds_set hN (d_tupC g.b.tuple (a_cons (d_comp (own := [("_law_source", 6)]) rfl hN (i_tup (d_var 4)) (blkOk_by rfl) (fun _ _ _ _ _ => g_name hN) (fun _ _ _ _ _ => ts_nil) (fun _ _ _ _ _ => dx_ix (d_var 0) (d_var 6))) a_nil))) (ds_one (ds_ret (d_op op_addD r_addD (d_op op_addD r_addD (dx_sl (d_var 0) o_none (o_some (d_var 2))) (d_tup (a_cons (d_if (t_cmp op_isN r_isND (d_var 3) d_non (by rfl)) (dx_ix (d_var 5) d_int) (d_op op_addD r_addD (d_tup (a_cons (d_var 3) a_nil)) (d_var 5))) a_nil))) (dx_sl (d_var 0) (o_some (d_op op_addD r_addD (d_var 2) d_int)) o_none)))))
theorem b__law_run {P : Program} {w : World} {K : PySem.W.Frag} {mg : Str → Option Value} {base : Heap} {C : Ctx} (g : Glob P w K mg base C) (G__law_done : DFn P w K mg base C (L2.CX P w) 2 "_law_done" 2 F__law_done)  {cdv : Value} {f : Addr} {A : Around} {outer : List Env} {s : Shared} {H : Hp} {E : XK} (hr : Room 2 (cxD P w K mg base ["_law_machine_here", "_law_program_here", "_law_held", "_law_line_here"] "_law_run" s__law_run f cdv A outer s H E).A) :
    DSs (cxD P w K mg base ["_law_machine_here", "_law_program_here", "_law_held", "_law_line_here"] "_law_run" s__law_run f cdv A outer s H E) C (wE E) (defBody s__law_run) (B__law_run) := by
  have hN := sc__law_run.nd
  exact ds_cons (ds_set hN (d_tupRg rfl g.b.tuple g.b.range (dx_ix (d_var 0) d_int))) (ds_cons (ds_for ownsD rfl (i_tup (d_var 1)) (g_name hN) (ds_one (ds_set hN (d_call G__law_done (hr.mono (by decide)) passL (a_cons (d_var 2) (a_cons (d_var 3) a_nil)) (len_cons (len_cons len_nil)))))) (ds_one (ds_ret (d_var 2))))
theorem b__law_wishes {P : Program} {w : World} {K : PySem.W.Frag} {mg : Str → Option Value} {base : Heap} {C : Ctx} (g : Glob P w K mg base C) (G__law_run : DFn P w K mg base C (L2.CX P w) 3 "_law_run" 2 F__law_run) (G__law_taken : DFn P w K mg base C (L2.CX P w) 2 "_law_taken" 2 F__law_taken)  {cdv : Value} {f : Addr} {A : Around} {outer : List Env} {s : Shared} {H : Hp} {E : XK} (hr : Room 3 (cxD P w K mg base ["_law_row", "_law_machine_here", "_law_program_here", "_law_held", "_law_cells", "_law_cell"] "_law_wishes" s__law_wishes f cdv A outer s H E).A) :
    DSs (cxD P w K mg base ["_law_row", "_law_machine_here", "_law_program_here", "_law_held", "_law_cells", "_law_cell"] "_law_wishes" s__law_wishes f cdv A outer s H E) C (wE E) (defBody s__law_wishes) (B__law_wishes) := by
  have hN := sc__law_wishes.nd
  exact ds_cons (ds_set hN (d_call G__law_run (hr.mono (by decide)) passL (a_cons (d_var 1) (a_cons (d_var 2) a_nil)) (len_cons (len_cons len_nil)))) (ds_cons (ds_setLc (own := [("_law_cell", 5)]) rfl hN (i_rg1 g.b.range (a_cons (dx_ix (d_var 1) d_int) a_nil)) (blkOk_by rfl) rfl (fun _ _ _ _ _ => g_name hN) (fun _ _ _ _ _ => ts_one (t_cmp (op_eqX (hr).units) r_eqD (d_call G__law_taken (hr.mono (by decide)) passL (a_cons (d_var 0) (a_cons d_int a_nil)) (len_cons (len_cons len_nil))) d_int (by rfl))) (fun _ _ _ _ _ => d_var 5)) (ds_cons (ds_set hN (d_if (t_cmp (op_neX (hr).units) r_neD (d_var 4) (d_lst a_nil) (by rfl)) (d_var 4) (d_lst (a_cons (d_call G__law_taken (hr.mono (by decide)) passL (a_cons (d_var 0) (a_cons (dx_ix (d_var 1) d_int) a_nil)) (len_cons (len_cons len_nil))) a_nil)))) (ds_one (ds_ret (d_tupC g.b.tuple (a_cons (d_comp (own := [("_law_cell", 5)]) rfl hN (i_list (d_var 4)) (blkOk_by rfl) (fun _ _ _ _ _ => g_name hN) (fun _ _ _ _ _ => ts_nil) (fun _ _ _ _ _ => d_tup (a_cons (d_var 5) (a_cons (d_if (t_cmp op_gt r_gtD (d_call G__law_taken (hr.mono (by decide)) passL (a_cons (d_var 0) (a_cons d_int a_nil)) (len_cons (len_cons len_nil))) d_int (by rfl)) (dx_ix (d_var 3) (d_var 5)) (d_call G__law_taken (hr.mono (by decide)) passL (a_cons (d_var 0) (a_cons (dx_ix (d_var 1) d_int) a_nil)) (len_cons (len_cons len_nil)))) a_nil)))) a_nil))))))
theorem b__law_bent {P : Program} {w : World} {K : PySem.W.Frag} {mg : Str → Option Value} {base : Heap} {C : Ctx} (g : Glob P w K mg base C) (G__law_pick : DFn P w K mg base C (L2.CX P w) 3 "_law_pick" 2 F__law_pick) (G__law_taken : DFn P w K mg base C (L2.CX P w) 2 "_law_taken" 2 F__law_taken)  {cdv : Value} {f : Addr} {A : Around} {outer : List Env} {s : Shared} {H : Hp} {E : XK} (hr : Room 3 (cxD P w K mg base ["_law_row", "_law_lines_here", "_law_more", "_law_k", "_law_kind", "_law_bent_here", "_law_some", "_law_line_here", "_law_text_here"] "_law_bent" s__law_bent f cdv A outer s H E).A) :
    DSs (cxD P w K mg base ["_law_row", "_law_lines_here", "_law_more", "_law_k", "_law_kind", "_law_bent_here", "_law_some", "_law_line_here", "_law_text_here"] "_law_bent" s__law_bent f cdv A outer s H E) C (wE E) (defBody s__law_bent) (B__law_bent) := by
  have hN := sc__law_bent.nd
  exact ds_cons (ds_par2 rfl hN (a_cons (d_call G__law_taken (hr.mono (by decide)) passL (a_cons (d_var 0) (a_cons (d_op op_addD r_addD (d_len g.b.len (a_cons (d_var 1) a_nil)) d_int) a_nil)) (len_cons (len_cons len_nil))) (a_cons (d_call G__law_taken (hr.mono (by decide)) passL (a_cons (d_var 0) (a_cons d_int a_nil)) (len_cons (len_cons len_nil))) a_nil))) (ds_cons (ds_set hN (d_if (t_cmp op_lt r_ltD (d_var 4) d_int (by rfl)) (d_op op_addD r_addD (d_op op_addD r_addD (dx_sl (d_var 1) o_none (o_some (d_var 3))) (d_lst (a_cons (d_call G__law_pick (hr.mono (by decide)) passL (a_cons (d_var 0) (a_cons (d_var 2) a_nil)) (len_cons (len_cons len_nil))) a_nil))) (dx_sl (d_var 1) (o_some (d_var 3)) o_none)) (d_op op_addD r_addD (dx_sl (d_var 1) o_none (o_some (d_var 3))) (dx_sl (d_var 1) (o_some (d_op op_addD r_addD (d_var 3) d_int)) o_none)))) (ds_cons (ds_setLc (own := [("_law_line_here", 7)]) rfl hN (i_list (dx_sl (d_var 1) (o_some (d_var 3)) (o_some (d_op op_addD r_addD (d_var 3) d_int)))) (blkOk_by rfl) rfl (fun _ _ _ _ _ => g_name hN) (fun _ _ _ _ _ => ts_nil) (fun _ _ _ _ _ => d_op op_addD r_addD (d_var 7) (d_call G__law_pick (hr.mono (by decide)) passL (a_cons (d_var 0) (a_cons (d_lst (a_cons d_str (a_cons d_str (a_cons d_str (a_cons d_str a_nil))))) a_nil)) (len_cons (len_cons len_nil))))) (ds_cons (ds_set hN (d_if (t_cmp (op_eqX (hr).units) r_eqD (d_var 4) d_int (by rfl)) (d_op op_addD r_addD (d_op op_addD r_addD (dx_sl (d_var 1) o_none (o_some (d_var 3))) (d_var 6)) (dx_sl (d_var 1) (o_some (d_op op_addD r_addD (d_var 3) d_int)) o_none)) (d_var 5))) (ds_cons (ds_set hN (d_join d_str (d_comp (own := [("_law_line_here", 7)]) rfl hN (i_list (d_var 5)) (blkOk_by rfl) (fun _ _ _ _ _ => g_name hN) (fun _ _ _ _ _ => ts_nil) (fun _ _ _ _ _ => d_op op_addD r_addD (d_var 7) d_str)))) (ds_one (ds_ret (d_call G__law_pick (hr.mono (by decide)) passL (a_cons (d_var 0) (a_cons (d_lst (a_cons (d_var 8) (a_cons (d_var 8) (a_cons (d_var 8) (a_cons (d_var 8) (a_cons (dx_sl (d_var 8) o_none (o_some d_neg)) (a_cons d_non (a_cons d_str (a_cons d_int (a_cons d_str a_nil)))))))))) a_nil)) (len_cons (len_cons len_nil)))))))))
theorem b__law_text {P : Program} {w : World} {K : PySem.W.Frag} {mg : Str → Option Value} {base : Heap} {C : Ctx} (g : Glob P w K mg base C)  {m : Nat} {F : DF} (Gs : DFn P w K mg base C (L2.CX P w) (2 + 1 * m) "_law_text" 1 F) {cdv : Value} {f : Addr} {A : Around} {outer : List Env} {s : Shared} {H : Hp} {E : XK} (hr : Room (2 + 1 * m) (cxD P w K mg base ["_law_term_here", "_law_part"] "_law_text" s__law_text f cdv A outer s H E).A) :
    DSs (cxD P w K mg base ["_law_term_here", "_law_part"] "_law_text" s__law_text f cdv A outer s H E) C (wE E) (defBody s__law_text) (B__law_text F) := by
  have hN := sc__law_text.nd
  exact ds_one (ds_ret (d_if (t_not (t_tru (d_isi g.b.isinstance rfl g.b.tuple bt_tuple (d_var 0)))) (d_op op_addD r_addD d_str (d_strC g.b.str (a_cons (d_var 0) a_nil))) (d_op op_addD r_addD (d_op op_addD r_addD (d_op op_addD r_addD (d_op op_addD r_addD d_str (d_strC g.b.str (a_cons (dx_ix (d_var 0) d_int) a_nil))) d_str) (d_join d_str (d_comp (own := [("_law_part", 1)]) rfl hN (i_tup (dx_sl (d_var 0) (o_some d_int) o_none)) (blkOk_by rfl) (fun _ _ _ _ _ => g_name hN) (fun _ _ _ _ _ => ts_nil) (fun _ _ _ _ _ => d_call Gs (hr.mono (by omega)) passL (a_cons (d_var 1) a_nil) (len_cons len_nil))))) d_str)))
theorem b__law_all_terms {P : Program} {w : World} {K : PySem.W.Frag} {mg : Str → Option Value} {base : Heap} {C : Ctx} (g : Glob P w K mg base C) (G__law_text : DFn P w K mg base C (L2.CX P w) 22 "_law_text" 1 (F__law_text 20))  {cdv : Value} {f : Addr} {A : Around} {outer : List Env} {s : Shared} {H : Hp} {E : XK} (hr : Room 22 (cxD P w K mg base ["_law_machine_here", "_law_deep", "_law_found", "_law_cell", "_law_turn", "_law_some", "_law_number", "_law_text_here", "_law_term_here"] "_law_all_terms" s__law_all_terms f cdv A outer s H E).A) :
    DSs (cxD P w K mg base ["_law_machine_here", "_law_deep", "_law_found", "_law_cell", "_law_turn", "_law_some", "_law_number", "_law_text_here", "_law_term_here"] "_law_all_terms" s__law_all_terms f cdv A outer s H E) C (wE E) (defBody s__law_all_terms) (B__law_all_terms) := by
  have hN := sc__law_all_terms.nd
  exact ds_cons (ds_set hN (d_dictC rfl g.b.dict (a_cons (d_comp (own := [("_law_cell", 3)]) rfl hN (i_rg1 g.b.range (a_cons (dx_ix (d_var 0) d_int) a_nil)) (blkOk_by rfl) (fun _ _ _ _ _ => g_name hN) (fun _ _ _ _ _ => ts_nil) (fun _ _ _ _ _ => d_tup (a_cons (d_op op_addD r_addD d_str (d_strC g.b.str (a_cons (d_var 3) a_nil))) (a_cons (d_var 3) a_nil)))) a_nil))) (ds_cons (ds_for ownsD rfl (i_rg1 g.b.range (a_cons (d_op op_sub r_subD (d_var 1) d_int) a_nil)) (g_name hN) (ds_cons (ds_set hN (d_op op_addD r_addD (dx_sl (d_sortedLen (hu2 hr) g.b.sorted g.b.len (a_cons (d_listC rfl g.b.list (a_cons (d_var 2) a_nil)) a_nil)) o_none (o_some d_int)) (dx_sl (d_sortedLen (hu2 hr) g.b.sorted g.b.len (a_cons (d_listC rfl g.b.list (a_cons (d_var 2) a_nil)) a_nil)) (o_some d_neg) o_none))) (ds_one (ds_for ownsD rfl (i_rg1 g.b.range (a_cons (d_len g.b.len (a_cons (dx_ix (d_var 0) d_int) a_nil)) a_nil)) (g_name hN) (ds_one (ds_for ownsD rfl (i_list (d_var 5)) (g_name hN) (ds_cons (ds_set hN (d_op op_addD r_addD (d_tup (a_cons (d_var 6) a_nil)) (d_op op_mulT r_mulTD (d_tup (a_cons (d_dget (hu_of hr) (d_var 2) (d_var 7) (by exact fun _ _ => rfl)) a_nil)) (dx_ix (dx_ix (d_var 0) d_int) (d_var 6))))) (ds_one (ds_dput (hu_of hr) (d_var 2) (d_call G__law_text (hr.mono (by decide)) passL (a_cons (d_var 8) a_nil) (len_cons len_nil)) (d_var 8)))))))))) (ds_one (ds_ret (d_var 2))))
theorem b_is_number {P : Program} {w : World} {K : PySem.W.Frag} {mg : Str → Option Value} {base : Heap} {C : Ctx} (g : Glob P w K mg base C)   {cdv : Value} {f : Addr} {A : Around} {outer : List Env} {s : Shared} {H : Hp} {E : XK} (hr : Room 1 (cxD P w K mg base ["value", "low", "high"] "is_number" s_is_number f cdv A outer s H E).A) :
    DSs (cxD P w K mg base ["value", "low", "high"] "is_number" s_is_number f cdv A outer s H E) C (wE E) (defBody s_is_number) (B_is_number) := by
  have hN := sc_is_number.nd
  exact ds_one (ds_ret (d_and (d_isi g.b.isinstance rfl g.b.int bt_int (d_var 0)) (d_and (d_not (d_isi g.b.isinstance rfl g.b.bool bt_bool (d_var 0))) (d_one (d_chain op_le r_leD op_le r_leD (d_var 1) (d_var 0) (d_var 2))))))
theorem b_need_machine {P : Program} {w : World} {K : PySem.W.Frag} {mg : Str → Option Value} {base : Heap} {C : Ctx} (g : Glob P w K mg base C) (G_is_number : DFn P w K mg base C (L2.CX P w) 2 "is_number" 3 F_is_number)  {c Pt : Addr} (tf : TabF mg base C "need_machine" "<genexpr>" c Pt) {f : Addr} {A : Around} {outer : List Env} {s : Shared} {H : Hp} {E : XK} (hr : Room 3 (cxD P w K mg base ["value", "cells", "functions", "reads"] "need_machine" s_need_machine f (.ref c) A outer s H E).A) :
    DSs (cxD P w K mg base ["value", "cells", "functions", "reads"] "need_machine" s_need_machine f (.ref c) A outer s H E) C (wE E) (defBody s_need_machine) (B_need_machine) := by
  have hN := sc_need_machine.nd
  exact ds_cons (ds_if (t_w (w_or (t_not (t_tru (d_isi g.b.isinstance rfl g.b.tuple bt_tuple (d_var 0)))) (w_or1 (t_cmp (op_neX (hr).units) r_neD (d_len g.b.len (a_cons (d_var 0) a_nil)) d_int (by rfl))))) (ds_one ds_never) ds_nil) (ds_cons (ds_asg (g_tup rfl (gs_cons (g_name hN) (gs_cons (g_name hN) gs_nil))) (d_var 0)) (ds_cons (ds_if (t_not (t_tru (d_call G_is_number (hr.mono (by decide)) passL (a_cons (d_var 1) (a_cons d_int (a_cons (d_gI g.c_MOST_CELLS) a_nil))) (len_cons (len_cons (len_cons len_nil)))))) (ds_one ds_never) ds_nil) (ds_cons (ds_if (t_w (w_or (t_not (t_tru (d_isi g.b.isinstance rfl g.b.tuple bt_tuple (d_var 2)))) (w_or1 (t_not (t_chain op_le r_leD op_le r_leD d_int (d_len g.b.len (a_cons (d_var 2) a_nil)) (d_gI g.c_MOST_FUNCTIONS)))))) (ds_one ds_never) ds_nil) (ds_one (ds_if (t_not (t_tru (d_allG (own := [3]) g.b.all (hr.mono (by decide : 2 + 1 ≤ _)) tf.TB rfl tf.mem tf.uni (genS_by rfl) (i_tup (d_var 2)) (fun _ _ _ _ => g_name hN) (fun _ _ _ _ => d_call G_is_number ((room_gen (hr.mono (by decide : 2 + 1 ≤ _))).mono (by decide)) passL (a_cons (d_var 3) (a_cons d_int (a_cons (d_gI g.c_MOST_READ) a_nil))) (len_cons (len_cons (len_cons len_nil))))))) (ds_one ds_never) ds_nil)))))
theorem b_figure {P : Program} {w : World} {K : PySem.W.Frag} {mg : Str → Option Value} {base : Heap} {C : Ctx} (g : Glob P w K mg base C)   {cdv : Value} {f : Addr} {A : Around} {outer : List Env} {s : Shared} {H : Hp} {E : XK} (hr : Room 1 (cxD P w K mg base ["word", "low", "high"] "figure" s_figure f cdv A outer s H E).A) :
    DSs (cxD P w K mg base ["word", "low", "high"] "figure" s_figure f cdv A outer s H E) C (wE E) (defBody s_figure) (B_figure) := by
  have hN := sc_figure.nd
  exact ds_one (ds_ret (d_if (t_w (w_and (t_cmp (op_eqX (hr).units) r_eqD (d_len g.b.len (a_cons (d_var 0) a_nil)) d_int (by rfl)) (w_and (t_cmp (op_inX (hu65 hr)) r_inD (d_var 0) (d_gS g.c_FIGURES) (by rfl)) (w_and1 (t_chain op_le r_leD op_le r_leD (d_var 1) (d_intC g.b.int (a_cons (d_var 0) a_nil)) (d_var 2)))))) (d_intC g.b.int (a_cons (d_var 0) a_nil)) d_non))
theorem b_term_at {P : Program} {w : World} {K : PySem.W.Frag} {mg : Str → Option Value} {base : Heap} {C : Ctx} (g : Glob P w K mg base C) (G_figure : DFn P w K mg base C (L2.CX P w) 2 "figure" 3 F_figure) {m : Nat} {F : DF} (Gs : DFn P w K mg base C (L2.CX P w) (3 + 1 * m) "term_at" 4 F) {cdv : Value} {f : Addr} {A : Around} {outer : List Env} {s : Shared} {H : Hp} {E : XK} (hr : Room (3 + 1 * m) (cxD P w K mg base ["machine", "text", "place", "deep", "sign", "number", "found", "turn", "term"] "term_at" s_term_at f cdv A outer s H E).A) :
    DSs (cxD P w K mg base ["machine", "text", "place", "deep", "sign", "number", "found", "turn", "term"] "term_at" s_term_at f cdv A outer s H E) C (wE E) (defBody s_term_at) (B_term_at F) := by
  have hN := sc_term_at.nd
  exact ds_cons (ds_par2 rfl hN (a_cons (dx_sl (d_var 1) (o_some (d_var 2)) (o_some (d_op op_addD r_addD (d_var 2) d_int))) (a_cons (d_call G_figure (hr.mono (by omega)) passL (a_cons (dx_sl (d_var 1) (o_some (d_op op_addD r_addD (d_var 2) d_int)) (o_some (d_op op_addD r_addD (d_var 2) d_int))) (a_cons d_int (a_cons (d_op op_sub r_subD (d_gI g.c_MOST_CELLS) d_int) a_nil))) (len_cons (len_cons (len_cons len_nil)))) a_nil))) (ds_cons (ds_if (t_w (w_and (t_cmp (op_eqX (hr).units) r_eqD (d_var 4) d_str (by rfl)) (w_and (t_cmp op_notN r_notND (d_var 5) d_non (by rfl)) (w_and1 (t_cmp op_lt r_ltD (d_var 5) (dx_ix (d_var 0) d_int) (by rfl)))))) (ds_one (ds_ret (d_tup (a_cons (d_var 5) (a_cons (d_op op_addD r_addD (d_var 2) d_int) a_nil))))) ds_nil) (ds_cons (ds_if (t_w (w_or (t_cmp (op_neX (hr).units) r_neD (d_var 4) d_str (by rfl)) (w_or (t_cmp op_isN r_isND (d_var 5) d_non (by rfl)) (w_or (t_cmp op_ge r_geD (d_var 5) (d_len g.b.len (a_cons (dx_ix (d_var 0) d_int) a_nil)) (by rfl)) (w_or1 (t_cmp op_lt r_ltD (d_var 3) d_int (by rfl))))))) (ds_one (ds_ret (d_tup (a_cons d_non (a_cons (d_var 2) a_nil))))) ds_nil) (ds_cons (ds_par2 rfl hN (a_cons (d_op op_addD r_addD (d_var 2) d_int) (a_cons (d_mut (a_cons (d_var 5) a_nil)) a_nil))) (ds_cons (ds_for ownsD rfl (i_rg1 g.b.range (a_cons (dx_ix (dx_ix (d_var 0) d_int) (d_var 5)) a_nil)) (g_name hN) (ds_cons (ds_if (t_cmp (op_neX (hr).units) r_neD (dx_sl (d_var 1) (o_some (d_var 2)) (o_some (d_op op_addD r_addD (d_var 2) d_int))) (d_if (t_cmp (op_eqX (hr).units) r_eqD (d_var 7) d_int (by rfl)) d_str d_str) (by rfl)) (ds_one (ds_ret (d_tup (a_cons d_non (a_cons (d_var 2) a_nil))))) ds_nil) (ds_cons (ds_asg (g_tup rfl (gs_cons (g_name hN) (gs_cons (g_name hN) gs_nil))) (d_call Gs (hr.mono (by omega)) passL (a_cons (d_var 0) (a_cons (d_var 1) (a_cons (d_op op_addD r_addD (d_var 2) d_int) (a_cons (d_op op_sub r_subD (d_var 3) d_int) a_nil)))) (len_cons (len_cons (len_cons (len_cons len_nil)))))) (ds_cons (ds_if (t_cmp op_isN r_isND (d_var 8) d_non (by rfl)) (ds_one (ds_ret (d_tup (a_cons d_non (a_cons (d_var 2) a_nil))))) ds_nil) (ds_one (ds_append (d_var 6) (d_var 8))))))) (ds_one (ds_ret (d_if (t_cmp (op_eqX (hr).units) r_eqD (dx_sl (d_var 1) (o_some (d_var 2)) (o_some (d_op op_addD r_addD (d_var 2) d_int))) d_str (by rfl)) (d_tup (a_cons (d_tupC g.b.tuple (a_cons (d_var 6) a_nil)) (a_cons (d_op op_addD r_addD (d_var 2) d_int) a_nil))) (d_tup (a_cons d_non (a_cons (d_var 2) a_nil))))))))))
theorem b_read_term {P : Program} {w : World} {K : PySem.W.Frag} {mg : Str → Option Value} {base : Heap} {C : Ctx} (g : Glob P w K mg base C) (G_need_machine : DFn P w K mg base C (L2.CX P w) 4 "need_machine" 1 F_need_machine) (G_term_at : DFn P w K mg base C (L2.CX P w) 23 "term_at" 4 (F_term_at 20))  {cdv : Value} {f : Addr} {A : Around} {outer : List Env} {s : Shared} {H : Hp} {E : XK} (hr : Room 23 (cxD P w K mg base ["machine", "text", "term", "place"] "read_term" s_read_term f cdv A outer s H E).A) :
    DSs (cxD P w K mg base ["machine", "text", "term", "place"] "read_term" s_read_term f cdv A outer s H E) C (wE E) (defBody s_read_term) (B_read_term) := by
  have hN := sc_read_term.nd
  exact ds_cons (ds_expr (d_call G_need_machine (hr.mono (by decide)) passL (a_cons (d_var 0) a_nil) (len_cons len_nil))) (ds_cons (ds_if (t_not (t_tru (d_isi g.b.isinstance rfl g.b.str bt_str (d_var 1)))) (ds_one (ds_raiseT g.err rfl takesD (hr.mono (by decide)) d_int)) ds_nil) (ds_cons (ds_asg (g_tup rfl (gs_cons (g_name hN) (gs_cons (g_name hN) gs_nil))) (d_call G_term_at (hr.mono (by decide)) passL (a_cons (d_var 0) (a_cons (d_var 1) (a_cons d_int (a_cons (d_gI g.c_MOST_DEEP) a_nil)))) (len_cons (len_cons (len_cons (len_cons len_nil)))))) (ds_cons (ds_if (t_w (w_or (t_cmp op_isN r_isND (d_var 2) d_non (by rfl)) (w_or1 (t_cmp (op_neX (hr).units) r_neD (d_var 3) (d_len g.b.len (a_cons (d_var 1) a_nil)) (by rfl))))) (ds_one (ds_raiseT g.err rfl takesD (hr.mono (by decide)) d_int)) ds_nil) (ds_one (ds_ret (d_var 2))))))
theorem b__law_told_term {P : Program} {w : World} {K : PySem.W.Frag} {mg : Str → Option Value} {base : Heap} {C : Ctx} (g : Glob P w K mg base C) (G_read_term : DFn P w K mg base C (L2.CX P w) 24 "read_term" 2 F_read_term)  {cdv : Value} {f : Addr} {A : Around} {outer : List Env} {s : Shared} {H : Hp} {E : XK} (hr : Room 24 (cxD P w K mg base ["_law_machine_here", "_law_text_here", "e"] "_law_told_term" s__law_told_term f cdv A outer s H E).A) :
    DSs (cxD P w K mg base ["_law_machine_here", "_law_text_here", "e"] "_law_told_term" s__law_told_term f cdv A outer s H E) C (wE E) (defBody s__law_told_term) (B__law_told_term) := by
  have hN := sc__law_told_term.nd
  exact ds_one (ds_tryT g.err rfl rfl takesD hN (fun _ _ _ tk => x_call G_read_term (hr.mono (by decide)) tk (a_cons (d_var 0) (a_cons (d_var 1) a_nil)) (len_cons (len_cons len_nil))))
theorem b__law_split {P : Program} {w : World} {K : PySem.W.Frag} {mg : Str → Option Value} {base : Heap} {C : Ctx} (g : Glob P w K mg base C)   {cdv : Value} {f : Addr} {A : Around} {outer : List Env} {s : Shared} {H : Hp} {E : XK} (hr : Room 1 (cxD P w K mg base ["_law_text_here", "_law_found", "_law_deep", "_law_part", "_law_sign"] "_law_split" s__law_split f cdv A outer s H E).A) :
    DSs (cxD P w K mg base ["_law_text_here", "_law_found", "_law_deep", "_law_part", "_law_sign"] "_law_split" s__law_split f cdv A outer s H E) C (wE E) (defBody s__law_split) (B__law_split) := by
  have hN := sc__law_split.nd
  exact ds_cons (ds_par3 rfl hN (a_cons (d_lst a_nil) (a_cons d_int (a_cons d_str a_nil)))) (ds_cons (ds_for ownsD rfl (i_str (d_var 0)) (g_name hN) (ds_one (ds_if (t_w (w_and (t_cmp (op_eqX (hr).units) r_eqD (d_var 4) d_str (by rfl)) (w_and1 (t_cmp (op_eqX (hr).units) r_eqD (d_var 2) d_int (by rfl))))) (ds_one (ds_par2 rfl hN (a_cons (d_op op_addD r_addD (d_var 1) (d_lst (a_cons (d_var 3) a_nil))) (a_cons d_str a_nil)))) (ds_one (ds_par2 rfl hN (a_cons (d_op op_addD r_addD (d_var 3) (d_var 4)) (a_cons (d_op op_sub r_subD (d_op op_addD r_addD (d_var 2) (d_intC g.b.int (a_cons (d_cmp (op_eqX (hr).units) r_eqD (d_var 4) d_str (by rfl)) a_nil))) (d_intC g.b.int (a_cons (d_cmp (op_eqX (hr).units) r_eqD (d_var 4) d_str (by rfl)) a_nil))) a_nil))))))) (ds_one (ds_ret (d_op op_addD r_addD (d_var 1) (d_lst (a_cons (d_var 3) a_nil))))))
theorem b__law_term {P : Program} {w : World} {K : PySem.W.Frag} {mg : Str → Option Value} {base : Heap} {C : Ctx} (g : Glob P w K mg base C) (G__law_split : DFn P w K mg base C (L2.CX P w) 2 "_law_split" 1 F__law_split) {m : Nat} {F : DF} (Gs : DFn P w K mg base C (L2.CX P w) (3 + 1 * m) "_law_term" 3 F) {cdv : Value} {f : Addr} {A : Around} {outer : List Env} {s : Shared} {H : Hp} {E : XK} (hr : Room (3 + 1 * m) (cxD P w K mg base ["_law_machine_here", "_law_text_here", "_law_deep", "_law_parts", "_law_part"] "_law_term" s__law_term f cdv A outer s H E).A) :
    DSs (cxD P w K mg base ["_law_machine_here", "_law_text_here", "_law_deep", "_law_parts", "_law_part"] "_law_term" s__law_term f cdv A outer s H E) C (wE E) (defBody s__law_term) (B__law_term F) := by
  have hN := sc__law_term.nd
  exact ds_cons (ds_if (t_w (w_and (t_cmp (op_eqX (hr).units) r_eqD (d_len g.b.len (a_cons (d_var 1) a_nil)) d_int (by rfl)) (w_and (t_cmp (op_eqX (hr).units) r_eqD (dx_ix (d_var 1) d_int) d_str (by rfl)) (w_and1 (t_cmp (op_inX (hu65 hr)) r_inD (dx_ix (d_var 1) d_int) d_str (by rfl)))))) (ds_one (ds_ret (d_if (t_cmp op_lt r_ltD (d_intC g.b.int (a_cons (dx_ix (d_var 1) d_int) a_nil)) (dx_ix (d_var 0) d_int) (by rfl)) (d_intC g.b.int (a_cons (dx_ix (d_var 1) d_int) a_nil)) d_non))) ds_nil) (ds_cons (ds_if (t_w (w_or (t_cmp op_lt r_ltD (d_var 2) d_int (by rfl)) (w_or (t_cmp op_lt r_ltD (d_len g.b.len (a_cons (d_var 1) a_nil)) d_int (by rfl)) (w_or (t_cmp (op_neX (hr).units) r_neD (dx_ix (d_var 1) d_int) d_str (by rfl)) (w_or (t_cmp (op_ninX (hu65 hr)) r_ninD (dx_ix (d_var 1) d_int) d_str (by rfl)) (w_or (t_cmp (op_neX (hr).units) r_neD (dx_ix (d_var 1) d_int) d_str (by rfl)) (w_or (t_cmp (op_neX (hr).units) r_neD (dx_ix (d_var 1) d_neg) d_str (by rfl)) (w_or1 (t_cmp op_ge r_geD (d_intC g.b.int (a_cons (dx_ix (d_var 1) d_int) a_nil)) (d_len g.b.len (a_cons (dx_ix (d_var 0) d_int) a_nil)) (by rfl)))))))))) (ds_one (ds_ret d_non)) ds_nil) (ds_cons (ds_setLc (own := [("_law_part", 4)]) rfl hN (i_list (d_call G__law_split (hr.mono (by omega)) passL (a_cons (dx_sl (d_var 1) (o_some d_int) (o_some d_neg)) a_nil) (len_cons len_nil))) (blkOk_by rfl) rfl (fun _ _ _ _ _ => g_name hN) (fun _ _ _ _ _ => ts_nil) (fun _ _ _ _ _ => d_call Gs (hr.mono (by omega)) passL (a_cons (d_var 0) (a_cons (d_var 4) (a_cons (d_op op_sub r_subD (d_var 2) d_int) a_nil))) (len_cons (len_cons (len_cons len_nil))))) (ds_one (ds_ret (d_if (t_w (w_and (t_cmp (op_ninX (hu65 hr)) r_ninD d_non (d_var 3) (by rfl)) (w_and1 (t_cmp (op_eqX (hr).units) r_eqD (d_len g.b.len (a_cons (d_var 3) a_nil)) (dx_ix (dx_ix (d_var 0) d_int) (d_intC g.b.int (a_cons (dx_ix (d_var 1) d_int) a_nil))) (by rfl))))) (d_op op_addD r_addD (d_tup (a_cons (d_intC g.b.int (a_cons (dx_ix (d_var 1) d_int) a_nil)) a_nil)) (d_tupC g.b.tuple (a_cons (d_var 3) a_nil))) d_non)))))
theorem b__law_alike {P : Program} {w : World} {K : PySem.W.Frag} {mg : Str → Option Value} {base : Heap} {C : Ctx} (g : Glob P w K mg base C)  {m : Nat} {F : DF} (Gs : DFn P w K mg base C (L2.CX P w) (2 + 1 * m) "_law_alike" 2 F) {cdv : Value} {f : Addr} {A : Around} {outer : List Env} {s : Shared} {H : Hp} {E : XK} (hr : Room (2 + 1 * m) (cxD P w K mg base ["_law_found", "_law_due", "_law_k"] "_law_alike" s__law_alike f cdv A outer s H E).A) :
    DSs (cxD P w K mg base ["_law_found", "_law_due", "_law_k"] "_law_alike" s__law_alike f cdv A outer s H E) C (wE E) (defBody s__law_alike) (B__law_alike F) := by
  have hN := sc__law_alike.nd
  exact ds_cons (ds_if (t_tru (d_isi2 g.b.isinstance rfl g.b.tuple bt_tuple rfl g.b.list bt_list (d_var 1))) (ds_cons (ds_if (t_w (w_or (t_not (t_tru (d_isi2 g.b.isinstance rfl g.b.tuple bt_tuple rfl g.b.list bt_list (d_var 0)))) (w_or1 (t_cmp (op_neX (hr).units) r_neD (d_isi g.b.isinstance rfl g.b.list bt_list (d_var 0)) (d_isi g.b.isinstance rfl g.b.list bt_list (d_var 1)) (by rfl))))) (ds_one (ds_ret d_bl)) ds_nil) (ds_cons (ds_if (t_cmp (op_neX (hr).units) r_neD (d_len g.b.len (a_cons (d_var 0) a_nil)) (d_len g.b.len (a_cons (d_var 1) a_nil)) (by rfl)) (ds_one (ds_ret d_bl)) ds_nil) (ds_one (ds_ret (d_cmp (op_eqX (hr).units) r_eqD (d_comp (own := [("_law_k", 2)]) rfl hN (i_rg1 g.b.range (a_cons (d_len g.b.len (a_cons (d_var 1) a_nil)) a_nil)) (blkOk_by rfl) (fun _ _ _ _ _ => g_name hN) (fun _ _ _ _ _ => ts_one (t_not (t_tru (d_call Gs (hr.mono (by omega)) passL (a_cons (dx_ix (d_var 0) (d_var 2)) (a_cons (dx_ix (d_var 1) (d_var 2)) a_nil)) (len_cons (len_cons len_nil)))))) (fun _ _ _ _ _ => d_var 2)) (d_lst a_nil) (by rfl)))))) ds_nil) (ds_cons (ds_if (t_w (w_or (t_cmp op_isN r_isND (d_var 1) d_non (by rfl)) (w_or1 (t_tru (d_isi g.b.isinstance rfl g.b.str bt_str (d_var 1)))))) (ds_one (ds_ret (d_and (d_cmp (op_eqX (hr).units) r_eqD (d_var 0) (d_var 1) (by rfl)) (d_one (d_cmp (op_eqX (hr).units) r_eqD (d_isi g.b.isinstance rfl g.b.str bt_str (d_var 0)) (d_isi g.b.isinstance rfl g.b.str bt_str (d_var 1)) (by rfl)))))) ds_nil) (ds_one (ds_ret (d_and (d_isi g.b.isinstance rfl g.b.int bt_int (d_var 0)) (d_and (d_cmp (op_eqX (hr).units) r_eqD (d_isi g.b.isinstance rfl g.b.bool bt_bool (d_var 0)) (d_isi g.b.isinstance rfl g.b.bool bt_bool (d_var 1)) (by rfl)) (d_one (d_cmp (op_eqX (hr).units) r_eqD (d_var 0) (d_var 1) (by rfl))))))))
theorem b__law_terms_right {P : Program} {w : World} {K : PySem.W.Frag} {mg : Str → Option Value} {base : Heap} {C : Ctx} (g : Glob P w K mg base C) (G__law_all_terms : DFn P w K mg base C (L2.CX P w) 23 "_law_all_terms" 2 F__law_all_terms) (G__law_pick : DFn P w K mg base C (L2.CX P w) 3 "_law_pick" 2 F__law_pick) (G__law_taken : DFn P w K mg base C (L2.CX P w) 2 "_law_taken" 2 F__law_taken) (G__law_told_term : DFn P w K mg base C (L2.CX P w) 25 "_law_told_term" 2 F__law_told_term) (G__law_term : DFn P w K mg base C (L2.CX P w) 23 "_law_term" 3 (F__law_term 20)) (G__law_alike : DFn P w K mg base C (L2.CX P w) 22 "_law_alike" 2 (F__law_alike 20))  {cdv : Value} {f : Addr} {A : Around} {outer : List Env} {s : Shared} {H : Hp} {E : XK} (hr : Room 25 (cxD P w K mg base ["_law_row", "_law_machine_here", "_law_terms", "_law_text_here", "_law_k", "_law_some", "_law_value", "_law_due", "_law_got"] "_law_terms_right" s__law_terms_right f cdv A outer s H E).A) :
    DSs (cxD P w K mg base ["_law_row", "_law_machine_here", "_law_terms", "_law_text_here", "_law_k", "_law_some", "_law_value", "_law_due", "_law_got"] "_law_terms_right" s__law_terms_right f cdv A outer s H E) C (wE E) (defBody s__law_terms_right) (B__law_terms_right) := by
  have hN := sc__law_terms_right.nd
  exact ds_cons (ds_set hN (d_call G__law_all_terms (hr.mono (by decide)) passL (a_cons (d_var 1) (a_cons d_int a_nil)) (len_cons (len_cons len_nil)))) (ds_cons (ds_set hN (d_call G__law_pick (hr.mono (by decide)) passL (a_cons (d_var 0) (a_cons (d_sorted (hu2 hr) g.b.sorted (a_cons (d_listC rfl g.b.list (a_cons (d_var 2) a_nil)) a_nil)) a_nil)) (len_cons (len_cons len_nil)))) (ds_cons (ds_set hN (d_call G__law_taken (hr.mono (by decide)) passL (a_cons (d_var 0) (a_cons (d_len g.b.len (a_cons (d_var 3) a_nil)) a_nil)) (len_cons (len_cons len_nil)))) (ds_cons (ds_set hN (d_lst (a_cons (d_var 3) (a_cons (d_op op_addD r_addD (dx_sl (d_var 3) o_none (o_some (d_var 4))) (dx_sl (d_var 3) (o_some (d_op op_addD r_addD (d_var 4) d_int)) o_none)) (a_cons (d_op op_addD r_addD (d_op op_addD r_addD (dx_sl (d_var 3) o_none (o_some (d_var 4))) (d_call G__law_pick (hr.mono (by decide)) passL (a_cons (d_var 0) (a_cons (d_lst (a_cons d_str (a_cons d_str (a_cons d_str (a_cons d_str (a_cons d_str a_nil)))))) a_nil)) (len_cons (len_cons len_nil)))) (dx_sl (d_var 3) (o_some (d_var 4)) o_none)) a_nil))))) (ds_cons (ds_for ownsD rfl (i_list (d_op op_addD r_addD (d_var 5) (d_lst (a_cons (d_op op_addD r_addD (d_op op_addD r_addD d_str (d_var 3)) d_str) (a_cons d_str (a_cons d_non (a_cons (d_op op_addD r_addD d_str (d_var 3)) (a_cons d_int a_nil)))))))) (g_name hN) (ds_cons (ds_set hN (d_if (t_tru (d_isi g.b.isinstance rfl g.b.str bt_str (d_var 6))) (d_call G__law_term (hr.mono (by decide)) passL (a_cons (d_var 1) (a_cons (d_var 6) (a_cons d_int a_nil))) (len_cons (len_cons (len_cons len_nil)))) d_non)) (ds_cons (ds_set hN (d_call G__law_told_term (hr.mono (by decide)) passL (a_cons (d_var 1) (a_cons (d_var 6) a_nil)) (len_cons (len_cons len_nil)))) (ds_one (ds_if (t_not (t_tru (d_call G__law_alike (hr.mono (by decide)) passL (a_cons (d_var 8) (a_cons (d_if (t_cmp op_isN r_isND (d_var 7) d_non (by rfl)) d_str (d_var 7)) a_nil)) (len_cons (len_cons len_nil))))) (ds_one (ds_ret d_bl)) ds_nil))))) (ds_one (ds_ret d_bl))))))
theorem b__law_line_text {P : Program} {w : World} {K : PySem.W.Frag} {mg : Str → Option Value} {base : Heap} {C : Ctx} (g : Glob P w K mg base C)   {cdv : Value} {f : Addr} {A : Around} {outer : List Env} {s : Shared} {H : Hp} {E : XK} (hr : Room 1 (cxD P w K mg base ["_law_line_here", "_law_cell", "_law_function", "_law_sources", "_law_one"] "_law_line_text" s__law_line_text f cdv A outer s H E).A) :
    DSs (cxD P w K mg base ["_law_line_here", "_law_cell", "_law_function", "_law_sources", "_law_one"] "_law_line_text" s__law_line_text f cdv A outer s H E) C (wE E) (defBody s__law_line_text) (B__law_line_text) := by
  have hN := sc__law_line_text.nd
  exact ds_cons (ds_asg (g_tup rfl (gs_cons (g_name hN) (gs_cons (g_name hN) (gs_cons (g_name hN) gs_nil)))) (d_var 0)) (ds_cons (ds_if (t_cmp op_isN r_isND (d_var 2) d_non (by rfl)) (ds_one (ds_ret (d_op op_addD r_addD (d_op op_addD r_addD (d_op op_addD r_addD d_str (d_strC g.b.str (a_cons (d_var 1) a_nil))) d_str) (d_strC g.b.str (a_cons (dx_ix (d_var 3) d_int) a_nil))))) ds_nil) (ds_one (ds_ret (d_op op_addD r_addD (d_op op_addD r_addD (d_op op_addD r_addD (d_op op_addD r_addD (d_op op_addD r_addD (d_op op_addD r_addD d_str (d_strC g.b.str (a_cons (d_var 1) a_nil))) d_str) (d_strC g.b.str (a_cons (d_var 2) a_nil))) d_str) (d_join d_str (d_comp (own := [("_law_one", 4)]) rfl hN (i_tup (d_var 3)) (blkOk_by rfl) (fun _ _ _ _ _ => g_name hN) (fun _ _ _ _ _ => ts_nil) (fun _ _ _ _ _ => d_op op_addD r_addD d_str (d_strC g.b.str (a_cons (d_var 4) a_nil)))))) d_str))))
theorem b_is_line {P : Program} {w : World} {K : PySem.W.Frag} {mg : Str → Option Value} {base : Heap} {C : Ctx} (g : Glob P w K mg base C) (G_is_number : DFn P w K mg base C (L2.CX P w) 2 "is_number" 3 F_is_number)  {c Pt : Addr} (tf : TabF mg base C "is_line" "<genexpr>" c Pt) {f : Addr} {A : Around} {outer : List Env} {s : Shared} {H : Hp} {E : XK} (hr : Room 3 (cxD P w K mg base ["machine", "value", "cells", "functions", "cell", "function", "sources", "source"] "is_line" s_is_line f (.ref c) A outer s H E).A) :
    DSs (cxD P w K mg base ["machine", "value", "cells", "functions", "cell", "function", "sources", "source"] "is_line" s_is_line f (.ref c) A outer s H E) C (wE E) (defBody s_is_line) (B_is_line) := by
  have hN := sc_is_line.nd
  exact ds_cons (ds_asg (g_tup rfl (gs_cons (g_name hN) (gs_cons (g_name hN) gs_nil))) (d_var 0)) (ds_cons (ds_if (t_w (w_or (t_not (t_tru (d_isi g.b.isinstance rfl g.b.tuple bt_tuple (d_var 1)))) (w_or (t_cmp (op_neX (hr).units) r_neD (d_len g.b.len (a_cons (d_var 1) a_nil)) d_int (by rfl)) (w_or1 (t_not (t_tru (d_call G_is_number (hr.mono (by decide)) passL (a_cons (dx_ix (d_var 1) d_int) (a_cons d_int (a_cons (d_op op_sub r_subD (d_var 2) d_int) a_nil))) (len_cons (len_cons (len_cons len_nil)))))))))) (ds_one (ds_ret d_bl)) ds_nil) (ds_cons (ds_asg (g_tup rfl (gs_cons (g_name hN) (gs_cons (g_name hN) (gs_cons (g_name hN) gs_nil)))) (d_var 1)) (ds_cons (ds_if (t_w (w_or (t_not (t_tru (d_isi g.b.isinstance rfl g.b.tuple bt_tuple (d_var 6)))) (w_or1 (t_not (t_tru (d_allG (own := [7]) g.b.all (hr.mono (by decide : 2 + 1 ≤ _)) tf.TB rfl tf.mem tf.uni (genS_by rfl) (i_tup (d_var 6)) (fun _ _ _ _ => g_name hN) (fun _ _ _ _ => d_call G_is_number ((room_gen (hr.mono (by decide : 2 + 1 ≤ _))).mono (by decide)) passL (a_cons (d_var 7) (a_cons d_int (a_cons (d_op op_sub r_subD (d_var 2) d_int) a_nil))) (len_cons (len_cons (len_cons len_nil)))))))))) (ds_one (ds_ret d_bl)) ds_nil) (ds_cons (ds_if (t_cmp op_isN r_isND (d_var 5) d_non (by rfl)) (ds_one (ds_ret (d_and (d_cmp (op_eqX (hr).units) r_eqD (d_len g.b.len (a_cons (d_var 6) a_nil)) d_int (by rfl)) (d_one (d_cmp (op_neX (hr).units) r_neD (dx_ix (d_var 6) d_int) (d_var 4) (by rfl)))))) ds_nil) (ds_one (ds_ret (d_and (d_call G_is_number (hr.mono (by decide)) passL (a_cons (d_var 5) (a_cons d_int (a_cons (d_op op_sub r_subD (d_len g.b.len (a_cons (d_var 3) a_nil)) d_int) a_nil))) (len_cons (len_cons (len_cons len_nil)))) (d_one (d_cmp (op_eqX (hr).units) r_eqD (d_len g.b.len (a_cons (d_var 6) a_nil)) (dx_ix (d_var 3) (d_var 5)) (by rfl))))))))))
theorem b_need_program {P : Program} {w : World} {K : PySem.W.Frag} {mg : Str → Option Value} {base : Heap} {C : Ctx} (g : Glob P w K mg base C) (G_is_line : DFn P w K mg base C (L2.CX P w) 4 "is_line" 2 F_is_line)  {cdv : Value} {f : Addr} {A : Around} {outer : List Env} {s : Shared} {H : Hp} {E : XK} (hr : Room 4 (cxD P w K mg base ["machine", "value", "index", "line"] "need_program" s_need_program f cdv A outer s H E).A) :
    DSs (cxD P w K mg base ["machine", "value", "index", "line"] "need_program" s_need_program f cdv A outer s H E) C (wE E) (defBody s_need_program) (B_need_program) := by
  have hN := sc_need_program.nd
  exact ds_cons (ds_if (t_w (w_or (t_not (t_tru (d_isi g.b.isinstance rfl g.b.tuple bt_tuple (d_var 1)))) (w_or1 (t_cmp op_gt r_gtD (d_len g.b.len (a_cons (d_var 1) a_nil)) (d_gI g.c_MOST_LINES) (by rfl))))) (ds_one ds_never) ds_nil) (ds_one (ds_for ownsD rfl (i_enumT g.b.enumerate (a_cons (d_var 1) a_nil)) (g_tup rfl (gs_cons (g_name hN) (gs_cons (g_name hN) gs_nil))) (ds_one (ds_if (t_not (t_tru (d_call G_is_line (hr.mono (by decide)) passL (a_cons (d_var 0) (a_cons (d_var 3) a_nil)) (len_cons (len_cons len_nil))))) (ds_one ds_never) ds_nil))))
theorem b_need_many {P : Program} {w : World} {K : PySem.W.Frag} {mg : Str → Option Value} {base : Heap} {C : Ctx} (g : Glob P w K mg base C) (G_is_number : DFn P w K mg base C (L2.CX P w) 2 "is_number" 3 F_is_number)  {cdv : Value} {f : Addr} {A : Around} {outer : List Env} {s : Shared} {H : Hp} {E : XK} (hr : Room 2 (cxD P w K mg base ["value"] "need_many" s_need_many f cdv A outer s H E).A) :
    DSs (cxD P w K mg base ["value"] "need_many" s_need_many f cdv A outer s H E) C (wE E) (defBody s_need_many) (B_need_many) := by
  have hN := sc_need_many.nd
  exact ds_one (ds_if (t_not (t_tru (d_call G_is_number (hr.mono (by decide)) passL (a_cons (d_var 0) (a_cons d_int (a_cons (d_gI g.c_MOST_LOST) a_nil))) (len_cons (len_cons (len_cons len_nil)))))) (ds_one ds_never) ds_nil)
theorem b_are_losses {P : Program} {w : World} {K : PySem.W.Frag} {mg : Str → Option Value} {base : Heap} {C : Ctx} (g : Glob P w K mg base C) (G_is_number : DFn P w K mg base C (L2.CX P w) 2 "is_number" 3 F_is_number)  {c Pt : Addr} (tf : TabF mg base C "are_losses" "<genexpr>" c Pt) {f : Addr} {A : Around} {outer : List Env} {s : Shared} {H : Hp} {E : XK} (hr : Room 3 (cxD P w K mg base ["program", "many", "value", "index", "one", "other", "place"] "are_losses" s_are_losses f (.ref c) A outer s H E).A) :
    DSs (cxD P w K mg base ["program", "many", "value", "index", "one", "other", "place"] "are_losses" s_are_losses f (.ref c) A outer s H E) C (wE E) (defBody s_are_losses) (B_are_losses) := by
  have hN := sc_are_losses.nd
  exact ds_cons (ds_if (t_w (w_or (t_not (t_tru (d_isi g.b.isinstance rfl g.b.tuple bt_tuple (d_var 2)))) (w_or1 (t_not (t_tru (d_allG (own := [3]) g.b.all (hr.mono (by decide : 2 + 1 ≤ _)) tf.TB rfl tf.mem tf.uni (genS_by rfl) (i_tup (d_var 2)) (fun _ _ _ _ => g_name hN) (fun _ _ _ _ => d_call G_is_number ((room_gen (hr.mono (by decide : 2 + 1 ≤ _))).mono (by decide)) passL (a_cons (d_var 3) (a_cons d_int (a_cons (d_op op_sub r_subD (d_len g.b.len (a_cons (d_var 0) a_nil)) d_int) a_nil))) (len_cons (len_cons (len_cons len_nil)))))))))) (ds_one (ds_ret d_bl)) ds_nil) (ds_cons (ds_if (t_not (t_tru (d_allG (own := [4,5]) g.b.all (hr.mono (by decide : 2 + 1 ≤ _)) tf.TB rfl tf.mem tf.uni (genS_by rfl) (i_zipT g.b.zip (a_cons (d_var 2) (a_cons (dx_sl (d_var 2) (o_some d_int) o_none) a_nil))) (fun _ _ _ _ => g_tup rfl (gs_cons (g_name hN) (gs_cons (g_name hN) gs_nil))) (fun _ _ _ _ => d_cmp op_lt r_ltD (d_var 4) (d_var 5) (by rfl))))) (ds_one (ds_ret d_bl)) ds_nil) (ds_one (ds_ret (d_not (d_anyG (own := [6]) g.b.any (hr.mono (by decide : 2 + 1 ≤ _)) tf.TB rfl tf.mem tf.uni (genS_by rfl) (i_rg1 g.b.range (a_cons (d_op op_sub r_subD (d_len g.b.len (a_cons (d_var 2) a_nil)) (d_var 1)) a_nil)) (fun _ _ _ _ => g_name hN) (fun _ _ _ _ => d_cmp (op_eqX ((room_gen (hr.mono (by decide : 2 + 1 ≤ _)))).units) r_eqD (d_op op_sub r_subD (dx_ix (d_var 2) (d_op op_addD r_addD (d_var 6) (d_var 1))) (dx_ix (d_var 2) (d_var 6))) (d_var 1) (by rfl)))))))
theorem b_first_terms {P : Program} {w : World} {K : PySem.W.Frag} {mg : Str → Option Value} {base : Heap} {C : Ctx} (g : Glob P w K mg base C)   {cdv : Value} {f : Addr} {A : Around} {outer : List Env} {s : Shared} {H : Hp} {E : XK} (hr : Room 1 (cxD P w K mg base ["machine"] "first_terms" s_first_terms f cdv A outer s H E).A) :
    DSs (cxD P w K mg base ["machine"] "first_terms" s_first_terms f cdv A outer s H E) C (wE E) (defBody s_first_terms) (B_first_terms) := by
  have hN := sc_first_terms.nd
  exact ds_one (ds_ret (d_tupRg rfl g.b.tuple g.b.range (dx_ix (d_var 0) d_int)))
theorem b_depth {P : Program} {w : World} {K : PySem.W.Frag} {mg : Str → Option Value} {base : Heap} {C : Ctx} (g : Glob P w K mg base C)  {m : Nat} {F : DF} (Gs : DFn P w K mg base C (L2.CX P w) (2 + 1 * m) "depth" 1 F) {cdv : Value} {f : Addr} {A : Around} {outer : List Env} {s : Shared} {H : Hp} {E : XK} (hr : Room (2 + 1 * m) (cxD P w K mg base ["term", "part"] "depth" s_depth f cdv A outer s H E).A) :
    DSs (cxD P w K mg base ["term", "part"] "depth" s_depth f cdv A outer s H E) C (wE E) (defBody s_depth) (B_depth F) := by
  have hN := sc_depth.nd
  exact ds_one (ds_ret (d_if (t_tru (d_isi g.b.isinstance rfl g.b.tuple bt_tuple (d_var 0))) (d_op op_addD r_addD d_int (d_maxC rfl g.b.max (a_cons (d_comp (own := [("part", 1)]) rfl hN (i_tup (dx_sl (d_var 0) (o_some d_int) o_none)) (blkOk_by rfl) (fun _ _ _ _ _ => g_name hN) (fun _ _ _ _ _ => ts_nil) (fun _ _ _ _ _ => d_call Gs (hr.mono (by omega)) passL (a_cons (d_var 1) a_nil) (len_cons len_nil))) a_nil))) d_int))
theorem b_done {P : Program} {w : World} {K : PySem.W.Frag} {mg : Str → Option Value} {base : Heap} {C : Ctx} (g : Glob P w K mg base C) (G_depth : DFn P w K mg base C (L2.CX P w) 22 "depth" 1 (F_depth 20))  {cdv : Value} {f : Addr} {A : Around} {outer : List Env} {s : Shared} {H : Hp} {E : XK} (hr : Room 22 (cxD P w K mg base ["held", "line", "cell", "function", "sources", "term", "source"] "done" s_done f cdv A outer s H E).A) :
    DSs (cxD P w K mg base ["held", "line", "cell", "function", "sources", "term", "source"] "done" s_done f cdv A outer s H E) C (wE E) (defBody s_done) (B_done) := by
  have hN := sc_done.nd
  exact ds_cons (ds_asg (g_tup rfl (gs_cons (g_name hN) (gs_cons (g_name hN) (gs_cons (g_name hN) gs_nil)))) (d_var 1)) (ds_cons (ds_if (t_cmp op_isN r_isND (d_var 3) d_non (by rfl)) (ds_one (ds_set hN (dx_ix (d_var 0) (dx_ix (d_var 4) d_int)))) (ds_cons (ds_set hN (d_op op_addD r_addD (d_tup (a_cons (d_var 3) a_nil)) (d_tupC g.b.tuple (a_cons (d_comp (own := [("source", 6)]) rfl hN (i_tup (d_var 4)) (blkOk_by rfl) (fun _ _ _ _ _ => g_name hN) (fun _ _ _ _ _ => ts_nil) (fun _ _ _ _ _ => dx_ix (d_var 0) (d_var 6))) a_nil)))) (ds_one (ds_if (t_cmp op_gt r_gtD (d_call G_depth (hr.mono (by decide)) passL (a_cons (d_var 5) a_nil) (len_cons len_nil)) (d_gI g.c_MOST_DEEP) (by rfl)) (ds_one ds_never) ds_nil)))) (ds_one (ds_ret (d_op op_addD r_addD (d_op op_addD r_addD (dx_sl (d_var 0) o_none (o_some (d_var 2))) (d_tup (a_cons (d_var 5) a_nil))) (dx_sl (d_var 0) (o_some (d_op op_addD r_addD (d_var 2) d_int)) o_none)))))
theorem b_line_text {P : Program} {w : World} {K : PySem.W.Frag} {mg : Str → Option Value} {base : Heap} {C : Ctx} (g : Glob P w K mg base C)   {cdv : Value} {f : Addr} {A : Around} {outer : List Env} {s : Shared} {H : Hp} {E : XK} (hr : Room 1 (cxD P w K mg base ["line", "cell", "function", "sources", "source"] "line_text" s_line_text f cdv A outer s H E).A) :
    DSs (cxD P w K mg base ["line", "cell", "function", "sources", "source"] "line_text" s_line_text f cdv A outer s H E) C (wE E) (defBody s_line_text) (B_line_text) := by
  have hN := sc_line_text.nd
  exact ds_cons (ds_asg (g_tup rfl (gs_cons (g_name hN) (gs_cons (g_name hN) (gs_cons (g_name hN) gs_nil)))) (d_var 0)) (ds_cons (ds_if (t_cmp op_isN r_isND (d_var 2) d_non (by rfl)) (ds_one (ds_ret (d_op op_addD r_addD (d_op op_addD r_addD (d_op op_addD r_addD d_str (d_strC g.b.str (a_cons (d_var 1) a_nil))) d_str) (d_strC g.b.str (a_cons (dx_ix (d_var 3) d_int) a_nil))))) ds_nil) (ds_one (ds_ret (d_op op_addD r_addD (d_op op_addD r_addD (d_op op_addD r_addD (d_op op_addD r_addD (d_op op_addD r_addD (d_op op_addD r_addD d_str (d_strC g.b.str (a_cons (d_var 1) a_nil))) d_str) (d_strC g.b.str (a_cons (d_var 2) a_nil))) d_str) (d_join d_str (d_comp (own := [("source", 4)]) rfl hN (i_tup (d_var 3)) (blkOk_by rfl) (fun _ _ _ _ _ => g_name hN) (fun _ _ _ _ _ => ts_nil) (fun _ _ _ _ _ => d_op op_addD r_addD d_str (d_strC g.b.str (a_cons (d_var 4) a_nil)))))) d_str))))
theorem b_text_of {P : Program} {w : World} {K : PySem.W.Frag} {mg : Str → Option Value} {base : Heap} {C : Ctx} (g : Glob P w K mg base C)  {m : Nat} {F : DF} (Gs : DFn P w K mg base C (L2.CX P w) (2 + 1 * m) "text_of" 1 F) {cdv : Value} {f : Addr} {A : Around} {outer : List Env} {s : Shared} {H : Hp} {E : XK} (hr : Room (2 + 1 * m) (cxD P w K mg base ["term", "part"] "text_of" s_text_of f cdv A outer s H E).A) :
    DSs (cxD P w K mg base ["term", "part"] "text_of" s_text_of f cdv A outer s H E) C (wE E) (defBody s_text_of) (B_text_of F) := by
  have hN := sc_text_of.nd
  exact ds_cons (ds_if (t_not (t_tru (d_isi g.b.isinstance rfl g.b.tuple bt_tuple (d_var 0)))) (ds_one (ds_ret (d_op op_addD r_addD d_str (d_strC g.b.str (a_cons (d_var 0) a_nil))))) ds_nil) (ds_one (ds_ret (d_op op_addD r_addD (d_op op_addD r_addD (d_op op_addD r_addD (d_op op_addD r_addD d_str (d_strC g.b.str (a_cons (dx_ix (d_var 0) d_int) a_nil))) d_str) (d_join d_str (d_comp (own := [("part", 1)]) rfl hN (i_tup (dx_sl (d_var 0) (o_some d_int) o_none)) (blkOk_by rfl) (fun _ _ _ _ _ => g_name hN) (fun _ _ _ _ _ => ts_nil) (fun _ _ _ _ _ => d_call Gs (hr.mono (by omega)) passL (a_cons (d_var 1) a_nil) (len_cons len_nil))))) d_str)))
theorem b_told {P : Program} {w : World} {K : PySem.W.Frag} {mg : Str → Option Value} {base : Heap} {C : Ctx} (g : Glob P w K mg base C) (G_need_machine : DFn P w K mg base C (L2.CX P w) 4 "need_machine" 1 F_need_machine) (G_need_program : DFn P w K mg base C (L2.CX P w) 5 "need_program" 2 F_need_program) (G_need_many : DFn P w K mg base C (L2.CX P w) 3 "need_many" 1 F_need_many) (G_are_losses : DFn P w K mg base C (L2.CX P w) 4 "are_losses" 3 F_are_losses) (G_first_terms : DFn P w K mg base C (L2.CX P w) 2 "first_terms" 1 F_first_terms) (G_done : DFn P w K mg base C (L2.CX P w) 23 "done" 2 F_done) (G_line_text : DFn P w K mg base C (L2.CX P w) 2 "line_text" 1 F_line_text) (G_text_of : DFn P w K mg base C (L2.CX P w) 22 "text_of" 1 (F_text_of 20))  {cdv : Value} {f : Addr} {A : Around} {outer : List Env} {s : Shared} {H : Hp} {E : XK} (hr : Room 23 (cxD P w K mg base ["machine", "program", "many", "losses", "held", "rows", "number", "line", "is_lost", "word", "term"] "told" s_told f cdv A outer s H E).A) :
    DSs (cxD P w K mg base ["machine", "program", "many", "losses", "held", "rows", "number", "line", "is_lost", "word", "term"] "told" s_told f cdv A outer s H E) C (wE E) (defBody s_told) (B_told) := by
  have hN := sc_told.nd
  exact ds_cons (ds_expr (d_call G_need_machine (hr.mono (by decide)) passL (a_cons (d_var 0) a_nil) (len_cons len_nil))) (ds_cons (ds_expr (d_call G_need_program (hr.mono (by decide)) passL (a_cons (d_var 0) (a_cons (d_var 1) a_nil)) (len_cons (len_cons len_nil)))) (ds_cons (ds_expr (d_call G_need_many (hr.mono (by decide)) passL (a_cons (d_var 2) a_nil) (len_cons len_nil))) (ds_cons (ds_if (t_not (t_tru (d_call G_are_losses (hr.mono (by decide)) passL (a_cons (d_var 1) (a_cons (d_var 2) (a_cons (d_var 3) a_nil))) (len_cons (len_cons (len_cons len_nil)))))) (ds_one (ds_raiseL g.err rfl takesD)) ds_nil) (ds_cons (ds_par2 rfl hN (a_cons (d_call G_first_terms (hr.mono (by decide)) passL (a_cons (d_var 0) a_nil) (len_cons len_nil)) (a_cons (d_mut a_nil) a_nil))) (ds_cons (ds_for ownsD rfl (i_enumT g.b.enumerate (a_cons (d_var 1) a_nil)) (g_tup rfl (gs_cons (g_name hN) (gs_cons (g_name hN) gs_nil))) (ds_cons (ds_set hN (d_cmp (op_inX (hu65 hr)) r_inD (d_var 6) (d_var 3) (by rfl))) (ds_cons (ds_if (t_not (t_tru (d_var 8))) (ds_one (ds_set hN (d_call G_done (hr.mono (by decide)) passL (a_cons (d_var 4) (a_cons (d_var 7) a_nil)) (len_cons (len_cons len_nil))))) ds_nil) (ds_cons (ds_set hN (d_if (t_tru (d_var 8)) d_str d_str)) (ds_one (ds_append (d_var 5) (d_op op_addD r_addD (d_op op_addD r_addD (d_op op_addD r_addD (d_op op_addD r_addD (d_op op_addD r_addD (d_strC g.b.str (a_cons (d_var 6) a_nil)) (d_var 9)) (d_call G_line_text (hr.mono (by decide)) passL (a_cons (d_var 7) a_nil) (len_cons len_nil))) d_str) (d_join d_str (d_comp (own := [("term", 10)]) rfl hN (i_tup (d_var 4)) (blkOk_by rfl) (fun _ _ _ _ _ => g_name hN) (fun _ _ _ _ _ => ts_nil) (fun _ _ _ _ _ => d_call G_text_of (hr.mono (by decide)) passL (a_cons (d_var 10) a_nil) (len_cons len_nil))))) d_str))))))) (ds_one (ds_ret (d_join d_str (d_var 5)))))))))
theorem b__law_rows {P : Program} {w : World} {K : PySem.W.Frag} {mg : Str → Option Value} {base : Heap} {C : Ctx} (g : Glob P w K mg base C) (G__law_done : DFn P w K mg base C (L2.CX P w) 2 "_law_done" 2 F__law_done) (G__law_line_text : DFn P w K mg base C (L2.CX P w) 2 "_law_line_text" 1 F__law_line_text) (G__law_text : DFn P w K mg base C (L2.CX P w) 22 "_law_text" 1 (F__law_text 20))  {cdv : Value} {f : Addr} {A : Around} {outer : List Env} {s : Shared} {H : Hp} {E : XK} (hr : Room 22 (cxD P w K mg base ["_law_machine_here", "_law_program_here", "_law_losses", "_law_held", "_law_found", "_law_k", "_law_words", "_law_term_here"] "_law_rows" s__law_rows f cdv A outer s H E).A) :
    DSs (cxD P w K mg base ["_law_machine_here", "_law_program_here", "_law_losses", "_law_held", "_law_found", "_law_k", "_law_words", "_law_term_here"] "_law_rows" s__law_rows f cdv A outer s H E) C (wE E) (defBody s__law_rows) (B__law_rows) := by
  have hN := sc__law_rows.nd
  exact ds_cons (ds_par2 rfl hN (a_cons (d_tupRg rfl g.b.tuple g.b.range (dx_ix (d_var 0) d_int)) (a_cons d_str a_nil))) (ds_cons (ds_for ownsD rfl (i_rg1 g.b.range (a_cons (d_len g.b.len (a_cons (d_var 1) a_nil)) a_nil)) (g_name hN) (ds_cons (ds_set hN (d_if (t_cmp (op_inX (hu65 hr)) r_inD (d_var 5) (d_var 2) (by rfl)) (d_var 3) (d_call G__law_done (hr.mono (by decide)) passL (a_cons (d_var 3) (a_cons (dx_ix (d_var 1) (d_var 5)) a_nil)) (len_cons (len_cons len_nil))))) (ds_cons (ds_set hN (d_if (t_cmp (op_inX (hu65 hr)) r_inD (d_var 5) (d_var 2) (by rfl)) d_str d_str)) (ds_one (ds_set hN (d_op op_addD r_addD (d_op op_addD r_addD (d_op op_addD r_addD (d_op op_addD r_addD (d_op op_addD r_addD (d_op op_addD r_addD (d_var 4) (d_strC g.b.str (a_cons (d_var 5) a_nil))) (d_var 6)) (d_call G__law_line_text (hr.mono (by decide)) passL (a_cons (dx_ix (d_var 1) (d_var 5)) a_nil) (len_cons len_nil))) d_str) (d_join d_str (d_comp (own := [("_law_term_here", 7)]) rfl hN (i_tup (d_var 3)) (blkOk_by rfl) (fun _ _ _ _ _ => g_name hN) (fun _ _ _ _ _ => ts_nil) (fun _ _ _ _ _ => d_call G__law_text (hr.mono (by decide)) passL (a_cons (d_var 7) a_nil) (len_cons len_nil))))) d_str)))))) (ds_one (ds_ret (d_var 4))))
theorem b_written {P : Program} {w : World} {K : PySem.W.Frag} {mg : Str → Option Value} {base : Heap} {C : Ctx} (g : Glob P w K mg base C) (G_need_machine : DFn P w K mg base C (L2.CX P w) 4 "need_machine" 1 F_need_machine) (G_need_program : DFn P w K mg base C (L2.CX P w) 5 "need_program" 2 F_need_program) (G_line_text : DFn P w K mg base C (L2.CX P w) 2 "line_text" 1 F_line_text)  {cdv : Value} {f : Addr} {A : Around} {outer : List Env} {s : Shared} {H : Hp} {E : XK} (hr : Room 5 (cxD P w K mg base ["machine", "program", "lines", "reads", "line"] "written" s_written f cdv A outer s H E).A) :
    DSs (cxD P w K mg base ["machine", "program", "lines", "reads", "line"] "written" s_written f cdv A outer s H E) C (wE E) (defBody s_written) (B_written) := by
  have hN := sc_written.nd
  exact ds_cons (ds_expr (d_call G_need_machine (hr.mono (by decide)) passL (a_cons (d_var 0) a_nil) (len_cons len_nil))) (ds_cons (ds_expr (d_call G_need_program (hr.mono (by decide)) passL (a_cons (d_var 0) (a_cons (d_var 1) a_nil)) (len_cons (len_cons len_nil)))) (ds_cons (ds_set hN (d_lst (a_cons (d_op op_addD r_addD d_str (d_strC g.b.str (a_cons (dx_ix (d_var 0) d_int) a_nil))) (a_cons (d_op op_addD r_addD d_str (d_join d_str (d_comp (own := [("reads", 3)]) rfl hN (i_tup (dx_ix (d_var 0) d_int)) (blkOk_by rfl) (fun _ _ _ _ _ => g_name hN) (fun _ _ _ _ _ => ts_nil) (fun _ _ _ _ _ => d_strC g.b.str (a_cons (d_var 3) a_nil))))) a_nil)))) (ds_one (ds_ret (d_join d_str (d_comp (own := [("line", 4)]) rfl hN (i_list (d_op op_addD r_addD (d_var 2) (d_comp (own := [("line", 4)]) rfl hN (i_tup (d_var 1)) (blkOk_by rfl) (fun _ _ _ _ _ => g_name hN) (fun _ _ _ _ _ => ts_nil) (fun _ _ _ _ _ => d_call G_line_text (hr.mono (by decide)) passL (a_cons (d_var 4) a_nil) (len_cons len_nil))))) (blkOk_by rfl) (fun _ _ _ _ _ => g_name hN) (fun _ _ _ _ _ => ts_nil) (fun _ _ _ _ _ => d_op op_addD r_addD (d_var 4) d_str)))))))
theorem b_lines_of {P : Program} {w : World} {K : PySem.W.Frag} {mg : Str → Option Value} {base : Heap} {C : Ctx} (g : Glob P w K mg base C)   {cdv : Value} {f : Addr} {A : Around} {outer : List Env} {s : Shared} {H : Hp} {E : XK} (hr : Room 2 (cxD P w K mg base ["text"] "lines_of" s_lines_of f cdv A outer s H E).A) :
    DSs (cxD P w K mg base ["text"] "lines_of" s_lines_of f cdv A outer s H E) C (wE E) (defBody s_lines_of) (B_lines_of) := by
  have hN := sc_lines_of.nd
  exact ds_cons (ds_if (t_w (w_or (t_not (t_tru (d_isi g.b.isinstance rfl g.b.str bt_str (d_var 0)))) (w_or1 (t_not (t_tru (d_var 0)))))) (ds_one (ds_raiseT g.err rfl takesD (hr.mono (by decide)) d_int)) ds_nil) (ds_cons (ds_if (t_cmp (op_neX (hr).units) r_neD (dx_ix (d_var 0) d_neg) d_str (by rfl)) (ds_one (ds_raiseT g.err rfl takesD (hr.mono (by decide)) (d_count (d_var 0) d_str))) ds_nil) (ds_one (ds_ret (d_split (dx_sl (d_var 0) o_none (o_some d_neg)) d_str))))
theorem b_cell_of {P : Program} {w : World} {K : PySem.W.Frag} {mg : Str → Option Value} {base : Heap} {C : Ctx} (g : Glob P w K mg base C) (G_figure : DFn P w K mg base C (L2.CX P w) 2 "figure" 3 F_figure)  {cdv : Value} {f : Addr} {A : Around} {outer : List Env} {s : Shared} {H : Hp} {E : XK} (hr : Room 2 (cxD P w K mg base ["word"] "cell_of" s_cell_of f cdv A outer s H E).A) :
    DSs (cxD P w K mg base ["word"] "cell_of" s_cell_of f cdv A outer s H E) C (wE E) (defBody s_cell_of) (B_cell_of) := by
  have hN := sc_cell_of.nd
  exact ds_one (ds_ret (d_if (t_cmp (op_eqX (hr).units) r_eqD (dx_sl (d_var 0) o_none (o_some d_int)) d_str (by rfl)) (d_call G_figure (hr.mono (by decide)) passL (a_cons (dx_sl (d_var 0) (o_some d_int) o_none) (a_cons d_int (a_cons (d_op op_sub r_subD (d_gI g.c_MOST_CELLS) d_int) a_nil))) (len_cons (len_cons (len_cons len_nil)))) d_non))
theorem b_line_of {P : Program} {w : World} {K : PySem.W.Frag} {mg : Str → Option Value} {base : Heap} {C : Ctx} (g : Glob P w K mg base C) (G_cell_of : DFn P w K mg base C (L2.CX P w) 3 "cell_of" 1 F_cell_of) (G_figure : DFn P w K mg base C (L2.CX P w) 2 "figure" 3 F_figure) (G_is_line : DFn P w K mg base C (L2.CX P w) 4 "is_line" 2 F_is_line)  {cdv : Value} {f : Addr} {A : Around} {outer : List Env} {s : Shared} {H : Hp} {E : XK} (hr : Room 4 (cxD P w K mg base ["machine", "text", "parts", "cell", "right", "line", "function", "word"] "line_of" s_line_of f cdv A outer s H E).A) :
    DSs (cxD P w K mg base ["machine", "text", "parts", "cell", "right", "line", "function", "word"] "line_of" s_line_of f cdv A outer s H E) C (wE E) (defBody s_line_of) (B_line_of) := by
  have hN := sc_line_of.nd
  exact ds_cons (ds_set hN (d_split (d_var 1) d_str)) (ds_cons (ds_if (t_w (w_or (t_cmp (op_neX (hr).units) r_neD (d_len g.b.len (a_cons (d_var 2) a_nil)) d_int (by rfl)) (w_or1 (t_cmp op_isN r_isND (d_call G_cell_of (hr.mono (by decide)) passL (a_cons (dx_ix (d_var 2) d_int) a_nil) (len_cons len_nil)) d_non (by rfl))))) (ds_one (ds_ret d_non)) ds_nil) (ds_cons (ds_par2 rfl hN (a_cons (d_call G_cell_of (hr.mono (by decide)) passL (a_cons (dx_ix (d_var 2) d_int) a_nil) (len_cons len_nil)) (a_cons (dx_ix (d_var 2) d_int) a_nil))) (ds_cons (ds_if (t_cmp op_notN r_notND (d_call G_cell_of (hr.mono (by decide)) passL (a_cons (d_var 4) a_nil) (len_cons len_nil)) d_non (by rfl)) (ds_one (ds_set hN (d_tup (a_cons (d_var 3) (a_cons d_non (a_cons (d_tup (a_cons (d_call G_cell_of (hr.mono (by decide)) passL (a_cons (d_var 4) a_nil) (len_cons len_nil)) a_nil)) a_nil)))))) (ds_cons (ds_set hN (d_call G_figure (hr.mono (by decide)) passL (a_cons (dx_sl (d_var 4) (o_some d_int) (o_some d_int)) (a_cons d_int (a_cons (d_op op_sub r_subD (d_gI g.c_MOST_FUNCTIONS) d_int) a_nil))) (len_cons (len_cons (len_cons len_nil))))) (ds_cons (ds_if (t_w (w_or (t_cmp (op_neX (hr).units) r_neD (dx_sl (d_var 4) o_none (o_some d_int)) d_str (by rfl)) (w_or (t_cmp op_isN r_isND (d_var 6) d_non (by rfl)) (w_or (t_cmp (op_neX (hr).units) r_neD (dx_sl (d_var 4) (o_some d_int) (o_some d_int)) d_str (by rfl)) (w_or1 (t_cmp (op_neX (hr).units) r_neD (dx_sl (d_var 4) (o_some d_neg) o_none) d_str (by rfl))))))) (ds_one (ds_ret d_non)) ds_nil) (ds_one (ds_set hN (d_tup (a_cons (d_var 3) (a_cons (d_var 6) (a_cons (d_tupC g.b.tuple (a_cons (d_comp (own := [("word", 7)]) rfl hN (i_list (d_split (dx_sl (d_var 4) (o_some d_int) (o_some d_neg)) d_str)) (blkOk_by rfl) (fun _ _ _ _ _ => g_name hN) (fun _ _ _ _ _ => ts_nil) (fun _ _ _ _ _ => d_call G_cell_of (hr.mono (by decide)) passL (a_cons (d_var 7) a_nil) (len_cons len_nil))) a_nil)) a_nil))))))))) (ds_one (ds_ret (d_if (t_tru (d_call G_is_line (hr.mono (by decide)) passL (a_cons (d_var 0) (a_cons (d_var 5) a_nil)) (len_cons (len_cons len_nil)))) (d_var 5) d_non))))))
theorem b_read_program {P : Program} {w : World} {K : PySem.W.Frag} {mg : Str → Option Value} {base : Heap} {C : Ctx} (g : Glob P w K mg base C) (G_lines_of : DFn P w K mg base C (L2.CX P w) 3 "lines_of" 1 F_lines_of) (G_figure : DFn P w K mg base C (L2.CX P w) 2 "figure" 3 F_figure) (G_line_of : DFn P w K mg base C (L2.CX P w) 5 "line_of" 2 F_line_of)  {cdv : Value} {f : Addr} {A : Around} {outer : List Env} {s : Shared} {H : Hp} {E : XK} (hr : Room 5 (cxD P w K mg base ["text", "lines", "words", "cells", "reads", "word", "machine", "program", "at", "line"] "read_program" s_read_program f cdv A outer s H E).A) :
    DSs (cxD P w K mg base ["text", "lines", "words", "cells", "reads", "word", "machine", "program", "at", "line"] "read_program" s_read_program f cdv A outer s H E) C (wE E) (defBody s_read_program) (B_read_program) := by
  have hN := sc_read_program.nd
  exact ds_cons (ds_setX hN (x_call G_lines_of (hr.mono (by decide)) takesD (a_cons (d_var 0) a_nil) (len_cons len_nil))) (ds_cons (ds_set hN (d_split (dx_ix (d_var 1) d_int) d_str)) (ds_cons (ds_set hN (d_if (t_w (w_and (t_cmp (op_eqX (hr).units) r_eqD (d_len g.b.len (a_cons (d_var 2) a_nil)) d_int (by rfl)) (w_and1 (t_cmp (op_eqX (hr).units) r_eqD (dx_ix (d_var 2) d_int) d_str (by rfl))))) (d_call G_figure (hr.mono (by decide)) passL (a_cons (dx_ix (d_var 2) d_int) (a_cons d_int (a_cons (d_gI g.c_MOST_CELLS) a_nil))) (len_cons (len_cons (len_cons len_nil)))) d_non)) (ds_cons (ds_if (t_cmp op_isN r_isND (d_var 3) d_non (by rfl)) (ds_one (ds_raiseT g.err rfl takesD (hr.mono (by decide)) d_int)) ds_nil) (ds_cons (ds_set hN (d_if (t_cmp op_gt r_gtD (d_len g.b.len (a_cons (d_var 1) a_nil)) d_int (by rfl)) (d_split (dx_ix (d_var 1) d_int) d_str) (d_lst a_nil))) (ds_cons (ds_set hN (d_tupC g.b.tuple (a_cons (d_comp (own := [("word", 5)]) rfl hN (i_list (dx_sl (d_var 2) (o_some d_int) o_none)) (blkOk_by rfl) (fun _ _ _ _ _ => g_name hN) (fun _ _ _ _ _ => ts_nil) (fun _ _ _ _ _ => d_call G_figure (hr.mono (by decide)) passL (a_cons (d_var 5) (a_cons d_int (a_cons (d_gI g.c_MOST_READ) a_nil))) (len_cons (len_cons (len_cons len_nil))))) a_nil))) (ds_cons (ds_if (t_w (w_or (t_cmp (op_neX (hr).units) r_neD (dx_sl (d_var 2) o_none (o_some d_int)) (d_lst (a_cons d_str a_nil)) (by rfl)) (w_or (t_not (t_chain op_le r_leD op_le r_leD d_int (d_len g.b.len (a_cons (d_var 4) a_nil)) (d_gI g.c_MOST_FUNCTIONS))) (w_or1 (t_cmp (op_inX (hu65 hr)) r_inD d_non (d_var 4) (by rfl)))))) (ds_one (ds_raiseT g.err rfl takesD (hr.mono (by decide)) d_int)) ds_nil) (ds_cons (ds_par2 rfl hN (a_cons (d_tup (a_cons (d_var 3) (a_cons (d_var 4) a_nil))) (a_cons (d_mut a_nil) a_nil))) (ds_cons (ds_for ownsD rfl (i_rg2 g.b.range (a_cons d_int (a_cons (d_len g.b.len (a_cons (d_var 1) a_nil)) a_nil))) (g_name hN) (ds_cons (ds_set hN (d_call G_line_of (hr.mono (by decide)) passL (a_cons (d_var 6) (a_cons (dx_ix (d_var 1) (d_var 8)) a_nil)) (len_cons (len_cons len_nil)))) (ds_cons (ds_if (t_w (w_or (t_cmp op_isN r_isND (d_var 9) d_non (by rfl)) (w_or1 (t_cmp (op_eqX (hr).units) r_eqD (d_len g.b.len (a_cons (d_var 7) a_nil)) (d_gI g.c_MOST_LINES) (by rfl))))) (ds_one (ds_raiseT g.err rfl takesD (hr.mono (by decide)) (d_var 8))) ds_nil) (ds_one (ds_append (d_var 7) (d_var 9)))))) (ds_one (ds_ret (d_tup (a_cons (d_var 6) (a_cons (d_tupC g.b.tuple (a_cons (d_var 7) a_nil)) a_nil)))))))))))))
theorem b__law_lines {P : Program} {w : World} {K : PySem.W.Frag} {mg : Str → Option Value} {base : Heap} {C : Ctx} (g : Glob P w K mg base C)   {cdv : Value} {f : Addr} {A : Around} {outer : List Env} {s : Shared} {H : Hp} {E : XK} (hr : Room 1 (cxD P w K mg base ["_law_text_here", "_law_lines_here"] "_law_lines" s__law_lines f cdv A outer s H E).A) :
    DSs (cxD P w K mg base ["_law_text_here", "_law_lines_here"] "_law_lines" s__law_lines f cdv A outer s H E) C (wE E) (defBody s__law_lines) (B__law_lines) := by
  have hN := sc__law_lines.nd
  exact ds_cons (ds_if (t_w (w_or (t_not (t_tru (d_isi g.b.isinstance rfl g.b.str bt_str (d_var 0)))) (w_or1 (t_cmp (op_eqX (hr).units) r_eqD (d_var 0) d_str (by rfl))))) (ds_one (ds_ret d_int)) ds_nil) (ds_cons (ds_set hN (d_split (d_var 0) d_str)) (ds_one (ds_ret (d_if (t_cmp (op_eqX (hr).units) r_eqD (dx_ix (d_var 1) d_neg) d_str (by rfl)) (dx_sl (d_var 1) o_none (o_some d_neg)) (d_op op_sub r_subD (d_len g.b.len (a_cons (d_var 1) a_nil)) d_int)))))
theorem b__law_line_of {P : Program} {w : World} {K : PySem.W.Frag} {mg : Str → Option Value} {base : Heap} {C : Ctx} (g : Glob P w K mg base C) (G__law_term : DFn P w K mg base C (L2.CX P w) 23 "_law_term" 3 (F__law_term 20))  {cdv : Value} {f : Addr} {A : Around} {outer : List Env} {s : Shared} {H : Hp} {E : XK} (hr : Room 23 (cxD P w K mg base ["_law_machine_here", "_law_text_here", "_law_parts", "_law_cell", "_law_other", "_law_term_here"] "_law_line_of" s__law_line_of f cdv A outer s H E).A) :
    DSs (cxD P w K mg base ["_law_machine_here", "_law_text_here", "_law_parts", "_law_cell", "_law_other", "_law_term_here"] "_law_line_of" s__law_line_of f cdv A outer s H E) C (wE E) (defBody s__law_line_of) (B__law_line_of) := by
  have hN := sc__law_line_of.nd
  exact ds_cons (ds_set hN (d_split (d_var 1) d_str)) (ds_cons (ds_set hN (d_call G__law_term (hr.mono (by decide)) passL (a_cons (d_var 0) (a_cons (dx_ix (d_var 2) d_int) (a_cons d_int a_nil))) (len_cons (len_cons (len_cons len_nil))))) (ds_cons (ds_if (t_w (w_or (t_cmp (op_neX (hr).units) r_neD (d_len g.b.len (a_cons (d_var 2) a_nil)) d_int (by rfl)) (w_or1 (t_cmp op_isN r_isND (d_var 3) d_non (by rfl))))) (ds_one (ds_ret d_non)) ds_nil) (ds_cons (ds_if (t_cmp op_notN r_notND (d_call G__law_term (hr.mono (by decide)) passL (a_cons (d_var 0) (a_cons (dx_ix (d_var 2) d_int) (a_cons d_int a_nil))) (len_cons (len_cons (len_cons len_nil)))) d_non (by rfl)) (ds_cons (ds_set hN (d_call G__law_term (hr.mono (by decide)) passL (a_cons (d_var 0) (a_cons (dx_ix (d_var 2) d_int) (a_cons d_int a_nil))) (len_cons (len_cons (len_cons len_nil))))) (ds_one (ds_ret (d_if (t_cmp (op_neX (hr).units) r_neD (d_var 4) (d_var 3) (by rfl)) (d_tup (a_cons (d_var 3) (a_cons d_non (a_cons (d_tup (a_cons (d_var 4) a_nil)) a_nil)))) d_non)))) ds_nil) (ds_cons (ds_set hN (d_call G__law_term (hr.mono (by decide)) passL (a_cons (d_var 0) (a_cons (dx_ix (d_var 2) d_int) (a_cons d_int a_nil))) (len_cons (len_cons (len_cons len_nil))))) (ds_one (ds_ret (d_if (t_cmp op_notN r_notND (d_var 5) d_non (by rfl)) (d_tup (a_cons (d_var 3) (a_cons (dx_ix (d_var 5) d_int) (a_cons (dx_sl (d_var 5) (o_some d_int) o_none) a_nil)))) d_non)))))))
theorem b__law_read {P : Program} {w : World} {K : PySem.W.Frag} {mg : Str → Option Value} {base : Heap} {C : Ctx} (g : Glob P w K mg base C) (G__law_lines : DFn P w K mg base C (L2.CX P w) 2 "_law_lines" 1 F__law_lines) (G__law_line_of : DFn P w K mg base C (L2.CX P w) 24 "_law_line_of" 2 F__law_line_of)  {cdv : Value} {f : Addr} {A : Around} {outer : List Env} {s : Shared} {H : Hp} {E : XK} (hr : Room 24 (cxD P w K mg base ["_law_text_here", "_law_lines_here", "_law_words", "_law_word", "_law_machine_here", "_law_program_here", "_law_at", "_law_line_here"] "_law_read" s__law_read f cdv A outer s H E).A) :
    DSs (cxD P w K mg base ["_law_text_here", "_law_lines_here", "_law_words", "_law_word", "_law_machine_here", "_law_program_here", "_law_at", "_law_line_here"] "_law_read" s__law_read f cdv A outer s H E) C (wE E) (defBody s__law_read) (B__law_read) := by
  have hN := sc__law_read.nd
  exact ds_cons (ds_set hN (d_call G__law_lines (hr.mono (by decide)) passL (a_cons (d_var 0) a_nil) (len_cons len_nil))) (ds_cons (ds_if (t_tru (d_isi g.b.isinstance rfl g.b.int bt_int (d_var 1))) (ds_one (ds_ret (d_var 1))) ds_nil) (ds_cons (ds_if (t_cmp (op_ninX (hu65 hr)) r_ninD (dx_ix (d_var 1) d_int) (d_lst (a_cons d_str (a_cons d_str (a_cons d_str (a_cons d_str a_nil))))) (by rfl)) (ds_one (ds_ret d_int)) ds_nil) (ds_cons (ds_set hN (d_if (t_cmp op_gt r_gtD (d_len g.b.len (a_cons (d_var 1) a_nil)) d_int (by rfl)) (d_split (dx_ix (d_var 1) d_int) d_str) (d_lst a_nil))) (ds_cons (ds_if (t_w (w_or (t_cmp (op_neX (hr).units) r_neD (dx_sl (d_var 2) o_none (o_some d_int)) (d_lst (a_cons d_str a_nil)) (by rfl)) (w_or (t_not (t_chain op_le r_leD op_le r_leD d_int (d_len g.b.len (a_cons (d_var 2) a_nil)) d_int)) (w_or1 (t_cmp (op_neX (hr).units) r_neD (d_comp (own := [("_law_word", 3)]) rfl hN (i_list (dx_sl (d_var 2) (o_some d_int) o_none)) (blkOk_by rfl) (fun _ _ _ _ _ => g_name hN) (fun _ _ _ _ _ => ts_one (t_cmp (op_ninX (hu65 hr)) r_ninD (d_var 3) (d_lst (a_cons d_str (a_cons d_str a_nil))) (by rfl))) (fun _ _ _ _ _ => d_var 3)) (d_lst a_nil) (by rfl)))))) (ds_one (ds_ret d_int)) ds_nil) (ds_cons (ds_par2 rfl hN (a_cons (d_tup (a_cons (d_intC g.b.int (a_cons (dx_ix (dx_ix (d_var 1) d_int) d_neg) a_nil)) (a_cons (d_tupC g.b.tuple (a_cons (d_comp (own := [("_law_word", 3)]) rfl hN (i_list (dx_sl (d_var 2) (o_some d_int) o_none)) (blkOk_by rfl) (fun _ _ _ _ _ => g_name hN) (fun _ _ _ _ _ => ts_nil) (fun _ _ _ _ _ => d_intC g.b.int (a_cons (d_var 3) a_nil))) a_nil)) a_nil))) (a_cons (d_mut a_nil) a_nil))) (ds_cons (ds_for ownsD rfl (i_rg2 g.b.range (a_cons d_int (a_cons (d_len g.b.len (a_cons (d_var 1) a_nil)) a_nil))) (g_name hN) (ds_cons (ds_set hN (d_call G__law_line_of (hr.mono (by decide)) passL (a_cons (d_var 4) (a_cons (dx_ix (d_var 1) (d_var 6)) a_nil)) (len_cons (len_cons len_nil)))) (ds_cons (ds_if (t_w (w_or (t_cmp op_isN r_isND (d_var 7) d_non (by rfl)) (w_or1 (t_cmp (op_eqX (hr).units) r_eqD (d_len g.b.len (a_cons (d_var 5) a_nil)) d_int (by rfl))))) (ds_one (ds_ret (d_var 6))) ds_nil) (ds_one (ds_append (d_var 5) (d_var 7)))))) (ds_one (ds_ret (d_tup (a_cons (d_var 4) (a_cons (d_tupC g.b.tuple (a_cons (d_var 5) a_nil)) a_nil)))))))))))
theorem b_is_term {P : Program} {w : World} {K : PySem.W.Frag} {mg : Str → Option Value} {base : Heap} {C : Ctx} (g : Glob P w K mg base C) (G_is_number : DFn P w K mg base C (L2.CX P w) 2 "is_number" 3 F_is_number) {m : Nat} {F : DF} (Gs : DFn P w K mg base C (L2.CX P w) (3 + 2 * m) "is_term" 3 F) {c Pt : Addr} (tf : TabF mg base C "is_term" "<genexpr>" c Pt) {f : Addr} {A : Around} {outer : List Env} {s : Shared} {H : Hp} {E : XK} (hr : Room (4 + 2 * m) (cxD P w K mg base ["machine", "value", "deep", "cells", "functions", "part"] "is_term" s_is_term f (.ref c) A outer s H E).A) :
    DSs (cxD P w K mg base ["machine", "value", "deep", "cells", "functions", "part"] "is_term" s_is_term f (.ref c) A outer s H E) C (wE E) (defBody s_is_term) (B_is_term F) := by
  have hN := sc_is_term.nd
  exact ds_cons (ds_asg (g_tup rfl (gs_cons (g_name hN) (gs_cons (g_name hN) gs_nil))) (d_var 0)) (ds_cons (ds_if (t_not (t_tru (d_isi g.b.isinstance rfl g.b.tuple bt_tuple (d_var 1)))) (ds_one (ds_ret (d_call G_is_number (hr.mono (by omega)) passL (a_cons (d_var 1) (a_cons d_int (a_cons (d_op op_sub r_subD (d_var 3) d_int) a_nil))) (len_cons (len_cons (len_cons len_nil)))))) ds_nil) (ds_cons (ds_if (t_w (w_or (t_cmp op_lt r_ltD (d_var 2) d_int (by rfl)) (w_or (t_not (t_tru (d_var 1))) (w_or1 (t_not (t_tru (d_call G_is_number (hr.mono (by omega)) passL (a_cons (dx_ix (d_var 1) d_int) (a_cons d_int (a_cons (d_op op_sub r_subD (d_len g.b.len (a_cons (d_var 4) a_nil)) d_int) a_nil))) (len_cons (len_cons (len_cons len_nil)))))))))) (ds_one (ds_ret d_bl)) ds_nil) (ds_cons (ds_if (t_cmp (op_neX (hr).units) r_neD (d_len g.b.len (a_cons (d_var 1) a_nil)) (d_op op_addD r_addD d_int (dx_ix (d_var 4) (dx_ix (d_var 1) d_int))) (by rfl)) (ds_one (ds_ret d_bl)) ds_nil) (ds_one (ds_ret (d_allG (own := [5]) g.b.all (hr.mono (by omega : (3 + 2 * m) + 1 ≤ (4 + 2 * m))) tf.TB rfl tf.mem tf.uni (genS_by rfl) (i_tup (dx_sl (d_var 1) (o_some d_int) o_none)) (fun _ _ _ _ => g_name hN) (fun _ _ _ _ => d_call Gs ((room_gen (hr.mono (by omega : (3 + 2 * m) + 1 ≤ (4 + 2 * m)))).mono (by omega)) passL (a_cons (d_var 0) (a_cons (d_var 5) (a_cons (d_op op_sub r_subD (d_var 2) d_int) a_nil))) (len_cons (len_cons (len_cons len_nil))))))))))
theorem b_is_wish {P : Program} {w : World} {K : PySem.W.Frag} {mg : Str → Option Value} {base : Heap} {C : Ctx} (g : Glob P w K mg base C) (G_is_term : DFn P w K mg base C (L2.CX P w) 43 "is_term" 3 (F_is_term 20)) (GD_is_term : DFnD P w K mg base C (L2.CX P w) 43 "is_term" 3 8 (F_is_term 20)) (G_is_number : DFn P w K mg base C (L2.CX P w) 2 "is_number" 3 F_is_number)  {cdv : Value} {f : Addr} {A : Around} {outer : List Env} {s : Shared} {H : Hp} {E : XK} (hr : Room 43 (cxD P w K mg base ["machine", "value"] "is_wish" s_is_wish f cdv A outer s H E).A) :
    DSs (cxD P w K mg base ["machine", "value"] "is_wish" s_is_wish f cdv A outer s H E) C (wE E) (defBody s_is_wish) (B_is_wish) := by
  have hN := sc_is_wish.nd
  exact ds_cons (ds_if (t_w (w_or (t_not (t_tru (d_isi g.b.isinstance rfl g.b.tuple bt_tuple (d_var 1)))) (w_or (t_cmp (op_neX (hr).units) r_neD (d_len g.b.len (a_cons (d_var 1) a_nil)) d_int (by rfl)) (w_or1 (t_not (t_tru (d_call G_is_number (hr.mono (by decide)) passL (a_cons (dx_ix (d_var 1) d_int) (a_cons d_int (a_cons (d_op op_sub r_subD (dx_ix (d_var 0) d_int) d_int) a_nil))) (len_cons (len_cons (len_cons len_nil)))))))))) (ds_one (ds_ret d_bl)) ds_nil) (ds_one (ds_ret (d_callD GD_is_term (hr.mono (by decide)) passL (a_cons (d_var 0) (a_cons (dx_ix (d_var 1) d_int) a_nil)) (len_suc (len_cons (len_cons len_nil))))))
theorem b_need_wishes {P : Program} {w : World} {K : PySem.W.Frag} {mg : Str → Option Value} {base : Heap} {C : Ctx} (g : Glob P w K mg base C) (G_is_wish : DFn P w K mg base C (L2.CX P w) 44 "is_wish" 2 F_is_wish)  {cdv : Value} {f : Addr} {A : Around} {outer : List Env} {s : Shared} {H : Hp} {E : XK} (hr : Room 44 (cxD P w K mg base ["machine", "value", "index", "wish"] "need_wishes" s_need_wishes f cdv A outer s H E).A) :
    DSs (cxD P w K mg base ["machine", "value", "index", "wish"] "need_wishes" s_need_wishes f cdv A outer s H E) C (wE E) (defBody s_need_wishes) (B_need_wishes) := by
  have hN := sc_need_wishes.nd
  exact ds_cons (ds_if (t_w (w_or (t_not (t_tru (d_isi g.b.isinstance rfl g.b.tuple bt_tuple (d_var 1)))) (w_or1 (t_not (t_tru (d_var 1)))))) (ds_one ds_never) ds_nil) (ds_one (ds_for ownsD rfl (i_enumT g.b.enumerate (a_cons (d_var 1) a_nil)) (g_tup rfl (gs_cons (g_name hN) (gs_cons (g_name hN) gs_nil))) (ds_one (ds_if (t_w (w_or (t_not (t_tru (d_call G_is_wish (hr.mono (by decide)) passL (a_cons (d_var 0) (a_cons (d_var 3) a_nil)) (len_cons (len_cons len_nil))))) (w_or1 (t_w (w_and (t_cmp op_gt r_gtD (d_var 2) d_int (by rfl)) (w_and1 (t_cmp op_ge r_geD (dx_ix (dx_ix (d_var 1) (d_op op_sub r_subD (d_var 2) d_int)) d_int) (dx_ix (d_var 3) d_int) (by rfl)))))))) (ds_one ds_never) ds_nil))))
theorem b_wishes_text {P : Program} {w : World} {K : PySem.W.Frag} {mg : Str → Option Value} {base : Heap} {C : Ctx} (g : Glob P w K mg base C) (G_need_machine : DFn P w K mg base C (L2.CX P w) 4 "need_machine" 1 F_need_machine) (G_need_wishes : DFn P w K mg base C (L2.CX P w) 45 "need_wishes" 2 F_need_wishes) (G_text_of : DFn P w K mg base C (L2.CX P w) 22 "text_of" 1 (F_text_of 20))  {cdv : Value} {f : Addr} {A : Around} {outer : List Env} {s : Shared} {H : Hp} {E : XK} (hr : Room 45 (cxD P w K mg base ["machine", "wishes", "cell", "term"] "wishes_text" s_wishes_text f cdv A outer s H E).A) :
    DSs (cxD P w K mg base ["machine", "wishes", "cell", "term"] "wishes_text" s_wishes_text f cdv A outer s H E) C (wE E) (defBody s_wishes_text) (B_wishes_text) := by
  have hN := sc_wishes_text.nd
  exact ds_cons (ds_expr (d_call G_need_machine (hr.mono (by decide)) passL (a_cons (d_var 0) a_nil) (len_cons len_nil))) (ds_cons (ds_expr (d_call G_need_wishes (hr.mono (by decide)) passL (a_cons (d_var 0) (a_cons (d_var 1) a_nil)) (len_cons (len_cons len_nil)))) (ds_one (ds_ret (d_join d_str (d_comp (own := [("cell", 2), ("term", 3)]) rfl hN (i_tup (d_var 1)) (blkOk_by rfl) (fun _ _ _ _ _ => g_tup rfl (gs_cons (g_name hN) (gs_cons (g_name hN) gs_nil))) (fun _ _ _ _ _ => ts_nil) (fun _ _ _ _ _ => d_op op_addD r_addD (d_op op_addD r_addD (d_op op_addD r_addD (d_op op_addD r_addD d_str (d_strC g.b.str (a_cons (d_var 2) a_nil))) d_str) (d_call G_text_of (hr.mono (by decide)) passL (a_cons (d_var 3) a_nil) (len_cons len_nil))) d_str))))))
theorem b_read_wishes {P : Program} {w : World} {K : PySem.W.Frag} {mg : Str → Option Value} {base : Heap} {C : Ctx} (g : Glob P w K mg base C) (G_need_machine : DFn P w K mg base C (L2.CX P w) 4 "need_machine" 1 F_need_machine) (G_lines_of : DFn P w K mg base C (L2.CX P w) 3 "lines_of" 1 F_lines_of) (G_cell_of : DFn P w K mg base C (L2.CX P w) 3 "cell_of" 1 F_cell_of) (G_term_at : DFn P w K mg base C (L2.CX P w) 23 "term_at" 4 (F_term_at 20))  {cdv : Value} {f : Addr} {A : Around} {outer : List Env} {s : Shared} {H : Hp} {E : XK} (hr : Room 23 (cxD P w K mg base ["machine", "text", "found", "at", "line", "parts", "cell", "term", "place"] "read_wishes" s_read_wishes f cdv A outer s H E).A) :
    DSs (cxD P w K mg base ["machine", "text", "found", "at", "line", "parts", "cell", "term", "place"] "read_wishes" s_read_wishes f cdv A outer s H E) C (wE E) (defBody s_read_wishes) (B_read_wishes) := by
  have hN := sc_read_wishes.nd
  exact ds_cons (ds_expr (d_call G_need_machine (hr.mono (by decide)) passL (a_cons (d_var 0) a_nil) (len_cons len_nil))) (ds_cons (ds_set hN (d_mut a_nil)) (ds_cons (ds_forEX ownsD rfl g.b.enumerate (x_call G_lines_of (hr.mono (by decide)) takesD (a_cons (d_var 1) a_nil) (len_cons len_nil)) (g_tup rfl (gs_cons (g_name hN) (gs_cons (g_name hN) gs_nil))) (ds_cons (ds_set hN (d_split (d_var 4) d_str)) (ds_cons (ds_set hN (d_call G_cell_of (hr.mono (by decide)) passL (a_cons (dx_ix (d_var 5) d_int) a_nil) (len_cons len_nil))) (ds_cons (ds_if (t_w (w_or (t_cmp (op_neX (hr).units) r_neD (d_len g.b.len (a_cons (d_var 5) a_nil)) d_int (by rfl)) (w_or (t_cmp op_isN r_isND (d_var 6) d_non (by rfl)) (w_or (t_cmp op_ge r_geD (d_var 6) (dx_ix (d_var 0) d_int) (by rfl)) (w_or1 (t_w (w_and (t_tru (d_var 2)) (w_and1 (t_cmp op_le r_leD (d_var 6) (dx_ix (dx_ix (d_var 2) d_neg) d_int) (by rfl)))))))))) (ds_one (ds_raiseT g.err rfl takesD (hr.mono (by decide)) (d_var 3))) ds_nil) (ds_cons (ds_asg (g_tup rfl (gs_cons (g_name hN) (gs_cons (g_name hN) gs_nil))) (d_call G_term_at (hr.mono (by decide)) passL (a_cons (d_var 0) (a_cons (dx_ix (d_var 5) d_int) (a_cons d_int (a_cons (d_gI g.c_MOST_DEEP) a_nil)))) (len_cons (len_cons (len_cons (len_cons len_nil)))))) (ds_cons (ds_if (t_w (w_or (t_cmp op_isN r_isND (d_var 7) d_non (by rfl)) (w_or1 (t_cmp (op_neX (hr).units) r_neD (d_var 8) (d_len g.b.len (a_cons (dx_ix (d_var 5) d_int) a_nil)) (by rfl))))) (ds_one (ds_raiseT g.err rfl takesD (hr.mono (by decide)) (d_var 3))) ds_nil) (ds_one (ds_append (d_var 2) (d_tup (a_cons (d_var 6) (a_cons (d_var 7) a_nil))))))))))) (ds_one (ds_ret (d_tupC g.b.tuple (a_cons (d_var 2) a_nil))))))
theorem b__law_read_wishes {P : Program} {w : World} {K : PySem.W.Frag} {mg : Str → Option Value} {base : Heap} {C : Ctx} (g : Glob P w K mg base C) (G__law_lines : DFn P w K mg base C (L2.CX P w) 2 "_law_lines" 1 F__law_lines) (G__law_term : DFn P w K mg base C (L2.CX P w) 23 "_law_term" 3 (F__law_term 20))  {cdv : Value} {f : Addr} {A : Around} {outer : List Env} {s : Shared} {H : Hp} {E : XK} (hr : Room 23 (cxD P w K mg base ["_law_machine_here", "_law_text_here", "_law_lines_here", "_law_found", "_law_at", "_law_parts", "_law_cell", "_law_term_here"] "_law_read_wishes" s__law_read_wishes f cdv A outer s H E).A) :
    DSs (cxD P w K mg base ["_law_machine_here", "_law_text_here", "_law_lines_here", "_law_found", "_law_at", "_law_parts", "_law_cell", "_law_term_here"] "_law_read_wishes" s__law_read_wishes f cdv A outer s H E) C (wE E) (defBody s__law_read_wishes) (B__law_read_wishes) := by
  have hN := sc__law_read_wishes.nd
  exact ds_cons (ds_par2 rfl hN (a_cons (d_call G__law_lines (hr.mono (by decide)) passL (a_cons (d_var 1) a_nil) (len_cons len_nil)) (a_cons (d_mut a_nil) a_nil))) (ds_cons (ds_if (t_tru (d_isi g.b.isinstance rfl g.b.int bt_int (d_var 2))) (ds_one (ds_ret (d_var 2))) ds_nil) (ds_cons (ds_for ownsD rfl (i_rg1 g.b.range (a_cons (d_len g.b.len (a_cons (d_var 2) a_nil)) a_nil)) (g_name hN) (ds_cons (ds_set hN (d_split (dx_ix (d_var 2) (d_var 4)) d_str)) (ds_cons (ds_set hN (d_call G__law_term (hr.mono (by decide)) passL (a_cons (d_var 0) (a_cons (dx_ix (d_var 5) d_int) (a_cons d_int a_nil))) (len_cons (len_cons (len_cons len_nil))))) (ds_cons (ds_set hN (d_if (t_cmp (op_eqX (hr).units) r_eqD (d_len g.b.len (a_cons (d_var 5) a_nil)) d_int (by rfl)) (d_call G__law_term (hr.mono (by decide)) passL (a_cons (d_var 0) (a_cons (dx_ix (d_var 5) d_int) (a_cons d_int a_nil))) (len_cons (len_cons (len_cons len_nil)))) d_non)) (ds_cons (ds_if (t_w (w_or (t_cmp op_isN r_isND (d_var 6) d_non (by rfl)) (w_or (t_cmp op_isN r_isND (d_var 7) d_non (by rfl)) (w_or1 (t_w (w_and (t_cmp (op_neX (hr).units) r_neD (d_var 3) (d_lst a_nil) (by rfl)) (w_and1 (t_cmp op_le r_leD (d_var 6) (dx_ix (dx_ix (d_var 3) d_neg) d_int) (by rfl))))))))) (ds_one (ds_ret (d_var 4))) ds_nil) (ds_one (ds_append (d_var 3) (d_tup (a_cons (d_var 6) (a_cons (d_var 7) a_nil)))))))))) (ds_one (ds_ret (d_tupC g.b.tuple (a_cons (d_var 3) a_nil))))))
theorem b__law_subsets {P : Program} {w : World} {K : PySem.W.Frag} {mg : Str → Option Value} {base : Heap} {C : Ctx} (g : Glob P w K mg base C)   {cdv : Value} {f : Addr} {A : Around} {outer : List Env} {s : Shared} {H : Hp} {E : XK} (hr : Room 1 (cxD P w K mg base ["_law_many", "_law_found", "_law_k", "_law_lot"] "_law_subsets" s__law_subsets f cdv A outer s H E).A) :
    DSs (cxD P w K mg base ["_law_many", "_law_found", "_law_k", "_law_lot"] "_law_subsets" s__law_subsets f cdv A outer s H E) C (wE E) (defBody s__law_subsets) (B__law_subsets) := by
  have hN := sc__law_subsets.nd
  exact ds_cons (ds_set hN (d_lst (a_cons (d_tup a_nil) a_nil))) (ds_cons (ds_for ownsD rfl (i_rg1 g.b.range (a_cons (d_var 0) a_nil)) (g_name hN) (ds_one (ds_set hN (d_op op_addD r_addD (d_var 1) (d_comp (own := [("_law_lot", 3)]) rfl hN (i_list (d_var 1)) (blkOk_by rfl) (fun _ _ _ _ _ => g_name hN) (fun _ _ _ _ _ => ts_nil) (fun _ _ _ _ _ => d_op op_addD r_addD (d_var 3) (d_tup (a_cons (d_var 2) a_nil)))))))) (ds_one (ds_ret (d_var 1))))
theorem b__law_near {P : Program} {w : World} {K : PySem.W.Frag} {mg : Str → Option Value} {base : Heap} {C : Ctx} (g : Glob P w K mg base C)   {cdv : Value} {f : Addr} {A : Around} {outer : List Env} {s : Shared} {H : Hp} {E : XK} (hr : Room 1 (cxD P w K mg base ["_law_losses", "_law_many", "_law_k"] "_law_near" s__law_near f cdv A outer s H E).A) :
    DSs (cxD P w K mg base ["_law_losses", "_law_many", "_law_k"] "_law_near" s__law_near f cdv A outer s H E) C (wE E) (defBody s__law_near) (B__law_near) := by
  have hN := sc__law_near.nd
  exact ds_one (ds_ret (d_cmp (op_eqX (hr).units) r_eqD (d_comp (own := [("_law_k", 2)]) rfl hN (i_rg1 g.b.range (a_cons (d_op op_sub r_subD (d_len g.b.len (a_cons (d_var 0) a_nil)) (d_var 1)) a_nil)) (blkOk_by rfl) (fun _ _ _ _ _ => g_name hN) (fun _ _ _ _ _ => ts_one (t_cmp (op_eqX (hr).units) r_eqD (d_op op_sub r_subD (dx_ix (d_var 0) (d_op op_addD r_addD (d_var 2) (d_var 1))) (dx_ix (d_var 0) (d_var 2))) (d_var 1) (by rfl))) (fun _ _ _ _ _ => d_var 2)) (d_lst a_nil) (by rfl)))
theorem b_law {P : Program} {w : World} {K : PySem.W.Frag} {mg : Str → Option Value} {base : Heap} {C : Ctx} (g : Glob P w K mg base C) (G__law_machine : DFn P w K mg base C (L2.CX P w) 3 "_law_machine" 1 F__law_machine) (G__law_program : DFn P w K mg base C (L2.CX P w) 5 "_law_program" 3 F__law_program) (G__law_wishes : DFn P w K mg base C (L2.CX P w) 4 "_law_wishes" 3 F__law_wishes) (G__law_pick : DFn P w K mg base C (L2.CX P w) 3 "_law_pick" 2 F__law_pick) (G__law_bent : DFn P w K mg base C (L2.CX P w) 4 "_law_bent" 3 F__law_bent) (G__law_terms_right : DFn P w K mg base C (L2.CX P w) 26 "_law_terms_right" 2 F__law_terms_right) (G__law_taken : DFn P w K mg base C (L2.CX P w) 2 "_law_taken" 2 F__law_taken) (G__law_alike : DFn P w K mg base C (L2.CX P w) 22 "_law_alike" 2 (F__law_alike 20)) (G__law_line_text : DFn P w K mg base C (L2.CX P w) 2 "_law_line_text" 1 F__law_line_text) (G__law_text : DFn P w K mg base C (L2.CX P w) 22 "_law_text" 1 (F__law_text 20)) (G_told : DFn P w K mg base C (L2.CX P w) 24 "told" 4 F_told) (G__law_rows : DFn P w K mg base C (L2.CX P w) 23 "_law_rows" 3 F__law_rows) (G_written : DFn P w K mg base C (L2.CX P w) 6 "written" 2 F_written) (G_read_program : DFn P w K mg base C (L2.CX P w) 6 "read_program" 1 F_read_program) (G__law_read : DFn P w K mg base C (L2.CX P w) 25 "_law_read" 1 F__law_read) (G_wishes_text : DFn P w K mg base C (L2.CX P w) 46 "wishes_text" 2 F_wishes_text) (G_read_wishes : DFn P w K mg base C (L2.CX P w) 24 "read_wishes" 2 F_read_wishes) (G__law_read_wishes : DFn P w K mg base C (L2.CX P w) 24 "_law_read_wishes" 2 F__law_read_wishes) (G__law_subsets : DFn P w K mg base C (L2.CX P w) 2 "_law_subsets" 1 F__law_subsets) (G__law_near : DFn P w K mg base C (L2.CX P w) 2 "_law_near" 2 F__law_near)  {c Pt : Addr} (tf : TabF mg base C "law" "<lambda>" c Pt) {f : Addr} {A : Around} {outer : List Env} {s : Shared} {H : Hp} {E : XK} (hr : Room 46 (cxD P w K mg base ["_law_script", "_law_row", "_law_machine_here", "_law_program_here", "_law_lines_here", "_law_one", "_law_line_here", "_law_text_here", "_law_more", "_law_turn", "_law_value", "_law_wishes_here", "_law_cell", "_law_term_here", "_law_many", "_law_losses", "_law_lot", "_law_bad"] "law" s_law f (.ref c) A outer s H E).A) :
    DSs (cxD P w K mg base ["_law_script", "_law_row", "_law_machine_here", "_law_program_here", "_law_lines_here", "_law_one", "_law_line_here", "_law_text_here", "_law_more", "_law_turn", "_law_value", "_law_wishes_here", "_law_cell", "_law_term_here", "_law_many", "_law_losses", "_law_lot", "_law_bad"] "law" s_law f (.ref c) A outer s H E) C (wE E) (defBody s_law) (B_law) := by
  have hN := sc_law.nd
  exact ds_cons (ds_set hN (d_mut (a_cons (d_var 0) (a_cons d_int (a_cons d_int (a_cons d_int a_nil)))))) (ds_cons (ds_set hN (d_call G__law_machine (hr.mono (by decide)) passL (a_cons (d_var 1) a_nil) (len_cons len_nil))) (ds_cons (ds_set hN (d_call G__law_program (hr.mono (by decide)) passL (a_cons (d_var 1) (a_cons (d_var 2) (a_cons d_int a_nil))) (len_cons (len_cons (len_cons len_nil))))) (ds_cons (ds_set hN (d_op op_addD r_addD (d_lst (a_cons (d_op op_addD r_addD d_str (d_strC g.b.str (a_cons (dx_ix (d_var 2) d_int) a_nil))) (a_cons (d_op op_addD r_addD d_str (d_join d_str (d_comp (own := [("_law_one", 5)]) rfl hN (i_tup (dx_ix (d_var 2) d_int)) (blkOk_by rfl) (fun _ _ _ _ _ => g_name hN) (fun _ _ _ _ _ => ts_nil) (fun _ _ _ _ _ => d_strC g.b.str (a_cons (d_var 5) a_nil))))) a_nil))) (d_comp (own := [("_law_line_here", 6)]) rfl hN (i_tup (d_var 3)) (blkOk_by rfl) (fun _ _ _ _ _ => g_name hN) (fun _ _ _ _ _ => ts_nil) (fun _ _ _ _ _ => d_call G__law_line_text (hr.mono (by decide)) passL (a_cons (d_var 6) a_nil) (len_cons len_nil))))) (ds_cons (ds_set hN (d_join d_str (d_comp (own := [("_law_line_here", 6)]) rfl hN (i_list (d_var 4)) (blkOk_by rfl) (fun _ _ _ _ _ => g_name hN) (fun _ _ _ _ _ => ts_nil) (fun _ _ _ _ _ => d_op op_addD r_addD (d_var 6) d_str)))) (ds_cons (ds_if (t_w (w_or (t_not (t_tru (d_call G__law_alike (hr.mono (by decide)) passL (a_cons (d_call G_written (hr.mono (by decide)) passL (a_cons (d_var 2) (a_cons (d_var 3) a_nil)) (len_cons (len_cons len_nil))) (a_cons (d_var 7) a_nil)) (len_cons (len_cons len_nil))))) (w_or1 (t_not (t_tru (d_call G__law_alike (hr.mono (by decide)) passL (a_cons (d_call G_read_program (hr.mono (by decide)) passL (a_cons (d_var 7) a_nil) (len_cons len_nil)) (a_cons (d_tup (a_cons (d_var 2) (a_cons (d_var 3) a_nil))) a_nil)) (len_cons (len_cons len_nil)))))))) (ds_one (ds_ret d_bl)) ds_nil) (ds_cons (ds_set hN (d_lst (a_cons d_str (a_cons d_str (a_cons d_str (a_cons d_str (a_cons d_str (a_cons d_str (a_cons d_str (a_cons d_str a_nil)))))))))) (ds_cons (ds_set hN (d_op op_addD r_addD (d_var 8) (d_lst (a_cons d_str (a_cons d_str (a_cons d_str (a_cons d_str (a_cons d_str (a_cons d_str (a_cons d_str a_nil)))))))))) (ds_cons (ds_for ownsD rfl (i_rg1 g.b.range (a_cons d_int a_nil)) (g_name hN) (ds_cons (ds_set hN (d_call G__law_bent (hr.mono (by decide)) passL (a_cons (d_var 1) (a_cons (d_var 4) (a_cons (d_var 8) a_nil))) (len_cons (len_cons (len_cons len_nil))))) (ds_one (ds_if (t_not (t_tru (d_call G__law_alike (hr.mono (by decide)) passL (a_cons (d_told g.told sc__law_told (fun _ _ _ => g.toldG ⟨rfl, rfl, rfl, rfl, rfl⟩) rfl (Or.inl rfl) tf.TB rfl tf.mem tf.uni (hr.mono (by decide : 44 + 2 ≤ _)) (LamX.lamS_by rfl) (fun _ _ _ _ _ _ _ hrl => x_call G_read_program (hrl.mono (by decide)) lam_takes (a_cons (d_var 10) a_nil) (len_cons len_nil))) (a_cons (d_call G__law_read (hr.mono (by decide)) passL (a_cons (d_var 10) a_nil) (len_cons len_nil)) a_nil)) (len_cons (len_cons len_nil))))) (ds_one (ds_ret d_bl)) ds_nil)))) (ds_cons (ds_if (t_not (t_tru (d_call G__law_terms_right (hr.mono (by decide)) passL (a_cons (d_var 1) (a_cons (d_var 2) a_nil)) (len_cons (len_cons len_nil))))) (ds_one (ds_ret d_bl)) ds_nil) (ds_cons (ds_set hN (d_call G__law_wishes (hr.mono (by decide)) passL (a_cons (d_var 1) (a_cons (d_var 2) (a_cons (d_var 3) a_nil))) (len_cons (len_cons (len_cons len_nil))))) (ds_cons (ds_setLc (own := [("_law_cell", 12), ("_law_term_here", 13)]) rfl hN (i_tup (d_var 11)) (blkOk_by rfl) rfl (fun _ _ _ _ _ => g_tup rfl (gs_cons (g_name hN) (gs_cons (g_name hN) gs_nil))) (fun _ _ _ _ _ => ts_nil) (fun _ _ _ _ _ => d_op op_addD r_addD (d_op op_addD r_addD (d_op op_addD r_addD d_str (d_strC g.b.str (a_cons (d_var 12) a_nil))) d_str) (d_call G__law_text (hr.mono (by decide)) passL (a_cons (d_var 13) a_nil) (len_cons len_nil)))) (ds_cons (ds_set hN (d_join d_str (d_comp (own := [("_law_line_here", 6)]) rfl hN (i_list (d_var 4)) (blkOk_by rfl) (fun _ _ _ _ _ => g_name hN) (fun _ _ _ _ _ => ts_nil) (fun _ _ _ _ _ => d_op op_addD r_addD (d_var 6) d_str)))) (ds_cons (ds_if (t_w (w_or (t_not (t_tru (d_call G__law_alike (hr.mono (by decide)) passL (a_cons (d_call G_wishes_text (hr.mono (by decide)) passL (a_cons (d_var 2) (a_cons (d_var 11) a_nil)) (len_cons (len_cons len_nil))) (a_cons (d_var 7) a_nil)) (len_cons (len_cons len_nil))))) (w_or1 (t_not (t_tru (d_call G__law_alike (hr.mono (by decide)) passL (a_cons (d_call G_read_wishes (hr.mono (by decide)) passL (a_cons (d_var 2) (a_cons (d_var 7) a_nil)) (len_cons (len_cons len_nil))) (a_cons (d_var 11) a_nil)) (len_cons (len_cons len_nil)))))))) (ds_one (ds_ret d_bl)) ds_nil) (ds_cons (ds_for ownsD rfl (i_rg1 g.b.range (a_cons d_int a_nil)) (g_name hN) (ds_cons (ds_set hN (d_call G__law_bent (hr.mono (by decide)) passL (a_cons (d_var 1) (a_cons (d_var 4) (a_cons (d_lst (a_cons d_str (a_cons d_str (a_cons d_str (a_cons d_str (a_cons d_str (a_cons d_str a_nil))))))) a_nil))) (len_cons (len_cons (len_cons len_nil))))) (ds_one (ds_if (t_not (t_tru (d_call G__law_alike (hr.mono (by decide)) passL (a_cons (d_told g.told sc__law_told (fun _ _ _ => g.toldG ⟨rfl, rfl, rfl, rfl, rfl⟩) rfl (Or.inl rfl) tf.TB rfl tf.mem tf.uni (hr.mono (by decide : 44 + 2 ≤ _)) (LamX.lamS_by rfl) (fun _ _ _ _ _ _ _ hrl => x_call G_read_wishes (hrl.mono (by decide)) lam_takes (a_cons (d_var 2) (a_cons (d_var 10) a_nil)) (len_cons (len_cons len_nil)))) (a_cons (d_call G__law_read_wishes (hr.mono (by decide)) passL (a_cons (d_var 2) (a_cons (d_var 10) a_nil)) (len_cons (len_cons len_nil))) a_nil)) (len_cons (len_cons len_nil))))) (ds_one (ds_ret d_bl)) ds_nil)))) (ds_cons (ds_set hN (d_op op_addD r_addD d_int (d_call G__law_taken (hr.mono (by decide)) passL (a_cons (d_var 1) (a_cons d_int a_nil)) (len_cons (len_cons len_nil))))) (ds_cons (ds_set hN (d_call G__law_pick (hr.mono (by decide)) passL (a_cons (d_var 1) (a_cons (d_comp (own := [("_law_lot", 16)]) rfl hN (i_list (d_call G__law_subsets (hr.mono (by decide)) passL (a_cons (d_len g.b.len (a_cons (d_var 3) a_nil)) a_nil) (len_cons len_nil))) (blkOk_by rfl) (fun _ _ _ _ _ => g_name hN) (fun _ _ _ _ _ => ts_one (t_tru (d_call G__law_near (hr.mono (by decide)) passL (a_cons (d_var 16) (a_cons (d_var 14) a_nil)) (len_cons (len_cons len_nil))))) (fun _ _ _ _ _ => d_var 16)) a_nil)) (len_cons (len_cons len_nil)))) (ds_cons (ds_if (t_not (t_tru (d_call G__law_alike (hr.mono (by decide)) passL (a_cons (d_call G_told (hr.mono (by decide)) passL (a_cons (d_var 2) (a_cons (d_var 3) (a_cons (d_var 14) (a_cons (d_var 15) a_nil)))) (len_cons (len_cons (len_cons (len_cons len_nil))))) (a_cons (d_call G__law_rows (hr.mono (by decide)) passL (a_cons (d_var 2) (a_cons (d_var 3) (a_cons (d_var 15) a_nil))) (len_cons (len_cons (len_cons len_nil)))) a_nil)) (len_cons (len_cons len_nil))))) (ds_one (ds_ret d_bl)) ds_nil) (ds_cons (ds_set hN (d_lst (a_cons d_non (a_cons (d_lst (a_cons d_int a_nil)) (a_cons (d_tup (a_cons (d_len g.b.len (a_cons (d_var 3) a_nil)) a_nil)) (a_cons (d_tup (a_cons d_int (a_cons d_int a_nil))) (a_cons (d_tup (a_cons d_bl a_nil)) (a_cons (d_tup (a_cons (d_op op_sub r_subD d_int d_int) a_nil)) a_nil)))))))) (ds_one (ds_ret (d_cmp (op_eqX (hr).units) r_eqD (d_comp (own := [("_law_value", 10)]) rfl hN (i_list (d_var 17)) (blkOk_by rfl) (fun _ _ _ _ _ => g_name hN) (fun _ _ _ _ _ => ts_one (t_cmp (op_neX (hr).units) r_neD (d_told g.told sc__law_told (fun _ _ _ => g.toldG ⟨rfl, rfl, rfl, rfl, rfl⟩) rfl (Or.inl rfl) tf.TB rfl tf.mem tf.uni (hr.mono (by decide : 44 + 2 ≤ _)) (LamX.lamS_by rfl) (fun _ _ _ _ _ _ _ hrl => x_call G_told (hrl.mono (by decide)) lam_takes (a_cons (d_var 2) (a_cons (d_var 3) (a_cons (d_var 14) (a_cons (d_var 10) a_nil)))) (len_cons (len_cons (len_cons (len_cons len_nil)))))) d_str (by rfl))) (fun _ _ _ _ _ => d_var 10)) (d_lst a_nil) (by rfl))))))))))))))))))))))
end L2.DL
-- part Head
set_option maxHeartbeats 0
/-! Head: what the top leaves, by names (printed by gen.py). -/
namespace L2.DL
open PySem PySem.Spec PyProof.Rows L2
def dd__law_taken : He.DefD := ⟨("_law_taken", none), "_law_taken", "_law_taken", defArgs s__law_taken, defBody s__law_taken, defScope s__law_taken, [], []⟩
def dd__law_machine : He.DefD := ⟨("_law_machine", none), "_law_machine", "_law_machine", defArgs s__law_machine, defBody s__law_machine, defScope s__law_machine, [], []⟩
def dd__law_pick : He.DefD := ⟨("_law_pick", none), "_law_pick", "_law_pick", defArgs s__law_pick, defBody s__law_pick, defScope s__law_pick, [], []⟩
def dd__law_line : He.DefD := ⟨("_law_line", none), "_law_line", "_law_line", defArgs s__law_line, defBody s__law_line, defScope s__law_line, [], []⟩
def dd__law_program : He.DefD := ⟨("_law_program", none), "_law_program", "_law_program", defArgs s__law_program, defBody s__law_program, defScope s__law_program, [], []⟩
def dd__law_done : He.DefD := ⟨("_law_done", none), "_law_done", "_law_done", defArgs s__law_done, defBody s__law_done, defScope s__law_done, [], []⟩
def dd__law_run : He.DefD := ⟨("_law_run", none), "_law_run", "_law_run", defArgs s__law_run, defBody s__law_run, defScope s__law_run, [], []⟩
def dd__law_wishes : He.DefD := ⟨("_law_wishes", none), "_law_wishes", "_law_wishes", defArgs s__law_wishes, defBody s__law_wishes, defScope s__law_wishes, [], []⟩
def dd__law_bent : He.DefD := ⟨("_law_bent", none), "_law_bent", "_law_bent", defArgs s__law_bent, defBody s__law_bent, defScope s__law_bent, [], []⟩
def dd__law_text : He.DefD := ⟨("_law_text", none), "_law_text", "_law_text", defArgs s__law_text, defBody s__law_text, defScope s__law_text, [], []⟩
def dd__law_all_terms : He.DefD := ⟨("_law_all_terms", none), "_law_all_terms", "_law_all_terms", defArgs s__law_all_terms, defBody s__law_all_terms, defScope s__law_all_terms, [], []⟩
def dd_is_number : He.DefD := ⟨("is_number", none), "is_number", "is_number", defArgs s_is_number, defBody s_is_number, defScope s_is_number, [], []⟩
def dd_need_machine : He.DefD := ⟨("need_machine", none), "need_machine", "need_machine", defArgs s_need_machine, defBody s_need_machine, defScope s_need_machine, [], []⟩
def dd_figure : He.DefD := ⟨("figure", none), "figure", "figure", defArgs s_figure, defBody s_figure, defScope s_figure, [], []⟩
def dd_term_at : He.DefD := ⟨("term_at", none), "term_at", "term_at", defArgs s_term_at, defBody s_term_at, defScope s_term_at, [], []⟩
def dd_read_term : He.DefD := ⟨("read_term", none), "read_term", "read_term", defArgs s_read_term, defBody s_read_term, defScope s_read_term, [], []⟩
def dd__law_told_term : He.DefD := ⟨("_law_told_term", none), "_law_told_term", "_law_told_term", defArgs s__law_told_term, defBody s__law_told_term, defScope s__law_told_term, [], []⟩
def dd__law_split : He.DefD := ⟨("_law_split", none), "_law_split", "_law_split", defArgs s__law_split, defBody s__law_split, defScope s__law_split, [], []⟩
def dd__law_term : He.DefD := ⟨("_law_term", none), "_law_term", "_law_term", defArgs s__law_term, defBody s__law_term, defScope s__law_term, [], []⟩
def dd__law_alike : He.DefD := ⟨("_law_alike", none), "_law_alike", "_law_alike", defArgs s__law_alike, defBody s__law_alike, defScope s__law_alike, [], []⟩
def dd__law_terms_right : He.DefD := ⟨("_law_terms_right", none), "_law_terms_right", "_law_terms_right", defArgs s__law_terms_right, defBody s__law_terms_right, defScope s__law_terms_right, [], []⟩
def dd__law_line_text : He.DefD := ⟨("_law_line_text", none), "_law_line_text", "_law_line_text", defArgs s__law_line_text, defBody s__law_line_text, defScope s__law_line_text, [], []⟩
def dd_is_line : He.DefD := ⟨("is_line", none), "is_line", "is_line", defArgs s_is_line, defBody s_is_line, defScope s_is_line, [], []⟩
def dd_need_program : He.DefD := ⟨("need_program", none), "need_program", "need_program", defArgs s_need_program, defBody s_need_program, defScope s_need_program, [], []⟩
def dd_need_many : He.DefD := ⟨("need_many", none), "need_many", "need_many", defArgs s_need_many, defBody s_need_many, defScope s_need_many, [], []⟩
def dd_are_losses : He.DefD := ⟨("are_losses", none), "are_losses", "are_losses", defArgs s_are_losses, defBody s_are_losses, defScope s_are_losses, [], []⟩
def dd_first_terms : He.DefD := ⟨("first_terms", none), "first_terms", "first_terms", defArgs s_first_terms, defBody s_first_terms, defScope s_first_terms, [], []⟩
def dd_depth : He.DefD := ⟨("depth", none), "depth", "depth", defArgs s_depth, defBody s_depth, defScope s_depth, [], []⟩
def dd_done : He.DefD := ⟨("done", none), "done", "done", defArgs s_done, defBody s_done, defScope s_done, [], []⟩
def dd_line_text : He.DefD := ⟨("line_text", none), "line_text", "line_text", defArgs s_line_text, defBody s_line_text, defScope s_line_text, [], []⟩
def dd_text_of : He.DefD := ⟨("text_of", none), "text_of", "text_of", defArgs s_text_of, defBody s_text_of, defScope s_text_of, [], []⟩
def dd_told : He.DefD := ⟨("told", none), "told", "told", defArgs s_told, defBody s_told, defScope s_told, [], []⟩
def dd__law_rows : He.DefD := ⟨("_law_rows", none), "_law_rows", "_law_rows", defArgs s__law_rows, defBody s__law_rows, defScope s__law_rows, [], []⟩
def dd_written : He.DefD := ⟨("written", none), "written", "written", defArgs s_written, defBody s_written, defScope s_written, [], []⟩
def dd_lines_of : He.DefD := ⟨("lines_of", none), "lines_of", "lines_of", defArgs s_lines_of, defBody s_lines_of, defScope s_lines_of, [], []⟩
def dd_cell_of : He.DefD := ⟨("cell_of", none), "cell_of", "cell_of", defArgs s_cell_of, defBody s_cell_of, defScope s_cell_of, [], []⟩
def dd_line_of : He.DefD := ⟨("line_of", none), "line_of", "line_of", defArgs s_line_of, defBody s_line_of, defScope s_line_of, [], []⟩
def dd_read_program : He.DefD := ⟨("read_program", none), "read_program", "read_program", defArgs s_read_program, defBody s_read_program, defScope s_read_program, [], []⟩
def dd__law_told : He.DefD := ⟨("_law_told", none), "_law_told", "_law_told", defArgs s__law_told, defBody s__law_told, defScope s__law_told, [], []⟩
def dd__law_lines : He.DefD := ⟨("_law_lines", none), "_law_lines", "_law_lines", defArgs s__law_lines, defBody s__law_lines, defScope s__law_lines, [], []⟩
def dd__law_line_of : He.DefD := ⟨("_law_line_of", none), "_law_line_of", "_law_line_of", defArgs s__law_line_of, defBody s__law_line_of, defScope s__law_line_of, [], []⟩
def dd__law_read : He.DefD := ⟨("_law_read", none), "_law_read", "_law_read", defArgs s__law_read, defBody s__law_read, defScope s__law_read, [], []⟩
def dd_is_term : He.DefD := ⟨("is_term", none), "is_term", "is_term", defArgs s_is_term, defBody s_is_term, defScope s_is_term, [.int 8], []⟩
def dd_is_wish : He.DefD := ⟨("is_wish", none), "is_wish", "is_wish", defArgs s_is_wish, defBody s_is_wish, defScope s_is_wish, [], []⟩
def dd_need_wishes : He.DefD := ⟨("need_wishes", none), "need_wishes", "need_wishes", defArgs s_need_wishes, defBody s_need_wishes, defScope s_need_wishes, [], []⟩
def dd_wishes_text : He.DefD := ⟨("wishes_text", none), "wishes_text", "wishes_text", defArgs s_wishes_text, defBody s_wishes_text, defScope s_wishes_text, [], []⟩
def dd_read_wishes : He.DefD := ⟨("read_wishes", none), "read_wishes", "read_wishes", defArgs s_read_wishes, defBody s_read_wishes, defScope s_read_wishes, [], []⟩
def dd__law_read_wishes : He.DefD := ⟨("_law_read_wishes", none), "_law_read_wishes", "_law_read_wishes", defArgs s__law_read_wishes, defBody s__law_read_wishes, defScope s__law_read_wishes, [], []⟩
def dd__law_subsets : He.DefD := ⟨("_law_subsets", none), "_law_subsets", "_law_subsets", defArgs s__law_subsets, defBody s__law_subsets, defScope s__law_subsets, [], []⟩
def dd__law_near : He.DefD := ⟨("_law_near", none), "_law_near", "_law_near", defArgs s__law_near, defBody s__law_near, defScope s__law_near, [], []⟩
def dd_law : He.DefD := ⟨("law", none), "law", "law", defArgs s_law, defBody s_law, defScope s_law, [], []⟩
def dd_init : He.DefD := ⟨("BadText", some "__init__"), "__init__", "BadText.__init__", defArgs s_init, defBody s_init, defScope s_init, [], []⟩
def hFa0 : List He.Fa := [.glo "_law_taken", .glo "_law_machine", .glo "_law_pick", .glo "_law_line", .glo "_law_program", .glo "_law_done", .glo "_law_run", .glo "_law_wishes", .glo "_law_bent", .glo "_law_text", .glo "_law_all_terms", .glo "is_number", .glo "need_machine", .glo "figure", .glo "term_at", .glo "read_term", .glo "_law_told_term", .glo "_law_split", .glo "_law_term", .glo "_law_alike", .glo "_law_terms_right", .glo "_law_line_text", .glo "is_line", .glo "need_program"]
def hFa1 : List He.Fa := [.glo "need_many", .glo "are_losses", .glo "first_terms", .glo "depth", .glo "done", .glo "line_text", .glo "text_of", .glo "told", .glo "_law_rows", .glo "written", .glo "lines_of", .glo "cell_of", .glo "line_of", .glo "read_program", .glo "_law_told", .glo "_law_lines", .glo "_law_line_of", .glo "_law_read", .glo "is_term", .glo "is_wish", .glo "need_wishes", .glo "wishes_text", .glo "read_wishes", .glo "_law_read_wishes"]
def hFa2 : List He.Fa := [.glo "_law_subsets", .glo "_law_near", .glo "law", .glo "BadText", .glo "BadLosses", .free "len", .free "int", .free "str", .free "tuple", .free "list", .free "bool", .free "max", .free "isinstance", .free "range", .free "enumerate", .free "zip", .free "all", .free "any", .free "sorted", .free "dict", .str "FIGURES" "0123456789", .int "MOST_CELLS" 4, .int "MOST_DEEP" 8, .int "MOST_FUNCTIONS" 3]
def hFa3 : List He.Fa := [.int "MOST_LINES" 60, .int "MOST_LOST" 3, .int "MOST_READ" 2, .exc "BadLosses", .exm "BadText" "BadText" true, .exm "BadLosses" "BadText" false, .exm "BadLosses" "BadLosses" true, .noat "BadText" "line", .meth "BadText" "__init__"]
def hFa : List He.Fa := hFa0 ++ hFa1 ++ hFa2 ++ hFa3
def hFn0 : List He.DefD := [dd__law_taken, dd__law_machine, dd__law_pick, dd__law_line, dd__law_program, dd__law_done, dd__law_run, dd__law_wishes, dd__law_bent, dd__law_text, dd__law_all_terms, dd_is_number, dd_need_machine, dd_figure, dd_term_at, dd_read_term, dd__law_told_term, dd__law_split, dd__law_term, dd__law_alike, dd__law_terms_right, dd__law_line_text, dd_is_line, dd_need_program]
def hFn1 : List He.DefD := [dd_need_many, dd_are_losses, dd_first_terms, dd_depth, dd_done, dd_line_text, dd_text_of, dd_told, dd__law_rows, dd_written, dd_lines_of, dd_cell_of, dd_line_of, dd_read_program, dd__law_told, dd__law_lines, dd__law_line_of, dd__law_read, dd_is_term, dd_is_wish, dd_need_wishes, dd_wishes_text, dd_read_wishes, dd__law_read_wishes]
def hFn2 : List He.DefD := [dd__law_subsets, dd__law_near, dd_law, dd_init]
def hFn : List He.DefD := hFn0 ++ hFn1 ++ hFn2
def hTf : List He.Defn := [("need_machine", none), ("is_line", none), ("are_losses", none), ("is_term", none), ("law", none)]
def hLo0 : List PySem.Str := ["LinesError", "BadMachine", "BadProgram", "BadWishes", "BadLosses", "BadNumber", "TooMany", "BadText", "MOST_CELLS", "MOST_FUNCTIONS", "MOST_READ", "MOST_LINES", "MOST_DEEP", "is_number", "need_machine", "is_line", "need_program", "depth", "is_term", "first_terms", "done", "text_of", "MOST_LOST", "need_many"]
def hLo1 : List PySem.Str := ["are_losses", "is_wish", "need_wishes", "FIGURES", "line_text", "written", "figure", "lines_of", "cell_of", "line_of", "read_program", "term_at", "read_term", "wishes_text", "read_wishes", "told", "_law_taken", "_law_pick", "_law_alike", "_law_machine", "_law_line", "_law_program", "_law_text", "_law_done"]
def hLo2 : List PySem.Str := ["_law_run", "_law_without", "_law_subsets", "_law_near", "_law_ends", "_law_wishes", "_law_fulfilled", "_law_line_text", "_law_all_terms", "_law_split", "_law_term", "_law_line_of", "_law_lines", "_law_read", "_law_read_wishes", "_law_told", "_law_bent", "_law_rows", "_law_terms_right", "_law_told_term"]
def hLo : List PySem.Str := hLo0 ++ hLo1 ++ hLo2

/-- the class at C is made as an own error with an own __init__ -/
def oexB (K : PySem.W.Frag) (C : Addr) : Bool := (match K.lookup C with
  | some ⟨.type "type", _, .cls cd, sl⟩ => (match cd.mro, sl.toList with
    | .ref C' :: bm, [_, _, _, _, some (.builtin n), _] => C' == C && n == "ValueError.__new__" && !cd.hasDel && cd.hasDict && PySem.HandSPX.refsVE bm
    | _, _ => false)
  | _ => false) && (decide (PySem.W.findIn K (.ref C) "__setattr__" = some (some (.builtin "object.__setattr__"))) && (decide (PySem.W.subIn K (.ref C) (.type "BaseException") = some true) && (decide (PySem.W.typeIn K (.ref C) = some (.type "type")) && PySem.W.keepIn K (.ref C))))
def hEx (K : PySem.W.Frag) : Bool := oexB K (He.ga K "BadText") && (xfB K (He.ga K "BadText") && decide ((hTf.map fun p => (He.cT K p).2).Nodup))
abbrev hR : PySem.W.OpenRow := PySem.W.OpenLaw.row PySem.Challenge.rw_lostlines_k60_whole_texts
abbrev hQ : Program := PySem.W.view hR.prog [73]
abbrev hK : PySem.W.Hook := He.hookX 5 hFa hFn [] hTf hEx
def hOb (s : PySem.W.SharedT) : He.AlX := He.obsX 5 hFa hFn [] hTf hEx (HandSHeadRun.getT s)
theorem hOb_eq (s : PySem.W.SharedT) : hOb s = hK.obs s.abs := He.obsX_eq (HandSHeadRun.getT_eq s)
theorem hRun (w : World) : HandSHeadRun.RunEq hR hQ hK hOb 9000 hLo w := by
  intro os
  kernel_rfl
end L2.DL
-- part Asm
section
set_option maxHeartbeats 4000000
/-! Asm: from what the top leaves to the law (printed by gen.py). -/
namespace L2.DL
open PySem PySem.Spec PyProof.Rows L2

theorem oexB_ok {K : PySem.W.Frag} {C : Addr} (h : oexB K C = true) : OexC K C := by
  unfold oexB at h
  obtain ⟨h1, h2⟩ := He.ba h
  obtain ⟨h2, h3⟩ := He.ba h2
  obtain ⟨h3, h4⟩ := He.ba h3
  obtain ⟨h4, h5⟩ := He.ba h4
  refine ⟨?_, of_decide_eq_true h2, of_decide_eq_true h3, of_decide_eq_true h4, h5⟩
  split at h1
  · rename_i dd cd sl ho
    split at h1
    · rename_i C' bm k0 k1 k2 k3 n k5 hm hs
      simp only [Bool.and_eq_true, beq_iff_eq, Bool.not_eq_true'] at h1
      obtain ⟨⟨⟨⟨rfl, rfl⟩, hdel⟩, hdict⟩, href⟩ := h1
      obtain ⟨nm, bs, mro, ns, qn, hd, sn, sub, ab, col, del⟩ := cd
      dsimp only at hm hdel hdict
      subst hm hdel hdict
      have hsl : sl = #[k0, k1, k2, k3, some (.builtin "ValueError.__new__"), k5] := by
        obtain ⟨l⟩ := sl
        simp only at hs
        rw [hs]
      subst hsl
      exact ⟨nm, qn, ns, bs, bm, sn, sub, ab, col, dd, k0, k1, k2, k3, k5, ho, href⟩
    · cases h1
  · cases h1
theorem funT_of {K : PySem.W.Frag} {x : Str} {st : Stmt} {f : Addr} {fd : FuncData} {dvs : List V} {kws : List (Str × V)} {p : Str × Option Str} (F : FunD K x x (defArgs st) (defBody st) (defScope st) dvs kws f fd) (hf : f = He.fAd K p) : ∃ dV, FunT K x st f fd (.ref (He.codeOf K p)) dV := by
  obtain ⟨oc, od, dV, kV, doc, pm, an, cdv, ct, osl, e, lk, hcd, _, _⟩ := F.ex
  obtain ⟨c, rfl⟩ := He.codeIn_ref hcd
  subst hf
  have hc : He.codeOf K p = c := He.codeOf_eq lk (by rw [e] <;> rfl)
  rw [hc]
  exact ⟨dV, ⟨oc, od, kV, doc, pm, an, ct, osl, e, lk, hcd⟩, F.kp⟩
/-- a def of the top -/
structure TopD (K : PySem.W.Frag) (mg : Str → Option Value) (x : Str) (st : Stmt) (ps : List Str) : Prop where
  ex : ∃ f fd dV, FunT K x st f fd (.ref (He.codeOf K (x, none))) dV ∧ mg x = some (.ref f) ∧ Binds K fd ps []
structure TopDD (K : PySem.W.Frag) (mg : Str → Option Value) (x : Str) (st : Stmt) (ps : List Str) (i : Int) : Prop where
  ex : ∃ f fd dV u, FunT K x st f fd (.ref (He.codeOf K (x, none))) dV ∧ mg x = some (.ref f) ∧ Binds K fd ps [u] ∧ RelV (.int i) u
section
variable {P : Program} {w : World} {K : PySem.W.Frag} {mg : Str → Option Value} {base h : Heap} {C : Ctx} {x : Str} {st : Stmt} {ps N : List Str} {n : Nat}
theorem topD_of (X : K.In h) (G : h.Ns mainGlobals mg) (hg : (He.Fa.glo x).ok K = true) (hd : ∃ fd, FunD K x x (defArgs st) (defBody st) (defScope st) [] [] (He.fAd K (x, none)) fd)
    (hb : ∀ (kV doc pm : Value) (an : Option Addr) (cdv ct : Value) (us : List Value), us.length = ps.length → bindArgs (PySem.W.fnOf x x (defArgs st) (defBody st) (defScope st) .none kV doc pm an cdv ct) ⟨us, []⟩ = pure (ps.zip us)) : TopD K mg x st ps := by
  obtain ⟨fd, F⟩ := hd
  obtain ⟨dV, T⟩ := funT_of (p := (x, none)) F rfl
  exact ⟨_, fd, dV, T, He.glo_ok X G hg, FunD.bindsN F hb⟩
theorem topD_dfl {i : Int} (X : K.In h) (G : h.Ns mainGlobals mg) (hg : (He.Fa.glo x).ok K = true) (hd : ∃ fd, FunD K x x (defArgs st) (defBody st) (defScope st) [.int i] [] (He.fAd K (x, none)) fd)
    (hb : ∀ (T : Addr) (kV doc pm : Value) (an : Option Addr) (cdv ct : Value) (us its : List Value), us.length = ps.length → its.length = 1 →
      ∃ k, bindArgs (PySem.W.fnOf x x (defArgs st) (defBody st) (defScope st) (.ref T) kV doc pm an cdv ct) ⟨us, []⟩ = seqItems? (.ref T) >>= k ∧ k (some its.toArray) = pure (ps.zip (us ++ its.drop 1))) : TopD K mg x st ps := by
  obtain ⟨fd, F⟩ := hd
  obtain ⟨dV, T⟩ := funT_of (p := (x, none)) F rfl
  obtain ⟨ds, r, b⟩ := FunD.binds1 (ps := ps) F ps.length 1 (List.cons_ne_nil _ _) rfl hb
  cases r
  exact ⟨_, fd, dV, T, He.glo_ok X G hg, b⟩
theorem topDD_of {i : Int} (X : K.In h) (G : h.Ns mainGlobals mg) (hg : (He.Fa.glo x).ok K = true) (hd : ∃ fd, FunD K x x (defArgs st) (defBody st) (defScope st) [.int i] [] (He.fAd K (x, none)) fd)
    (hb : ∀ (T : Addr) (kV doc pm : Value) (an : Option Addr) (cdv ct : Value) (us its : List Value), us.length = ps.length - 1 → its.length = 1 →
      ∃ k, bindArgs (PySem.W.fnOf x x (defArgs st) (defBody st) (defScope st) (.ref T) kV doc pm an cdv ct) ⟨us, []⟩ = seqItems? (.ref T) >>= k ∧ k (some its.toArray) = pure (ps.zip (us ++ its.drop 0))) (hps : ps.length - 1 + 1 = ps.length := by rfl) : TopDD K mg x st ps i := by
  obtain ⟨fd, F⟩ := hd
  obtain ⟨dV, T⟩ := funT_of (p := (x, none)) F rfl
  obtain ⟨ds, r, b⟩ := FunD.binds1 (ps := ps) F (ps.length - 1) 0 (List.cons_ne_nil _ _) hps hb
  cases r with
  | cons ru rn =>
    cases rn
    exact ⟨_, fd, dV, _, T, He.glo_ok X G hg, b, ru⟩
theorem dfn_top {k : Nat} {B : SM} (T : TopD K mg x st ps) (S : FnScope N ps (defScope st)) (hn : ps.length = n)
    (hb : ∀ (f : Addr) (A : Around) (outer : List Env) (s : Shared) (H : Hp) (E : XK), Room k (cxD P w K mg base N x st f (.ref (He.codeOf K (x, none))) A outer s H E).A → DSs (cxD P w K mg base N x st f (.ref (He.codeOf K (x, none))) A outer s H E) C (wE E) (defBody st) B) :
    DFn P w K mg base C (L2.CX P w) (k + 1) x n (denF N.length n B) := by
  obtain ⟨f, fd, dV, F, gm, b⟩ := T.ex
  exact dfn_of F gm (def_of F S hn (hb f)) b
theorem dfn_rec (b0 st0 : Nat) {B : DF → SM} (h1 : 1 ≤ st0) (T : TopD K mg x st ps) (S : FnScope N ps (defScope st)) (hn : ps.length = n)
    (hb : ∀ (m : Nat) (F : DF), DFn P w K mg base C (L2.CX P w) (b0 + st0 * m) x n F → ∀ (f : Addr) (A : Around) (outer : List Env) (s : Shared) (H : Hp) (E : XK), Room (b0 + st0 - 1 + st0 * m) (cxD P w K mg base N x st f (.ref (He.codeOf K (x, none))) A outer s H E).A →
      DSs (cxD P w K mg base N x st f (.ref (He.codeOf K (x, none))) A outer s H E) C (wE E) (defBody st) (B F))
    (Fm : Nat → DF) (e0 : Fm 0 = fun _ _ => none) (es : ∀ m, Fm (m + 1) = denF N.length n (B (Fm m))) : ∀ m, DFn P w K mg base C (L2.CX P w) (b0 + st0 * m) x n (Fm m)
  | 0 => by
    obtain ⟨f, fd, dV, F, gm, b⟩ := T.ex
    rw [e0]
    exact dfn_of F gm fnOk_none b
  | m + 1 => by
    have ih := dfn_rec b0 st0 h1 T S hn hb Fm e0 es m
    have q := dfn_top T S hn (hb m (Fm m) ih)
    rw [es]
    have e : b0 + st0 - 1 + st0 * m + 1 = b0 + st0 * (m + 1) := by rw [Nat.mul_succ]; omega
    rw [← e]
    exact q
theorem dfnD_rec {i : Int} (b0 st0 : Nat) {B : DF → SM} (h1 : 1 ≤ st0) (T : TopDD K mg x st ps i) (S : FnScope N ps (defScope st)) (hn : ps.length = n)
    (hb : ∀ (m : Nat) (F : DF), DFn P w K mg base C (L2.CX P w) (b0 + st0 * m) x n F → ∀ (f : Addr) (A : Around) (outer : List Env) (s : Shared) (H : Hp) (E : XK), Room (b0 + st0 - 1 + st0 * m) (cxD P w K mg base N x st f (.ref (He.codeOf K (x, none))) A outer s H E).A →
      DSs (cxD P w K mg base N x st f (.ref (He.codeOf K (x, none))) A outer s H E) C (wE E) (defBody st) (B F))
    (Fm : Nat → DF) (e0 : Fm 0 = fun _ _ => none) (es : ∀ m, Fm (m + 1) = denF N.length n (B (Fm m))) (hR : ∀ m, DFn P w K mg base C (L2.CX P w) (b0 + st0 * m) x n (Fm m)) : ∀ m, DFnD P w K mg base C (L2.CX P w) (b0 + st0 * m) x n i (Fm m)
  | 0 => by
    obtain ⟨f, fd, dV, u, F, gm, b, r⟩ := T.ex
    rw [e0]
    exact ⟨f, fd, ps, u, fnOk_none, gm, F.kp, b, r⟩
  | m + 1 => by
    obtain ⟨f, fd, dV, u, F, gm, b, r⟩ := T.ex
    have q := def_of F S hn (hb m (Fm m) (hR m) f)
    rw [es]
    have e : b0 + st0 - 1 + st0 * m + 1 = b0 + st0 * (m + 1) := by rw [Nat.mul_succ]; omega
    rw [← e]
    exact ⟨f, fd, ps, u, q, gm, F.kp, b, r⟩
theorem told_of {a : Str} (T : TopD K mg x st [a]) : ToldT K mg x a st N := by
  obtain ⟨f, fd, dV, F, gm, b⟩ := T.ex
  obtain ⟨oc, od, kV, doc, pm, an, ct, osl, rfl, lk, hcd⟩ := F.ex
  exact ⟨f, oc, od, dV, kV, doc, pm, an, _, ct, osl, gm, F.kp, lk, hcd, b⟩
theorem ok_init {f : Addr} {fd : FuncData} (F : FunD K "__init__" "BadText.__init__" (defArgs s_init) (defBody s_init) (defScope s_init) [] [] f fd) : FnOk P w K mg base CX0 1 f fd ["self", "line"] (spInit K) := by
  refine F.ok (N := ["self", "line"]) ⟨rfl, rfl, rfl, by decide +kernel, rfl, by decide +kernel, by decide +kernel⟩ (fun vs H Q E h => ?_) (fun cdv A outer s H vs Q E hr h => ⟨tOst K "line" (tVar 0) (tVar 1), PSs.nox (pss_one (ps_ost (pv 0) (pv 1))), ?_⟩)
  · obtain ⟨a, C, y, rfl, _⟩ := h
    rfl
  · obtain ⟨a, C, y, rfl, h1, h2, h3, h4⟩ := h
    exact ⟨_, rfl, _, rfl, a, C, rfl, h1, h2, Or.inl ⟨h3, h4⟩⟩
end
theorem uni_of {T : List (Addr × Str)} {a : Addr} {n : Str} (nd : (T.map (·.1)).Nodup) (h : (a, n) ∈ T) : ∀ p ∈ T, p.1 = a → p.2 = n := by
  induction T with
  | nil => cases h
  | cons q r ih =>
    rw [List.map_cons, List.nodup_cons] at nd
    intro p hp e
    rcases List.mem_cons.mp h with h1 | h1
    · rcases List.mem_cons.mp hp with h2 | h2
      · rw [h2, ← h1]
      · exact absurd (List.mem_map.mpr ⟨p, h2, by rw [e, ← h1]⟩) nd.1
    · rcases List.mem_cons.mp hp with h2 | h2
      · exact absurd (List.mem_map.mpr ⟨(a, n), h1, by rw [← h2, e]⟩) nd.1
      · exact ih nd.2 h1 p h2 e

def ctxOf (K : PySem.W.Frag) : Ctx := ⟨[((He.cT K ("need_machine", none)).2, ("need_machine" : Str) ++ ".<locals>." ++ "<genexpr>"), ((He.cT K ("is_line", none)).2, ("is_line" : Str) ++ ".<locals>." ++ "<genexpr>"), ((He.cT K ("are_losses", none)).2, ("are_losses" : Str) ++ ".<locals>." ++ "<genexpr>"), ((He.cT K ("is_term", none)).2, ("is_term" : Str) ++ ".<locals>." ++ "<genexpr>"), ((He.cT K ("law", none)).2, ("law" : Str) ++ ".<locals>." ++ "<lambda>")], He.ga K "BadText", He.ga K "BadLosses"⟩
section
variable {P : Program} {w : World} {K : PySem.W.Frag} {mg : Str → Option Value} {base h : Heap}
theorem T__law_taken (X : K.In h) (G : h.Ns mainGlobals mg) (c : He.SaysX hFa hFn [] hTf hEx w h K) : TopD K mg "_law_taken" s__law_taken ["_law_row", "_law_many"] := topD_of X G (c.t.d.fact 0 (f := .glo "_law_taken") rfl) (c.t.d.def_ 0 (d := dd__law_taken) rfl) (fun _ _ _ _ _ _ us hl => match us, hl with | [_, _], _ => rfl)
theorem T__law_machine (X : K.In h) (G : h.Ns mainGlobals mg) (c : He.SaysX hFa hFn [] hTf hEx w h K) : TopD K mg "_law_machine" s__law_machine ["_law_row"] := topD_of X G (c.t.d.fact 1 (f := .glo "_law_machine") rfl) (c.t.d.def_ 1 (d := dd__law_machine) rfl) (fun _ _ _ _ _ _ us hl => match us, hl with | [_], _ => rfl)
theorem T__law_pick (X : K.In h) (G : h.Ns mainGlobals mg) (c : He.SaysX hFa hFn [] hTf hEx w h K) : TopD K mg "_law_pick" s__law_pick ["_law_row", "_law_things"] := topD_of X G (c.t.d.fact 2 (f := .glo "_law_pick") rfl) (c.t.d.def_ 2 (d := dd__law_pick) rfl) (fun _ _ _ _ _ _ us hl => match us, hl with | [_, _], _ => rfl)
theorem T__law_line (X : K.In h) (G : h.Ns mainGlobals mg) (c : He.SaysX hFa hFn [] hTf hEx w h K) : TopD K mg "_law_line" s__law_line ["_law_row", "_law_machine_here"] := topD_of X G (c.t.d.fact 3 (f := .glo "_law_line") rfl) (c.t.d.def_ 3 (d := dd__law_line) rfl) (fun _ _ _ _ _ _ us hl => match us, hl with | [_, _], _ => rfl)
theorem T__law_program (X : K.In h) (G : h.Ns mainGlobals mg) (c : He.SaysX hFa hFn [] hTf hEx w h K) : TopD K mg "_law_program" s__law_program ["_law_row", "_law_machine_here", "_law_most"] := topD_of X G (c.t.d.fact 4 (f := .glo "_law_program") rfl) (c.t.d.def_ 4 (d := dd__law_program) rfl) (fun _ _ _ _ _ _ us hl => match us, hl with | [_, _, _], _ => rfl)
theorem T__law_done (X : K.In h) (G : h.Ns mainGlobals mg) (c : He.SaysX hFa hFn [] hTf hEx w h K) : TopD K mg "_law_done" s__law_done ["_law_held", "_law_line_here"] := topD_of X G (c.t.d.fact 5 (f := .glo "_law_done") rfl) (c.t.d.def_ 5 (d := dd__law_done) rfl) (fun _ _ _ _ _ _ us hl => match us, hl with | [_, _], _ => rfl)
theorem T__law_run (X : K.In h) (G : h.Ns mainGlobals mg) (c : He.SaysX hFa hFn [] hTf hEx w h K) : TopD K mg "_law_run" s__law_run ["_law_machine_here", "_law_program_here"] := topD_of X G (c.t.d.fact 6 (f := .glo "_law_run") rfl) (c.t.d.def_ 6 (d := dd__law_run) rfl) (fun _ _ _ _ _ _ us hl => match us, hl with | [_, _], _ => rfl)
theorem T__law_wishes (X : K.In h) (G : h.Ns mainGlobals mg) (c : He.SaysX hFa hFn [] hTf hEx w h K) : TopD K mg "_law_wishes" s__law_wishes ["_law_row", "_law_machine_here", "_law_program_here"] := topD_of X G (c.t.d.fact 7 (f := .glo "_law_wishes") rfl) (c.t.d.def_ 7 (d := dd__law_wishes) rfl) (fun _ _ _ _ _ _ us hl => match us, hl with | [_, _, _], _ => rfl)
theorem T__law_bent (X : K.In h) (G : h.Ns mainGlobals mg) (c : He.SaysX hFa hFn [] hTf hEx w h K) : TopD K mg "_law_bent" s__law_bent ["_law_row", "_law_lines_here", "_law_more"] := topD_of X G (c.t.d.fact 8 (f := .glo "_law_bent") rfl) (c.t.d.def_ 8 (d := dd__law_bent) rfl) (fun _ _ _ _ _ _ us hl => match us, hl with | [_, _, _], _ => rfl)
theorem T__law_text (X : K.In h) (G : h.Ns mainGlobals mg) (c : He.SaysX hFa hFn [] hTf hEx w h K) : TopD K mg "_law_text" s__law_text ["_law_term_here"] := topD_of X G (c.t.d.fact 9 (f := .glo "_law_text") rfl) (c.t.d.def_ 9 (d := dd__law_text) rfl) (fun _ _ _ _ _ _ us hl => match us, hl with | [_], _ => rfl)
theorem T__law_all_terms (X : K.In h) (G : h.Ns mainGlobals mg) (c : He.SaysX hFa hFn [] hTf hEx w h K) : TopD K mg "_law_all_terms" s__law_all_terms ["_law_machine_here", "_law_deep"] := topD_of X G (c.t.d.fact 10 (f := .glo "_law_all_terms") rfl) (c.t.d.def_ 10 (d := dd__law_all_terms) rfl) (fun _ _ _ _ _ _ us hl => match us, hl with | [_, _], _ => rfl)
theorem T_is_number (X : K.In h) (G : h.Ns mainGlobals mg) (c : He.SaysX hFa hFn [] hTf hEx w h K) : TopD K mg "is_number" s_is_number ["value", "low", "high"] := topD_of X G (c.t.d.fact 11 (f := .glo "is_number") rfl) (c.t.d.def_ 11 (d := dd_is_number) rfl) (fun _ _ _ _ _ _ us hl => match us, hl with | [_, _, _], _ => rfl)
theorem T_need_machine (X : K.In h) (G : h.Ns mainGlobals mg) (c : He.SaysX hFa hFn [] hTf hEx w h K) : TopD K mg "need_machine" s_need_machine ["value"] := topD_of X G (c.t.d.fact 12 (f := .glo "need_machine") rfl) (c.t.d.def_ 12 (d := dd_need_machine) rfl) (fun _ _ _ _ _ _ us hl => match us, hl with | [_], _ => rfl)
theorem T_figure (X : K.In h) (G : h.Ns mainGlobals mg) (c : He.SaysX hFa hFn [] hTf hEx w h K) : TopD K mg "figure" s_figure ["word", "low", "high"] := topD_of X G (c.t.d.fact 13 (f := .glo "figure") rfl) (c.t.d.def_ 13 (d := dd_figure) rfl) (fun _ _ _ _ _ _ us hl => match us, hl with | [_, _, _], _ => rfl)
theorem T_term_at (X : K.In h) (G : h.Ns mainGlobals mg) (c : He.SaysX hFa hFn [] hTf hEx w h K) : TopD K mg "term_at" s_term_at ["machine", "text", "place", "deep"] := topD_of X G (c.t.d.fact 14 (f := .glo "term_at") rfl) (c.t.d.def_ 14 (d := dd_term_at) rfl) (fun _ _ _ _ _ _ us hl => match us, hl with | [_, _, _, _], _ => rfl)
theorem T_read_term (X : K.In h) (G : h.Ns mainGlobals mg) (c : He.SaysX hFa hFn [] hTf hEx w h K) : TopD K mg "read_term" s_read_term ["machine", "text"] := topD_of X G (c.t.d.fact 15 (f := .glo "read_term") rfl) (c.t.d.def_ 15 (d := dd_read_term) rfl) (fun _ _ _ _ _ _ us hl => match us, hl with | [_, _], _ => rfl)
theorem T__law_told_term (X : K.In h) (G : h.Ns mainGlobals mg) (c : He.SaysX hFa hFn [] hTf hEx w h K) : TopD K mg "_law_told_term" s__law_told_term ["_law_machine_here", "_law_text_here"] := topD_of X G (c.t.d.fact 16 (f := .glo "_law_told_term") rfl) (c.t.d.def_ 16 (d := dd__law_told_term) rfl) (fun _ _ _ _ _ _ us hl => match us, hl with | [_, _], _ => rfl)
theorem T__law_split (X : K.In h) (G : h.Ns mainGlobals mg) (c : He.SaysX hFa hFn [] hTf hEx w h K) : TopD K mg "_law_split" s__law_split ["_law_text_here"] := topD_of X G (c.t.d.fact 17 (f := .glo "_law_split") rfl) (c.t.d.def_ 17 (d := dd__law_split) rfl) (fun _ _ _ _ _ _ us hl => match us, hl with | [_], _ => rfl)
theorem T__law_term (X : K.In h) (G : h.Ns mainGlobals mg) (c : He.SaysX hFa hFn [] hTf hEx w h K) : TopD K mg "_law_term" s__law_term ["_law_machine_here", "_law_text_here", "_law_deep"] := topD_of X G (c.t.d.fact 18 (f := .glo "_law_term") rfl) (c.t.d.def_ 18 (d := dd__law_term) rfl) (fun _ _ _ _ _ _ us hl => match us, hl with | [_, _, _], _ => rfl)
theorem T__law_alike (X : K.In h) (G : h.Ns mainGlobals mg) (c : He.SaysX hFa hFn [] hTf hEx w h K) : TopD K mg "_law_alike" s__law_alike ["_law_found", "_law_due"] := topD_of X G (c.t.d.fact 19 (f := .glo "_law_alike") rfl) (c.t.d.def_ 19 (d := dd__law_alike) rfl) (fun _ _ _ _ _ _ us hl => match us, hl with | [_, _], _ => rfl)
theorem T__law_terms_right (X : K.In h) (G : h.Ns mainGlobals mg) (c : He.SaysX hFa hFn [] hTf hEx w h K) : TopD K mg "_law_terms_right" s__law_terms_right ["_law_row", "_law_machine_here"] := topD_of X G (c.t.d.fact 20 (f := .glo "_law_terms_right") rfl) (c.t.d.def_ 20 (d := dd__law_terms_right) rfl) (fun _ _ _ _ _ _ us hl => match us, hl with | [_, _], _ => rfl)
theorem T__law_line_text (X : K.In h) (G : h.Ns mainGlobals mg) (c : He.SaysX hFa hFn [] hTf hEx w h K) : TopD K mg "_law_line_text" s__law_line_text ["_law_line_here"] := topD_of X G (c.t.d.fact 21 (f := .glo "_law_line_text") rfl) (c.t.d.def_ 21 (d := dd__law_line_text) rfl) (fun _ _ _ _ _ _ us hl => match us, hl with | [_], _ => rfl)
theorem T_is_line (X : K.In h) (G : h.Ns mainGlobals mg) (c : He.SaysX hFa hFn [] hTf hEx w h K) : TopD K mg "is_line" s_is_line ["machine", "value"] := topD_of X G (c.t.d.fact 22 (f := .glo "is_line") rfl) (c.t.d.def_ 22 (d := dd_is_line) rfl) (fun _ _ _ _ _ _ us hl => match us, hl with | [_, _], _ => rfl)
theorem T_need_program (X : K.In h) (G : h.Ns mainGlobals mg) (c : He.SaysX hFa hFn [] hTf hEx w h K) : TopD K mg "need_program" s_need_program ["machine", "value"] := topD_of X G (c.t.d.fact 23 (f := .glo "need_program") rfl) (c.t.d.def_ 23 (d := dd_need_program) rfl) (fun _ _ _ _ _ _ us hl => match us, hl with | [_, _], _ => rfl)
theorem T_need_many (X : K.In h) (G : h.Ns mainGlobals mg) (c : He.SaysX hFa hFn [] hTf hEx w h K) : TopD K mg "need_many" s_need_many ["value"] := topD_of X G (c.t.d.fact 24 (f := .glo "need_many") rfl) (c.t.d.def_ 24 (d := dd_need_many) rfl) (fun _ _ _ _ _ _ us hl => match us, hl with | [_], _ => rfl)
theorem T_are_losses (X : K.In h) (G : h.Ns mainGlobals mg) (c : He.SaysX hFa hFn [] hTf hEx w h K) : TopD K mg "are_losses" s_are_losses ["program", "many", "value"] := topD_of X G (c.t.d.fact 25 (f := .glo "are_losses") rfl) (c.t.d.def_ 25 (d := dd_are_losses) rfl) (fun _ _ _ _ _ _ us hl => match us, hl with | [_, _, _], _ => rfl)
theorem T_first_terms (X : K.In h) (G : h.Ns mainGlobals mg) (c : He.SaysX hFa hFn [] hTf hEx w h K) : TopD K mg "first_terms" s_first_terms ["machine"] := topD_of X G (c.t.d.fact 26 (f := .glo "first_terms") rfl) (c.t.d.def_ 26 (d := dd_first_terms) rfl) (fun _ _ _ _ _ _ us hl => match us, hl with | [_], _ => rfl)
theorem T_depth (X : K.In h) (G : h.Ns mainGlobals mg) (c : He.SaysX hFa hFn [] hTf hEx w h K) : TopD K mg "depth" s_depth ["term"] := topD_of X G (c.t.d.fact 27 (f := .glo "depth") rfl) (c.t.d.def_ 27 (d := dd_depth) rfl) (fun _ _ _ _ _ _ us hl => match us, hl with | [_], _ => rfl)
theorem T_done (X : K.In h) (G : h.Ns mainGlobals mg) (c : He.SaysX hFa hFn [] hTf hEx w h K) : TopD K mg "done" s_done ["held", "line"] := topD_of X G (c.t.d.fact 28 (f := .glo "done") rfl) (c.t.d.def_ 28 (d := dd_done) rfl) (fun _ _ _ _ _ _ us hl => match us, hl with | [_, _], _ => rfl)
theorem T_line_text (X : K.In h) (G : h.Ns mainGlobals mg) (c : He.SaysX hFa hFn [] hTf hEx w h K) : TopD K mg "line_text" s_line_text ["line"] := topD_of X G (c.t.d.fact 29 (f := .glo "line_text") rfl) (c.t.d.def_ 29 (d := dd_line_text) rfl) (fun _ _ _ _ _ _ us hl => match us, hl with | [_], _ => rfl)
theorem T_text_of (X : K.In h) (G : h.Ns mainGlobals mg) (c : He.SaysX hFa hFn [] hTf hEx w h K) : TopD K mg "text_of" s_text_of ["term"] := topD_of X G (c.t.d.fact 30 (f := .glo "text_of") rfl) (c.t.d.def_ 30 (d := dd_text_of) rfl) (fun _ _ _ _ _ _ us hl => match us, hl with | [_], _ => rfl)
theorem T_told (X : K.In h) (G : h.Ns mainGlobals mg) (c : He.SaysX hFa hFn [] hTf hEx w h K) : TopD K mg "told" s_told ["machine", "program", "many", "losses"] := topD_of X G (c.t.d.fact 31 (f := .glo "told") rfl) (c.t.d.def_ 31 (d := dd_told) rfl) (fun _ _ _ _ _ _ us hl => match us, hl with | [_, _, _, _], _ => rfl)
theorem T__law_rows (X : K.In h) (G : h.Ns mainGlobals mg) (c : He.SaysX hFa hFn [] hTf hEx w h K) : TopD K mg "_law_rows" s__law_rows ["_law_machine_here", "_law_program_here", "_law_losses"] := topD_of X G (c.t.d.fact 32 (f := .glo "_law_rows") rfl) (c.t.d.def_ 32 (d := dd__law_rows) rfl) (fun _ _ _ _ _ _ us hl => match us, hl with | [_, _, _], _ => rfl)
theorem T_written (X : K.In h) (G : h.Ns mainGlobals mg) (c : He.SaysX hFa hFn [] hTf hEx w h K) : TopD K mg "written" s_written ["machine", "program"] := topD_of X G (c.t.d.fact 33 (f := .glo "written") rfl) (c.t.d.def_ 33 (d := dd_written) rfl) (fun _ _ _ _ _ _ us hl => match us, hl with | [_, _], _ => rfl)
theorem T_lines_of (X : K.In h) (G : h.Ns mainGlobals mg) (c : He.SaysX hFa hFn [] hTf hEx w h K) : TopD K mg "lines_of" s_lines_of ["text"] := topD_of X G (c.t.d.fact 34 (f := .glo "lines_of") rfl) (c.t.d.def_ 34 (d := dd_lines_of) rfl) (fun _ _ _ _ _ _ us hl => match us, hl with | [_], _ => rfl)
theorem T_cell_of (X : K.In h) (G : h.Ns mainGlobals mg) (c : He.SaysX hFa hFn [] hTf hEx w h K) : TopD K mg "cell_of" s_cell_of ["word"] := topD_of X G (c.t.d.fact 35 (f := .glo "cell_of") rfl) (c.t.d.def_ 35 (d := dd_cell_of) rfl) (fun _ _ _ _ _ _ us hl => match us, hl with | [_], _ => rfl)
theorem T_line_of (X : K.In h) (G : h.Ns mainGlobals mg) (c : He.SaysX hFa hFn [] hTf hEx w h K) : TopD K mg "line_of" s_line_of ["machine", "text"] := topD_of X G (c.t.d.fact 36 (f := .glo "line_of") rfl) (c.t.d.def_ 36 (d := dd_line_of) rfl) (fun _ _ _ _ _ _ us hl => match us, hl with | [_, _], _ => rfl)
theorem T_read_program (X : K.In h) (G : h.Ns mainGlobals mg) (c : He.SaysX hFa hFn [] hTf hEx w h K) : TopD K mg "read_program" s_read_program ["text"] := topD_of X G (c.t.d.fact 37 (f := .glo "read_program") rfl) (c.t.d.def_ 37 (d := dd_read_program) rfl) (fun _ _ _ _ _ _ us hl => match us, hl with | [_], _ => rfl)
theorem T__law_told (X : K.In h) (G : h.Ns mainGlobals mg) (c : He.SaysX hFa hFn [] hTf hEx w h K) : TopD K mg "_law_told" s__law_told ["_law_work"] := topD_of X G (c.t.d.fact 38 (f := .glo "_law_told") rfl) (c.t.d.def_ 38 (d := dd__law_told) rfl) (fun _ _ _ _ _ _ us hl => match us, hl with | [_], _ => rfl)
theorem T__law_lines (X : K.In h) (G : h.Ns mainGlobals mg) (c : He.SaysX hFa hFn [] hTf hEx w h K) : TopD K mg "_law_lines" s__law_lines ["_law_text_here"] := topD_of X G (c.t.d.fact 39 (f := .glo "_law_lines") rfl) (c.t.d.def_ 39 (d := dd__law_lines) rfl) (fun _ _ _ _ _ _ us hl => match us, hl with | [_], _ => rfl)
theorem T__law_line_of (X : K.In h) (G : h.Ns mainGlobals mg) (c : He.SaysX hFa hFn [] hTf hEx w h K) : TopD K mg "_law_line_of" s__law_line_of ["_law_machine_here", "_law_text_here"] := topD_of X G (c.t.d.fact 40 (f := .glo "_law_line_of") rfl) (c.t.d.def_ 40 (d := dd__law_line_of) rfl) (fun _ _ _ _ _ _ us hl => match us, hl with | [_, _], _ => rfl)
theorem T__law_read (X : K.In h) (G : h.Ns mainGlobals mg) (c : He.SaysX hFa hFn [] hTf hEx w h K) : TopD K mg "_law_read" s__law_read ["_law_text_here"] := topD_of X G (c.t.d.fact 41 (f := .glo "_law_read") rfl) (c.t.d.def_ 41 (d := dd__law_read) rfl) (fun _ _ _ _ _ _ us hl => match us, hl with | [_], _ => rfl)
theorem T_is_term (X : K.In h) (G : h.Ns mainGlobals mg) (c : He.SaysX hFa hFn [] hTf hEx w h K) : TopD K mg "is_term" s_is_term ["machine", "value", "deep"] := topD_dfl X G (c.t.d.fact 42 (f := .glo "is_term") rfl) (c.t.d.def_ 42 (d := dd_is_term) rfl) (fun T kV doc pm an cdv ct us its h1 h2 => match us, its, h1, h2 with | [_, _, _], [_], _, _ => ⟨_, rfl, rfl⟩)
theorem T_is_wish (X : K.In h) (G : h.Ns mainGlobals mg) (c : He.SaysX hFa hFn [] hTf hEx w h K) : TopD K mg "is_wish" s_is_wish ["machine", "value"] := topD_of X G (c.t.d.fact 43 (f := .glo "is_wish") rfl) (c.t.d.def_ 43 (d := dd_is_wish) rfl) (fun _ _ _ _ _ _ us hl => match us, hl with | [_, _], _ => rfl)
theorem T_need_wishes (X : K.In h) (G : h.Ns mainGlobals mg) (c : He.SaysX hFa hFn [] hTf hEx w h K) : TopD K mg "need_wishes" s_need_wishes ["machine", "value"] := topD_of X G (c.t.d.fact 44 (f := .glo "need_wishes") rfl) (c.t.d.def_ 44 (d := dd_need_wishes) rfl) (fun _ _ _ _ _ _ us hl => match us, hl with | [_, _], _ => rfl)
theorem T_wishes_text (X : K.In h) (G : h.Ns mainGlobals mg) (c : He.SaysX hFa hFn [] hTf hEx w h K) : TopD K mg "wishes_text" s_wishes_text ["machine", "wishes"] := topD_of X G (c.t.d.fact 45 (f := .glo "wishes_text") rfl) (c.t.d.def_ 45 (d := dd_wishes_text) rfl) (fun _ _ _ _ _ _ us hl => match us, hl with | [_, _], _ => rfl)
theorem T_read_wishes (X : K.In h) (G : h.Ns mainGlobals mg) (c : He.SaysX hFa hFn [] hTf hEx w h K) : TopD K mg "read_wishes" s_read_wishes ["machine", "text"] := topD_of X G (c.t.d.fact 46 (f := .glo "read_wishes") rfl) (c.t.d.def_ 46 (d := dd_read_wishes) rfl) (fun _ _ _ _ _ _ us hl => match us, hl with | [_, _], _ => rfl)
theorem T__law_read_wishes (X : K.In h) (G : h.Ns mainGlobals mg) (c : He.SaysX hFa hFn [] hTf hEx w h K) : TopD K mg "_law_read_wishes" s__law_read_wishes ["_law_machine_here", "_law_text_here"] := topD_of X G (c.t.d.fact 47 (f := .glo "_law_read_wishes") rfl) (c.t.d.def_ 47 (d := dd__law_read_wishes) rfl) (fun _ _ _ _ _ _ us hl => match us, hl with | [_, _], _ => rfl)
theorem T__law_subsets (X : K.In h) (G : h.Ns mainGlobals mg) (c : He.SaysX hFa hFn [] hTf hEx w h K) : TopD K mg "_law_subsets" s__law_subsets ["_law_many"] := topD_of X G (c.t.d.fact 48 (f := .glo "_law_subsets") rfl) (c.t.d.def_ 48 (d := dd__law_subsets) rfl) (fun _ _ _ _ _ _ us hl => match us, hl with | [_], _ => rfl)
theorem T__law_near (X : K.In h) (G : h.Ns mainGlobals mg) (c : He.SaysX hFa hFn [] hTf hEx w h K) : TopD K mg "_law_near" s__law_near ["_law_losses", "_law_many"] := topD_of X G (c.t.d.fact 49 (f := .glo "_law_near") rfl) (c.t.d.def_ 49 (d := dd__law_near) rfl) (fun _ _ _ _ _ _ us hl => match us, hl with | [_, _], _ => rfl)
theorem T_law (X : K.In h) (G : h.Ns mainGlobals mg) (c : He.SaysX hFa hFn [] hTf hEx w h K) : TopD K mg "law" s_law ["_law_script"] := topD_of X G (c.t.d.fact 50 (f := .glo "law") rfl) (c.t.d.def_ 50 (d := dd_law) rfl) (fun _ _ _ _ _ _ us hl => match us, hl with | [_], _ => rfl)
theorem TD_is_term (X : K.In h) (G : h.Ns mainGlobals mg) (c : He.SaysX hFa hFn [] hTf hEx w h K) : TopDD K mg "is_term" s_is_term ["machine", "value", "deep"] 8 := topDD_of X G (c.t.d.fact 42 (f := .glo "is_term") rfl) (c.t.d.def_ 42 (d := dd_is_term) rfl) (fun T kV doc pm an cdv ct us its h1 h2 => match us, its, h1, h2 with | [_, _], [_], _, _ => ⟨_, rfl, rfl⟩)
theorem blt_of (X : K.In h) (G : h.Ns mainGlobals mg) (c : He.SaysX hFa hFn [] hTf hEx w h K) : Blt mg := ⟨He.free_ok X G (c.t.d.fact 53 (f := .free "len") rfl), He.free_ok X G (c.t.d.fact 54 (f := .free "int") rfl), He.free_ok X G (c.t.d.fact 55 (f := .free "str") rfl), He.free_ok X G (c.t.d.fact 56 (f := .free "tuple") rfl), He.free_ok X G (c.t.d.fact 57 (f := .free "list") rfl), He.free_ok X G (c.t.d.fact 58 (f := .free "bool") rfl), He.free_ok X G (c.t.d.fact 59 (f := .free "max") rfl), He.free_ok X G (c.t.d.fact 60 (f := .free "isinstance") rfl), He.free_ok X G (c.t.d.fact 61 (f := .free "range") rfl), He.free_ok X G (c.t.d.fact 62 (f := .free "enumerate") rfl), He.free_ok X G (c.t.d.fact 63 (f := .free "zip") rfl), He.free_ok X G (c.t.d.fact 64 (f := .free "all") rfl), He.free_ok X G (c.t.d.fact 65 (f := .free "any") rfl), He.free_ok X G (c.t.d.fact 66 (f := .free "sorted") rfl), He.free_ok X G (c.t.d.fact 67 (f := .free "dict") rfl)⟩
theorem ini_of (X : K.In h) (G : h.Ns mainGlobals mg) (c : He.SaysX hFa hFn [] hTf hEx w h K) : ∃ (fI : Addr) (fd : FuncData), PySem.W.findIn K (.ref (He.ga K "BadText")) "__init__" = some (some (.ref fI)) ∧ PySem.W.typeIn K (.ref fI) = some (.type "function") ∧ FnOk P w K mg base CX0 1 fI fd ["self", "line"] (spInit K) ∧ Binds K fd ["self", "line"] [] := by
  have m := He.meth_ok (c.t.d.fact 80 (f := .meth "BadText" "__init__") rfl)
  obtain ⟨fd, F⟩ := c.t.d.def_ 51 (d := dd_init) rfl
  exact ⟨_, fd, m.at_, beq_iff_eq.mp m.fn, ok_init F, FunD.bindsN (ps := ["self", "line"]) F (fun _ _ _ _ _ _ us hl => match us, hl with | [_, _], _ => rfl)⟩
theorem ex_of (c : He.SaysX hFa hFn [] hTf hEx w h K) : OexC K (He.ga K "BadText") ∧ XfC K (He.ga K "BadText") ∧ (hTf.map fun p => (He.cT K p).2).Nodup := by
  have e := c.more
  unfold hEx at e
  obtain ⟨e1, e2⟩ := He.ba e
  obtain ⟨e2, e3⟩ := He.ba e2
  exact ⟨oexB_ok e1, xfB_ok e2, of_decide_eq_true e3⟩
theorem err_of (X : K.In h) (G : h.Ns mainGlobals mg) (c : He.SaysX hFa hFn [] hTf hEx w h K) : ErrT P w K mg base (ctxOf K) := by
  obtain ⟨x1, x2, x3, x4⟩ := He.exc_ok (c.t.d.fact 75 (f := .exc "BadLosses") rfl)
  exact ⟨He.glo_ok X G (c.t.d.fact 51 (f := .glo "BadText") rfl), (ex_of c).1, He.noat_ok (c.t.d.fact 79 (f := .noat "BadText" "line") rfl), ini_of X G c, (ex_of c).2.1, He.exm_ok (c.t.d.fact 76 (f := .exm "BadText" "BadText" true) rfl), He.glo_ok X G (c.t.d.fact 52 (f := .glo "BadLosses") rfl), x2, x1, x3, x4, He.exm_ok (c.t.d.fact 77 (f := .exm "BadLosses" "BadText" false) rfl), He.exm_ok (c.t.d.fact 78 (f := .exm "BadLosses" "BadLosses" true) rfl)⟩
theorem glob_of (X : K.In h) (G : h.Ns mainGlobals mg) (c : He.SaysX hFa hFn [] hTf hEx w h K) : Glob P w K mg base (ctxOf K) := ⟨blt_of X G c, err_of X G c, He.str_ok X G (c.t.d.fact 68 (f := .str "FIGURES" "0123456789") rfl), He.int_ok X G (c.t.d.fact 69 (f := .int "MOST_CELLS" 4) rfl), He.int_ok X G (c.t.d.fact 70 (f := .int "MOST_DEEP" 8) rfl), He.int_ok X G (c.t.d.fact 71 (f := .int "MOST_FUNCTIONS" 3) rfl), He.int_ok X G (c.t.d.fact 72 (f := .int "MOST_LINES" 60) rfl), He.int_ok X G (c.t.d.fact 73 (f := .int "MOST_LOST" 3) rfl), He.int_ok X G (c.t.d.fact 74 (f := .int "MOST_READ" 2) rfl), told_of (T__law_told X G c)⟩
theorem nd_of (c : He.SaysX hFa hFn [] hTf hEx w h K) : ((ctxOf K).T.map (·.1)).Nodup := (ex_of c).2.2
theorem tf_need_machine (c : He.SaysX hFa hFn [] hTf hEx w h K) (tb : ∀ p ∈ hTf, LamX.TabB base mg (He.cT K p).1 (He.cT K p).2) : TabF mg base (ctxOf K) "need_machine" "<genexpr>" (He.cT K ("need_machine", none)).1 (He.cT K ("need_machine", none)).2 := ⟨tb ("need_machine", none) (by simp [hTf]), by simp [ctxOf], uni_of (nd_of c) (by simp [ctxOf])⟩
theorem tf_is_line (c : He.SaysX hFa hFn [] hTf hEx w h K) (tb : ∀ p ∈ hTf, LamX.TabB base mg (He.cT K p).1 (He.cT K p).2) : TabF mg base (ctxOf K) "is_line" "<genexpr>" (He.cT K ("is_line", none)).1 (He.cT K ("is_line", none)).2 := ⟨tb ("is_line", none) (by simp [hTf]), by simp [ctxOf], uni_of (nd_of c) (by simp [ctxOf])⟩
theorem tf_are_losses (c : He.SaysX hFa hFn [] hTf hEx w h K) (tb : ∀ p ∈ hTf, LamX.TabB base mg (He.cT K p).1 (He.cT K p).2) : TabF mg base (ctxOf K) "are_losses" "<genexpr>" (He.cT K ("are_losses", none)).1 (He.cT K ("are_losses", none)).2 := ⟨tb ("are_losses", none) (by simp [hTf]), by simp [ctxOf], uni_of (nd_of c) (by simp [ctxOf])⟩
theorem tf_is_term (c : He.SaysX hFa hFn [] hTf hEx w h K) (tb : ∀ p ∈ hTf, LamX.TabB base mg (He.cT K p).1 (He.cT K p).2) : TabF mg base (ctxOf K) "is_term" "<genexpr>" (He.cT K ("is_term", none)).1 (He.cT K ("is_term", none)).2 := ⟨tb ("is_term", none) (by simp [hTf]), by simp [ctxOf], uni_of (nd_of c) (by simp [ctxOf])⟩
theorem tf_law (c : He.SaysX hFa hFn [] hTf hEx w h K) (tb : ∀ p ∈ hTf, LamX.TabB base mg (He.cT K p).1 (He.cT K p).2) : TabF mg base (ctxOf K) "law" "<lambda>" (He.cT K ("law", none)).1 (He.cT K ("law", none)).2 := ⟨tb ("law", none) (by simp [hTf]), by simp [ctxOf], uni_of (nd_of c) (by simp [ctxOf])⟩
theorem G__law_taken (X : K.In h) (G : h.Ns mainGlobals mg) (c : He.SaysX hFa hFn [] hTf hEx w h K) (tb : ∀ p ∈ hTf, LamX.TabB base mg (He.cT K p).1 (He.cT K p).2) : DFn P w K mg base (ctxOf K) (L2.CX P w) 2 "_law_taken" 2 F__law_taken := dfn_top (T__law_taken X G c) sc__law_taken rfl (fun f A outer s H E hr => b__law_taken (glob_of X G c)  hr)
theorem G__law_machine (X : K.In h) (G : h.Ns mainGlobals mg) (c : He.SaysX hFa hFn [] hTf hEx w h K) (tb : ∀ p ∈ hTf, LamX.TabB base mg (He.cT K p).1 (He.cT K p).2) : DFn P w K mg base (ctxOf K) (L2.CX P w) 3 "_law_machine" 1 F__law_machine := dfn_top (T__law_machine X G c) sc__law_machine rfl (fun f A outer s H E hr => b__law_machine (glob_of X G c) (G__law_taken X G c tb) hr)
theorem G__law_pick (X : K.In h) (G : h.Ns mainGlobals mg) (c : He.SaysX hFa hFn [] hTf hEx w h K) (tb : ∀ p ∈ hTf, LamX.TabB base mg (He.cT K p).1 (He.cT K p).2) : DFn P w K mg base (ctxOf K) (L2.CX P w) 3 "_law_pick" 2 F__law_pick := dfn_top (T__law_pick X G c) sc__law_pick rfl (fun f A outer s H E hr => b__law_pick (glob_of X G c) (G__law_taken X G c tb) hr)
theorem G__law_line (X : K.In h) (G : h.Ns mainGlobals mg) (c : He.SaysX hFa hFn [] hTf hEx w h K) (tb : ∀ p ∈ hTf, LamX.TabB base mg (He.cT K p).1 (He.cT K p).2) : DFn P w K mg base (ctxOf K) (L2.CX P w) 4 "_law_line" 2 F__law_line := dfn_top (T__law_line X G c) sc__law_line rfl (fun f A outer s H E hr => b__law_line (glob_of X G c) (G__law_taken X G c tb) (G__law_pick X G c tb) hr)
theorem G__law_program (X : K.In h) (G : h.Ns mainGlobals mg) (c : He.SaysX hFa hFn [] hTf hEx w h K) (tb : ∀ p ∈ hTf, LamX.TabB base mg (He.cT K p).1 (He.cT K p).2) : DFn P w K mg base (ctxOf K) (L2.CX P w) 5 "_law_program" 3 F__law_program := dfn_top (T__law_program X G c) sc__law_program rfl (fun f A outer s H E hr => b__law_program (glob_of X G c) (G__law_taken X G c tb) (G__law_line X G c tb) hr)
theorem G__law_done (X : K.In h) (G : h.Ns mainGlobals mg) (c : He.SaysX hFa hFn [] hTf hEx w h K) (tb : ∀ p ∈ hTf, LamX.TabB base mg (He.cT K p).1 (He.cT K p).2) : DFn P w K mg base (ctxOf K) (L2.CX P w) 2 "_law_done" 2 F__law_done := dfn_top (T__law_done X G c) sc__law_done rfl (fun f A outer s H E hr => b__law_done (glob_of X G c)  hr)
theorem G__law_run (X : K.In h) (G : h.Ns mainGlobals mg) (c : He.SaysX hFa hFn [] hTf hEx w h K) (tb : ∀ p ∈ hTf, LamX.TabB base mg (He.cT K p).1 (He.cT K p).2) : DFn P w K mg base (ctxOf K) (L2.CX P w) 3 "_law_run" 2 F__law_run := dfn_top (T__law_run X G c) sc__law_run rfl (fun f A outer s H E hr => b__law_run (glob_of X G c) (G__law_done X G c tb) hr)
theorem G__law_wishes (X : K.In h) (G : h.Ns mainGlobals mg) (c : He.SaysX hFa hFn [] hTf hEx w h K) (tb : ∀ p ∈ hTf, LamX.TabB base mg (He.cT K p).1 (He.cT K p).2) : DFn P w K mg base (ctxOf K) (L2.CX P w) 4 "_law_wishes" 3 F__law_wishes := dfn_top (T__law_wishes X G c) sc__law_wishes rfl (fun f A outer s H E hr => b__law_wishes (glob_of X G c) (G__law_run X G c tb) (G__law_taken X G c tb) hr)
theorem G__law_bent (X : K.In h) (G : h.Ns mainGlobals mg) (c : He.SaysX hFa hFn [] hTf hEx w h K) (tb : ∀ p ∈ hTf, LamX.TabB base mg (He.cT K p).1 (He.cT K p).2) : DFn P w K mg base (ctxOf K) (L2.CX P w) 4 "_law_bent" 3 F__law_bent := dfn_top (T__law_bent X G c) sc__law_bent rfl (fun f A outer s H E hr => b__law_bent (glob_of X G c) (G__law_pick X G c tb) (G__law_taken X G c tb) hr)
theorem R__law_text (X : K.In h) (G : h.Ns mainGlobals mg) (c : He.SaysX hFa hFn [] hTf hEx w h K) (tb : ∀ p ∈ hTf, LamX.TabB base mg (He.cT K p).1 (He.cT K p).2) (m : Nat) : DFn P w K mg base (ctxOf K) (L2.CX P w) (2 + 1 * m) "_law_text" 1 (F__law_text m) := dfn_rec 2 1 (by decide) (T__law_text X G c) sc__law_text rfl (B := B__law_text) (fun m F Gs f A outer s H E hr => b__law_text (glob_of X G c)  Gs hr) F__law_text rfl (fun _ => rfl) m
theorem G__law_text (X : K.In h) (G : h.Ns mainGlobals mg) (c : He.SaysX hFa hFn [] hTf hEx w h K) (tb : ∀ p ∈ hTf, LamX.TabB base mg (He.cT K p).1 (He.cT K p).2) : DFn P w K mg base (ctxOf K) (L2.CX P w) 22 "_law_text" 1 (F__law_text 20) := R__law_text X G c tb 20
theorem G__law_all_terms (X : K.In h) (G : h.Ns mainGlobals mg) (c : He.SaysX hFa hFn [] hTf hEx w h K) (tb : ∀ p ∈ hTf, LamX.TabB base mg (He.cT K p).1 (He.cT K p).2) : DFn P w K mg base (ctxOf K) (L2.CX P w) 23 "_law_all_terms" 2 F__law_all_terms := dfn_top (T__law_all_terms X G c) sc__law_all_terms rfl (fun f A outer s H E hr => b__law_all_terms (glob_of X G c) (G__law_text X G c tb) hr)
theorem G_is_number (X : K.In h) (G : h.Ns mainGlobals mg) (c : He.SaysX hFa hFn [] hTf hEx w h K) (tb : ∀ p ∈ hTf, LamX.TabB base mg (He.cT K p).1 (He.cT K p).2) : DFn P w K mg base (ctxOf K) (L2.CX P w) 2 "is_number" 3 F_is_number := dfn_top (T_is_number X G c) sc_is_number rfl (fun f A outer s H E hr => b_is_number (glob_of X G c)  hr)
theorem G_need_machine (X : K.In h) (G : h.Ns mainGlobals mg) (c : He.SaysX hFa hFn [] hTf hEx w h K) (tb : ∀ p ∈ hTf, LamX.TabB base mg (He.cT K p).1 (He.cT K p).2) : DFn P w K mg base (ctxOf K) (L2.CX P w) 4 "need_machine" 1 F_need_machine := dfn_top (T_need_machine X G c) sc_need_machine rfl (fun f A outer s H E hr => b_need_machine (glob_of X G c) (G_is_number X G c tb) (tf_need_machine c tb) hr)
theorem G_figure (X : K.In h) (G : h.Ns mainGlobals mg) (c : He.SaysX hFa hFn [] hTf hEx w h K) (tb : ∀ p ∈ hTf, LamX.TabB base mg (He.cT K p).1 (He.cT K p).2) : DFn P w K mg base (ctxOf K) (L2.CX P w) 2 "figure" 3 F_figure := dfn_top (T_figure X G c) sc_figure rfl (fun f A outer s H E hr => b_figure (glob_of X G c)  hr)
theorem R_term_at (X : K.In h) (G : h.Ns mainGlobals mg) (c : He.SaysX hFa hFn [] hTf hEx w h K) (tb : ∀ p ∈ hTf, LamX.TabB base mg (He.cT K p).1 (He.cT K p).2) (m : Nat) : DFn P w K mg base (ctxOf K) (L2.CX P w) (3 + 1 * m) "term_at" 4 (F_term_at m) := dfn_rec 3 1 (by decide) (T_term_at X G c) sc_term_at rfl (B := B_term_at) (fun m F Gs f A outer s H E hr => b_term_at (glob_of X G c) (G_figure X G c tb) Gs hr) F_term_at rfl (fun _ => rfl) m
theorem G_term_at (X : K.In h) (G : h.Ns mainGlobals mg) (c : He.SaysX hFa hFn [] hTf hEx w h K) (tb : ∀ p ∈ hTf, LamX.TabB base mg (He.cT K p).1 (He.cT K p).2) : DFn P w K mg base (ctxOf K) (L2.CX P w) 23 "term_at" 4 (F_term_at 20) := R_term_at X G c tb 20
theorem G_read_term (X : K.In h) (G : h.Ns mainGlobals mg) (c : He.SaysX hFa hFn [] hTf hEx w h K) (tb : ∀ p ∈ hTf, LamX.TabB base mg (He.cT K p).1 (He.cT K p).2) : DFn P w K mg base (ctxOf K) (L2.CX P w) 24 "read_term" 2 F_read_term := dfn_top (T_read_term X G c) sc_read_term rfl (fun f A outer s H E hr => b_read_term (glob_of X G c) (G_need_machine X G c tb) (G_term_at X G c tb) hr)
theorem G__law_told_term (X : K.In h) (G : h.Ns mainGlobals mg) (c : He.SaysX hFa hFn [] hTf hEx w h K) (tb : ∀ p ∈ hTf, LamX.TabB base mg (He.cT K p).1 (He.cT K p).2) : DFn P w K mg base (ctxOf K) (L2.CX P w) 25 "_law_told_term" 2 F__law_told_term := dfn_top (T__law_told_term X G c) sc__law_told_term rfl (fun f A outer s H E hr => b__law_told_term (glob_of X G c) (G_read_term X G c tb) hr)
theorem G__law_split (X : K.In h) (G : h.Ns mainGlobals mg) (c : He.SaysX hFa hFn [] hTf hEx w h K) (tb : ∀ p ∈ hTf, LamX.TabB base mg (He.cT K p).1 (He.cT K p).2) : DFn P w K mg base (ctxOf K) (L2.CX P w) 2 "_law_split" 1 F__law_split := dfn_top (T__law_split X G c) sc__law_split rfl (fun f A outer s H E hr => b__law_split (glob_of X G c)  hr)
theorem R__law_term (X : K.In h) (G : h.Ns mainGlobals mg) (c : He.SaysX hFa hFn [] hTf hEx w h K) (tb : ∀ p ∈ hTf, LamX.TabB base mg (He.cT K p).1 (He.cT K p).2) (m : Nat) : DFn P w K mg base (ctxOf K) (L2.CX P w) (3 + 1 * m) "_law_term" 3 (F__law_term m) := dfn_rec 3 1 (by decide) (T__law_term X G c) sc__law_term rfl (B := B__law_term) (fun m F Gs f A outer s H E hr => b__law_term (glob_of X G c) (G__law_split X G c tb) Gs hr) F__law_term rfl (fun _ => rfl) m
theorem G__law_term (X : K.In h) (G : h.Ns mainGlobals mg) (c : He.SaysX hFa hFn [] hTf hEx w h K) (tb : ∀ p ∈ hTf, LamX.TabB base mg (He.cT K p).1 (He.cT K p).2) : DFn P w K mg base (ctxOf K) (L2.CX P w) 23 "_law_term" 3 (F__law_term 20) := R__law_term X G c tb 20
theorem R__law_alike (X : K.In h) (G : h.Ns mainGlobals mg) (c : He.SaysX hFa hFn [] hTf hEx w h K) (tb : ∀ p ∈ hTf, LamX.TabB base mg (He.cT K p).1 (He.cT K p).2) (m : Nat) : DFn P w K mg base (ctxOf K) (L2.CX P w) (2 + 1 * m) "_law_alike" 2 (F__law_alike m) := dfn_rec 2 1 (by decide) (T__law_alike X G c) sc__law_alike rfl (B := B__law_alike) (fun m F Gs f A outer s H E hr => b__law_alike (glob_of X G c)  Gs hr) F__law_alike rfl (fun _ => rfl) m
theorem G__law_alike (X : K.In h) (G : h.Ns mainGlobals mg) (c : He.SaysX hFa hFn [] hTf hEx w h K) (tb : ∀ p ∈ hTf, LamX.TabB base mg (He.cT K p).1 (He.cT K p).2) : DFn P w K mg base (ctxOf K) (L2.CX P w) 22 "_law_alike" 2 (F__law_alike 20) := R__law_alike X G c tb 20
theorem G__law_terms_right (X : K.In h) (G : h.Ns mainGlobals mg) (c : He.SaysX hFa hFn [] hTf hEx w h K) (tb : ∀ p ∈ hTf, LamX.TabB base mg (He.cT K p).1 (He.cT K p).2) : DFn P w K mg base (ctxOf K) (L2.CX P w) 26 "_law_terms_right" 2 F__law_terms_right := dfn_top (T__law_terms_right X G c) sc__law_terms_right rfl (fun f A outer s H E hr => b__law_terms_right (glob_of X G c) (G__law_all_terms X G c tb) (G__law_pick X G c tb) (G__law_taken X G c tb) (G__law_told_term X G c tb) (G__law_term X G c tb) (G__law_alike X G c tb) hr)
theorem G__law_line_text (X : K.In h) (G : h.Ns mainGlobals mg) (c : He.SaysX hFa hFn [] hTf hEx w h K) (tb : ∀ p ∈ hTf, LamX.TabB base mg (He.cT K p).1 (He.cT K p).2) : DFn P w K mg base (ctxOf K) (L2.CX P w) 2 "_law_line_text" 1 F__law_line_text := dfn_top (T__law_line_text X G c) sc__law_line_text rfl (fun f A outer s H E hr => b__law_line_text (glob_of X G c)  hr)
theorem G_is_line (X : K.In h) (G : h.Ns mainGlobals mg) (c : He.SaysX hFa hFn [] hTf hEx w h K) (tb : ∀ p ∈ hTf, LamX.TabB base mg (He.cT K p).1 (He.cT K p).2) : DFn P w K mg base (ctxOf K) (L2.CX P w) 4 "is_line" 2 F_is_line := dfn_top (T_is_line X G c) sc_is_line rfl (fun f A outer s H E hr => b_is_line (glob_of X G c) (G_is_number X G c tb) (tf_is_line c tb) hr)
theorem G_need_program (X : K.In h) (G : h.Ns mainGlobals mg) (c : He.SaysX hFa hFn [] hTf hEx w h K) (tb : ∀ p ∈ hTf, LamX.TabB base mg (He.cT K p).1 (He.cT K p).2) : DFn P w K mg base (ctxOf K) (L2.CX P w) 5 "need_program" 2 F_need_program := dfn_top (T_need_program X G c) sc_need_program rfl (fun f A outer s H E hr => b_need_program (glob_of X G c) (G_is_line X G c tb) hr)
theorem G_need_many (X : K.In h) (G : h.Ns mainGlobals mg) (c : He.SaysX hFa hFn [] hTf hEx w h K) (tb : ∀ p ∈ hTf, LamX.TabB base mg (He.cT K p).1 (He.cT K p).2) : DFn P w K mg base (ctxOf K) (L2.CX P w) 3 "need_many" 1 F_need_many := dfn_top (T_need_many X G c) sc_need_many rfl (fun f A outer s H E hr => b_need_many (glob_of X G c) (G_is_number X G c tb) hr)
theorem G_are_losses (X : K.In h) (G : h.Ns mainGlobals mg) (c : He.SaysX hFa hFn [] hTf hEx w h K) (tb : ∀ p ∈ hTf, LamX.TabB base mg (He.cT K p).1 (He.cT K p).2) : DFn P w K mg base (ctxOf K) (L2.CX P w) 4 "are_losses" 3 F_are_losses := dfn_top (T_are_losses X G c) sc_are_losses rfl (fun f A outer s H E hr => b_are_losses (glob_of X G c) (G_is_number X G c tb) (tf_are_losses c tb) hr)
theorem G_first_terms (X : K.In h) (G : h.Ns mainGlobals mg) (c : He.SaysX hFa hFn [] hTf hEx w h K) (tb : ∀ p ∈ hTf, LamX.TabB base mg (He.cT K p).1 (He.cT K p).2) : DFn P w K mg base (ctxOf K) (L2.CX P w) 2 "first_terms" 1 F_first_terms := dfn_top (T_first_terms X G c) sc_first_terms rfl (fun f A outer s H E hr => b_first_terms (glob_of X G c)  hr)
theorem R_depth (X : K.In h) (G : h.Ns mainGlobals mg) (c : He.SaysX hFa hFn [] hTf hEx w h K) (tb : ∀ p ∈ hTf, LamX.TabB base mg (He.cT K p).1 (He.cT K p).2) (m : Nat) : DFn P w K mg base (ctxOf K) (L2.CX P w) (2 + 1 * m) "depth" 1 (F_depth m) := dfn_rec 2 1 (by decide) (T_depth X G c) sc_depth rfl (B := B_depth) (fun m F Gs f A outer s H E hr => b_depth (glob_of X G c)  Gs hr) F_depth rfl (fun _ => rfl) m
theorem G_depth (X : K.In h) (G : h.Ns mainGlobals mg) (c : He.SaysX hFa hFn [] hTf hEx w h K) (tb : ∀ p ∈ hTf, LamX.TabB base mg (He.cT K p).1 (He.cT K p).2) : DFn P w K mg base (ctxOf K) (L2.CX P w) 22 "depth" 1 (F_depth 20) := R_depth X G c tb 20
theorem G_done (X : K.In h) (G : h.Ns mainGlobals mg) (c : He.SaysX hFa hFn [] hTf hEx w h K) (tb : ∀ p ∈ hTf, LamX.TabB base mg (He.cT K p).1 (He.cT K p).2) : DFn P w K mg base (ctxOf K) (L2.CX P w) 23 "done" 2 F_done := dfn_top (T_done X G c) sc_done rfl (fun f A outer s H E hr => b_done (glob_of X G c) (G_depth X G c tb) hr)
theorem G_line_text (X : K.In h) (G : h.Ns mainGlobals mg) (c : He.SaysX hFa hFn [] hTf hEx w h K) (tb : ∀ p ∈ hTf, LamX.TabB base mg (He.cT K p).1 (He.cT K p).2) : DFn P w K mg base (ctxOf K) (L2.CX P w) 2 "line_text" 1 F_line_text := dfn_top (T_line_text X G c) sc_line_text rfl (fun f A outer s H E hr => b_line_text (glob_of X G c)  hr)
theorem R_text_of (X : K.In h) (G : h.Ns mainGlobals mg) (c : He.SaysX hFa hFn [] hTf hEx w h K) (tb : ∀ p ∈ hTf, LamX.TabB base mg (He.cT K p).1 (He.cT K p).2) (m : Nat) : DFn P w K mg base (ctxOf K) (L2.CX P w) (2 + 1 * m) "text_of" 1 (F_text_of m) := dfn_rec 2 1 (by decide) (T_text_of X G c) sc_text_of rfl (B := B_text_of) (fun m F Gs f A outer s H E hr => b_text_of (glob_of X G c)  Gs hr) F_text_of rfl (fun _ => rfl) m
theorem G_text_of (X : K.In h) (G : h.Ns mainGlobals mg) (c : He.SaysX hFa hFn [] hTf hEx w h K) (tb : ∀ p ∈ hTf, LamX.TabB base mg (He.cT K p).1 (He.cT K p).2) : DFn P w K mg base (ctxOf K) (L2.CX P w) 22 "text_of" 1 (F_text_of 20) := R_text_of X G c tb 20
theorem G_told (X : K.In h) (G : h.Ns mainGlobals mg) (c : He.SaysX hFa hFn [] hTf hEx w h K) (tb : ∀ p ∈ hTf, LamX.TabB base mg (He.cT K p).1 (He.cT K p).2) : DFn P w K mg base (ctxOf K) (L2.CX P w) 24 "told" 4 F_told := dfn_top (T_told X G c) sc_told rfl (fun f A outer s H E hr => b_told (glob_of X G c) (G_need_machine X G c tb) (G_need_program X G c tb) (G_need_many X G c tb) (G_are_losses X G c tb) (G_first_terms X G c tb) (G_done X G c tb) (G_line_text X G c tb) (G_text_of X G c tb) hr)
theorem G__law_rows (X : K.In h) (G : h.Ns mainGlobals mg) (c : He.SaysX hFa hFn [] hTf hEx w h K) (tb : ∀ p ∈ hTf, LamX.TabB base mg (He.cT K p).1 (He.cT K p).2) : DFn P w K mg base (ctxOf K) (L2.CX P w) 23 "_law_rows" 3 F__law_rows := dfn_top (T__law_rows X G c) sc__law_rows rfl (fun f A outer s H E hr => b__law_rows (glob_of X G c) (G__law_done X G c tb) (G__law_line_text X G c tb) (G__law_text X G c tb) hr)
theorem G_written (X : K.In h) (G : h.Ns mainGlobals mg) (c : He.SaysX hFa hFn [] hTf hEx w h K) (tb : ∀ p ∈ hTf, LamX.TabB base mg (He.cT K p).1 (He.cT K p).2) : DFn P w K mg base (ctxOf K) (L2.CX P w) 6 "written" 2 F_written := dfn_top (T_written X G c) sc_written rfl (fun f A outer s H E hr => b_written (glob_of X G c) (G_need_machine X G c tb) (G_need_program X G c tb) (G_line_text X G c tb) hr)
theorem G_lines_of (X : K.In h) (G : h.Ns mainGlobals mg) (c : He.SaysX hFa hFn [] hTf hEx w h K) (tb : ∀ p ∈ hTf, LamX.TabB base mg (He.cT K p).1 (He.cT K p).2) : DFn P w K mg base (ctxOf K) (L2.CX P w) 3 "lines_of" 1 F_lines_of := dfn_top (T_lines_of X G c) sc_lines_of rfl (fun f A outer s H E hr => b_lines_of (glob_of X G c)  hr)
theorem G_cell_of (X : K.In h) (G : h.Ns mainGlobals mg) (c : He.SaysX hFa hFn [] hTf hEx w h K) (tb : ∀ p ∈ hTf, LamX.TabB base mg (He.cT K p).1 (He.cT K p).2) : DFn P w K mg base (ctxOf K) (L2.CX P w) 3 "cell_of" 1 F_cell_of := dfn_top (T_cell_of X G c) sc_cell_of rfl (fun f A outer s H E hr => b_cell_of (glob_of X G c) (G_figure X G c tb) hr)
theorem G_line_of (X : K.In h) (G : h.Ns mainGlobals mg) (c : He.SaysX hFa hFn [] hTf hEx w h K) (tb : ∀ p ∈ hTf, LamX.TabB base mg (He.cT K p).1 (He.cT K p).2) : DFn P w K mg base (ctxOf K) (L2.CX P w) 5 "line_of" 2 F_line_of := dfn_top (T_line_of X G c) sc_line_of rfl (fun f A outer s H E hr => b_line_of (glob_of X G c) (G_cell_of X G c tb) (G_figure X G c tb) (G_is_line X G c tb) hr)
theorem G_read_program (X : K.In h) (G : h.Ns mainGlobals mg) (c : He.SaysX hFa hFn [] hTf hEx w h K) (tb : ∀ p ∈ hTf, LamX.TabB base mg (He.cT K p).1 (He.cT K p).2) : DFn P w K mg base (ctxOf K) (L2.CX P w) 6 "read_program" 1 F_read_program := dfn_top (T_read_program X G c) sc_read_program rfl (fun f A outer s H E hr => b_read_program (glob_of X G c) (G_lines_of X G c tb) (G_figure X G c tb) (G_line_of X G c tb) hr)
theorem G__law_lines (X : K.In h) (G : h.Ns mainGlobals mg) (c : He.SaysX hFa hFn [] hTf hEx w h K) (tb : ∀ p ∈ hTf, LamX.TabB base mg (He.cT K p).1 (He.cT K p).2) : DFn P w K mg base (ctxOf K) (L2.CX P w) 2 "_law_lines" 1 F__law_lines := dfn_top (T__law_lines X G c) sc__law_lines rfl (fun f A outer s H E hr => b__law_lines (glob_of X G c)  hr)
theorem G__law_line_of (X : K.In h) (G : h.Ns mainGlobals mg) (c : He.SaysX hFa hFn [] hTf hEx w h K) (tb : ∀ p ∈ hTf, LamX.TabB base mg (He.cT K p).1 (He.cT K p).2) : DFn P w K mg base (ctxOf K) (L2.CX P w) 24 "_law_line_of" 2 F__law_line_of := dfn_top (T__law_line_of X G c) sc__law_line_of rfl (fun f A outer s H E hr => b__law_line_of (glob_of X G c) (G__law_term X G c tb) hr)
theorem G__law_read (X : K.In h) (G : h.Ns mainGlobals mg) (c : He.SaysX hFa hFn [] hTf hEx w h K) (tb : ∀ p ∈ hTf, LamX.TabB base mg (He.cT K p).1 (He.cT K p).2) : DFn P w K mg base (ctxOf K) (L2.CX P w) 25 "_law_read" 1 F__law_read := dfn_top (T__law_read X G c) sc__law_read rfl (fun f A outer s H E hr => b__law_read (glob_of X G c) (G__law_lines X G c tb) (G__law_line_of X G c tb) hr)
theorem R_is_term (X : K.In h) (G : h.Ns mainGlobals mg) (c : He.SaysX hFa hFn [] hTf hEx w h K) (tb : ∀ p ∈ hTf, LamX.TabB base mg (He.cT K p).1 (He.cT K p).2) (m : Nat) : DFn P w K mg base (ctxOf K) (L2.CX P w) (3 + 2 * m) "is_term" 3 (F_is_term m) := dfn_rec 3 2 (by decide) (T_is_term X G c) sc_is_term rfl (B := B_is_term) (fun m F Gs f A outer s H E hr => b_is_term (glob_of X G c) (G_is_number X G c tb) Gs (tf_is_term c tb) hr) F_is_term rfl (fun _ => rfl) m
theorem G_is_term (X : K.In h) (G : h.Ns mainGlobals mg) (c : He.SaysX hFa hFn [] hTf hEx w h K) (tb : ∀ p ∈ hTf, LamX.TabB base mg (He.cT K p).1 (He.cT K p).2) : DFn P w K mg base (ctxOf K) (L2.CX P w) 43 "is_term" 3 (F_is_term 20) := R_is_term X G c tb 20
theorem RD_is_term (X : K.In h) (G : h.Ns mainGlobals mg) (c : He.SaysX hFa hFn [] hTf hEx w h K) (tb : ∀ p ∈ hTf, LamX.TabB base mg (He.cT K p).1 (He.cT K p).2) (m : Nat) : DFnD P w K mg base (ctxOf K) (L2.CX P w) (3 + 2 * m) "is_term" 3 8 (F_is_term m) := dfnD_rec 3 2 (by decide) (TD_is_term X G c) sc_is_term rfl (B := B_is_term) (fun m F Gs f A outer s H E hr => b_is_term (glob_of X G c) (G_is_number X G c tb) Gs (tf_is_term c tb) hr) F_is_term rfl (fun _ => rfl) (fun m => R_is_term X G c tb m) m
theorem GD_is_term (X : K.In h) (G : h.Ns mainGlobals mg) (c : He.SaysX hFa hFn [] hTf hEx w h K) (tb : ∀ p ∈ hTf, LamX.TabB base mg (He.cT K p).1 (He.cT K p).2) : DFnD P w K mg base (ctxOf K) (L2.CX P w) 43 "is_term" 3 8 (F_is_term 20) := RD_is_term X G c tb 20
theorem G_is_wish (X : K.In h) (G : h.Ns mainGlobals mg) (c : He.SaysX hFa hFn [] hTf hEx w h K) (tb : ∀ p ∈ hTf, LamX.TabB base mg (He.cT K p).1 (He.cT K p).2) : DFn P w K mg base (ctxOf K) (L2.CX P w) 44 "is_wish" 2 F_is_wish := dfn_top (T_is_wish X G c) sc_is_wish rfl (fun f A outer s H E hr => b_is_wish (glob_of X G c) (G_is_term X G c tb) (GD_is_term X G c tb) (G_is_number X G c tb) hr)
theorem G_need_wishes (X : K.In h) (G : h.Ns mainGlobals mg) (c : He.SaysX hFa hFn [] hTf hEx w h K) (tb : ∀ p ∈ hTf, LamX.TabB base mg (He.cT K p).1 (He.cT K p).2) : DFn P w K mg base (ctxOf K) (L2.CX P w) 45 "need_wishes" 2 F_need_wishes := dfn_top (T_need_wishes X G c) sc_need_wishes rfl (fun f A outer s H E hr => b_need_wishes (glob_of X G c) (G_is_wish X G c tb) hr)
theorem G_wishes_text (X : K.In h) (G : h.Ns mainGlobals mg) (c : He.SaysX hFa hFn [] hTf hEx w h K) (tb : ∀ p ∈ hTf, LamX.TabB base mg (He.cT K p).1 (He.cT K p).2) : DFn P w K mg base (ctxOf K) (L2.CX P w) 46 "wishes_text" 2 F_wishes_text := dfn_top (T_wishes_text X G c) sc_wishes_text rfl (fun f A outer s H E hr => b_wishes_text (glob_of X G c) (G_need_machine X G c tb) (G_need_wishes X G c tb) (G_text_of X G c tb) hr)
theorem G_read_wishes (X : K.In h) (G : h.Ns mainGlobals mg) (c : He.SaysX hFa hFn [] hTf hEx w h K) (tb : ∀ p ∈ hTf, LamX.TabB base mg (He.cT K p).1 (He.cT K p).2) : DFn P w K mg base (ctxOf K) (L2.CX P w) 24 "read_wishes" 2 F_read_wishes := dfn_top (T_read_wishes X G c) sc_read_wishes rfl (fun f A outer s H E hr => b_read_wishes (glob_of X G c) (G_need_machine X G c tb) (G_lines_of X G c tb) (G_cell_of X G c tb) (G_term_at X G c tb) hr)
theorem G__law_read_wishes (X : K.In h) (G : h.Ns mainGlobals mg) (c : He.SaysX hFa hFn [] hTf hEx w h K) (tb : ∀ p ∈ hTf, LamX.TabB base mg (He.cT K p).1 (He.cT K p).2) : DFn P w K mg base (ctxOf K) (L2.CX P w) 24 "_law_read_wishes" 2 F__law_read_wishes := dfn_top (T__law_read_wishes X G c) sc__law_read_wishes rfl (fun f A outer s H E hr => b__law_read_wishes (glob_of X G c) (G__law_lines X G c tb) (G__law_term X G c tb) hr)
theorem G__law_subsets (X : K.In h) (G : h.Ns mainGlobals mg) (c : He.SaysX hFa hFn [] hTf hEx w h K) (tb : ∀ p ∈ hTf, LamX.TabB base mg (He.cT K p).1 (He.cT K p).2) : DFn P w K mg base (ctxOf K) (L2.CX P w) 2 "_law_subsets" 1 F__law_subsets := dfn_top (T__law_subsets X G c) sc__law_subsets rfl (fun f A outer s H E hr => b__law_subsets (glob_of X G c)  hr)
theorem G__law_near (X : K.In h) (G : h.Ns mainGlobals mg) (c : He.SaysX hFa hFn [] hTf hEx w h K) (tb : ∀ p ∈ hTf, LamX.TabB base mg (He.cT K p).1 (He.cT K p).2) : DFn P w K mg base (ctxOf K) (L2.CX P w) 2 "_law_near" 2 F__law_near := dfn_top (T__law_near X G c) sc__law_near rfl (fun f A outer s H E hr => b__law_near (glob_of X G c)  hr)
theorem law_ok (X : K.In h) (G : h.Ns mainGlobals mg) (c : He.SaysX hFa hFn [] hTf hEx w h K) (tb : ∀ p ∈ hTf, LamX.TabB base mg (He.cT K p).1 (He.cT K p).2) {fd : FuncData} {dV : Value} {f : Addr} (T : FunT K "law" s_law f fd (.ref (He.codeOf K ("law", none))) dV) : FnOk P w K mg base (L2.CX P w) 47 f fd ["_law_script"] (spD K (ctxOf K) 1 F_law) := def_of T sc_law rfl fun A outer s H E hr => b_law (glob_of X G c) (G__law_machine X G c tb) (G__law_program X G c tb) (G__law_wishes X G c tb) (G__law_pick X G c tb) (G__law_bent X G c tb) (G__law_terms_right X G c tb) (G__law_taken X G c tb) (G__law_alike X G c tb) (G__law_line_text X G c tb) (G__law_text X G c tb) (G_told X G c tb) (G__law_rows X G c tb) (G_written X G c tb) (G_read_program X G c tb) (G__law_read X G c tb) (G_wishes_text X G c tb) (G_read_wishes X G c tb) (G__law_read_wishes X G c tb) (G__law_subsets X G c tb) (G__law_near X G c tb) (tf_law c tb) hr
end

theorem sp_law {K : PySem.W.Frag} {H : Hp} {a : Addr} {ns : List Int} (hS : SqL K H a (ns.map V.int)) (hT : ∀ p ∈ (ctxOf K).T, H p.1 = some (.tbl #[])) (hL : ∃ S', F_law [.scr ns] [] = some (.ok (.bl true), S')) :
    spD K (ctxOf K) 1 F_law [.ref a] H (fun v _ => v = .bl true) (fun _ _ _ => False) := by
  obtain ⟨S', hL⟩ := hL
  refine ⟨⟨[], []⟩, [], [.scr ns], _, S', rfl, ⟨rfl, List.nodup_nil, fun n a c h => by simp at h, fun p hp => LamX.TabS.nil (hT p hp), fun a h => by cases h⟩, .cons ?_ .nil, hL, fun v M' H' _ _ r => by simpa [Rep] using r⟩
  simp only [Rep]
  refine ⟨a, rfl, ?_⟩
  rcases hS with h | h
  · exact .inl ⟨fun z => (by rcases z with z | z <;> cases z), h⟩
  · exact .inr h
theorem facts {P : Program} {w : World} {K : PySem.W.Frag} {h : Heap} {mg : Str → Option Value} {fa : Addr} (hlaw : ∀ ns : List Int, ns.length ≤ 63 → ∃ S', F_law [.scr ns] [] = some (.ok (.bl true), S')) (X : K.In h) (G : h.Ns mainGlobals mg) (hfa : mg ("law" : Str) = some (.ref fa)) (c : He.SaysX hFa hFn [] hTf hEx w h K) :
    ∃ (fd : FuncData) (cs : List (Addr × Addr)) (sp : Sp), (∀ p ∈ cs, h.get? p.2 = some { cls := .none, data := .fields #[] }) ∧ (∀ p ∈ cs, K.lookup p.2 = none) ∧ (∀ p ∈ cs, PySem.W.CodeHd h p.1 p.2) ∧ (∀ (s : Shared) (u : Value), BindsTo s fd ⟨[u], []⟩ [("_law_script", u)]) ∧
    (∀ (H : Hp) (a : Addr) (ns : List Int), ns.length ≤ 63 → (∀ z ∈ ns, Builtin.Int.intBits z ≤ 1048576) → (∀ p ∈ cs, H p.2 = some (.tbl #[])) → SqL K H a (ns.map V.int) → sp [.ref a] H (fun v _ => v = .bl true) fun _ _ _ => False) ∧
    ∀ base : Heap, K.In base → base.Ns mainGlobals mg → (∀ p ∈ cs, LamX.TabB base mg p.1 p.2) → FnOk P w K mg base (L2.CX P w) 47 fa fd ["_law_script"] sp := by
  obtain ⟨fd, F⟩ := c.t.d.def_ 50 (d := dd_law) rfl
  have e := hfa.symm.trans (He.glo_ok X G (c.t.d.fact 50 (f := .glo "law") rfl))
  cases e
  have F' : FunD K "law" "law" (defArgs s_law) (defBody s_law) (defScope s_law) [] [] (He.fAd K ("law", none)) fd := F
  obtain ⟨dV, T⟩ := funT_of (p := ("law", none)) F' rfl
  have b := FunD.bindsA (ps := ["_law_script"]) F' fun _ _ _ _ _ _ us hl => match us, hl with | [_], _ => rfl
  refine ⟨fd, hTf.map fun p => He.cT K p, spD K (ctxOf K) 1 F_law, fun p hp => ?_, fun p hp => ?_, fun p hp => ?_, fun s u => b s [u] rfl, fun H a ns hl _ hT hS => sp_law hS (fun p hp => ?_) (hlaw ns hl), fun base hK hG tb => law_ok (h := h) X G c (fun p hp => tb _ (List.mem_map.mpr ⟨p, hp, rfl⟩)) T⟩
  · obtain ⟨q, hq, rfl⟩ := List.mem_map.mp hp
    exact c.empty q hq
  · obtain ⟨q, hq, rfl⟩ := List.mem_map.mp hp
    exact c.out q hq
  · obtain ⟨q, hq, rfl⟩ := List.mem_map.mp hp
    exact PySem.W.codeHd_of_K X (c.hd q hq)
  · have hm : p.1 ∈ (ctxOf K).T.map (·.1) := List.mem_map.mpr ⟨p, hp, rfl⟩
    have hm2 : p.1 ∈ hTf.map fun p => (He.cT K p).2 := hm
    obtain ⟨q, hq, e⟩ := List.mem_map.mp hm2
    rw [← e]
    exact hT _ (List.mem_map.mpr ⟨q, hq, rfl⟩)
end L2.DL
open PySem PySem.W PySem.Calls PyProof.Rows
theorem L2.DL.holds_of (hlaw : ∀ ns : List Int, ns.length ≤ 63 → ∃ S', L2.DL.F_law [.scr ns] [] = some (.ok (.bl true), S')) : PySem.Challenge.rw_lostlines_k60_whole_texts.Holds := by
  w_on; o_law
  refine HandSHeadRun.head_any (r := OpenLaw.row PySem.Challenge.rw_lostlines_k60_whole_texts) (q := view (OpenLaw.row PySem.Challenge.rw_lostlines_k60_whole_texts).prog [73]) (H := L2.DL.hK) (ob := L2.DL.hOb) (M := 9000) (loose := L2.DL.hLo) (d := HandSHeadRun.topDef (OpenLaw.row PySem.Challenge.rw_lostlines_k60_whole_texts).prog 73) (kwd := []) L2.DL.hOb_eq
    (by kernel_rfl) (fun s => by kernel_rfl) L2.DL.hRun (by kernel_rfl) (by kernel_rfl) (by kernel_rfl) (by rfl) (by first | assumption | decide +kernel) (by decide +kernel) ⟨rfl, rfl, rfl, rfl, rfl, by decide +kernel⟩ ?hw ?hc
  case hw => w_witness2
  case hc =>
    refine LamX.walk_ofTsE (l := PySem.Challenge.rw_lostlines_k60_whole_texts) (n := 63) (k := 47) (x := "_law_script") (CX := fun w => L2.CX (PySem.Challenge.rw_lostlines_k60_whole_texts).prog w) rfl (by decide) (by kernel_rfl) ⟨rfl, by decide, by decide⟩ ?F ?X
    case F =>
      intro w mg fa h Y G hmg0
      obtain ⟨K, KX, c⟩ := Y
      have hmg : mg ("law" : PySem.Str) = some (.ref fa) := by
        have e : (HandSHeadRun.topDef (OpenLaw.row PySem.Challenge.rw_lostlines_k60_whole_texts).prog 73).name = ("law" : PySem.Str) := by kernel_rfl
        rw [← e]
        exact hmg0
      exact ⟨K, KX, L2.DL.facts (P := (PySem.Challenge.rw_lostlines_k60_whole_texts).prog) (w := w) hlaw KX G hmg c⟩
    case X =>
      intro w H s e s' z
      obtain ⟨a, B, H1, cls, d, h1, h2, h3, h4, h5, h6, h7, z⟩ := z
      exact z
namespace L2.DL

end L2.DL
end
-- part Ev
set_option maxHeartbeats 4000000
/-! Ev: rules by which the readings are computed. -/
namespace L2.DL
open PySem PySem.Spec PyProof.Rows
section
variable {env : DEnv} {S : Sto} {f g : SM} {fe fe2 fe3 : EM} {fb fb2 : BM} {fa : AM} {F : DF} {i : Nat} {d : D} {o : Out}
@[simp] theorem ev_seq : sSeq f g env S = match f env S with
  | some (.nx, e, s) => g e s
  | some (.rt d, e, s) => some (.rt d, e, s)
  | some (.ex x, e, s) => some (.ex x, e, s)
  | none => none := by
  unfold sSeq
  cases f env S with
  | none => rfl
  | some p => obtain ⟨o, e, s⟩ := p; cases o <;> rfl
@[simp] theorem ev_set : sSet i fe env S = match fe env S with
  | some (d, s) => some (.nx, env.set i (some d), s)
  | none => none := by
  unfold sSet; cases fe env S <;> rfl
@[simp] theorem ev_ret : sRet fe env S = match fe env S with
  | some (d, s) => some (.rt d, env, s)
  | none => none := by
  unfold sRet; cases fe env S <;> rfl
@[simp] theorem ev_expr : sExpr fe env S = match fe env S with
  | some (d, s) => some (.nx, env, s)
  | none => none := by
  unfold sExpr; cases fe env S <;> rfl
@[simp] theorem ev_if : sIf fb f g env S = match fb env S with
  | some (b, s) => if b = true then f env s else g env s
  | none => none := by
  unfold sIf; cases fb env S <;> rfl
@[simp] theorem ev_nil : sNil env S = some (.nx, env, S) := rfl
@[simp] theorem ev_asg {gg : D → DEnv → Option DEnv} : sAsg gg fe env S = match fe env S with
  | some (d, s) => (match gg d env with
    | some e => some (.nx, e, s)
    | none => none)
  | none => none := by
  unfold sAsg
  rcases fe env S with _ | ⟨d, s⟩
  · rfl
  · dsimp only [Option.bind_some, Option.map_some]
    rcases gg d env with _ | e <;> rfl
@[simp] theorem ev_par {is : List Nat} : sPar is fa env S = match fa env S with
  | some (ds, s) => if ds.length = is.length then some (.nx, setAll env is ds, s) else none
  | none => none := by
  unfold sPar; cases fa env S <;> rfl
@[simp] theorem ev_raiseT : sRaiseT fe env S = match fe env S with
  | some (.int n, s) => some (.ex (.bad n), env, s)
  | _ => none := by
  unfold sRaiseT; cases fe env S with
  | none => rfl
  | some p => obtain ⟨d, s⟩ := p; cases d <;> rfl
@[simp] theorem ev_raiseL : sRaiseL env S = some (.ex .loss, env, S) := rfl
@[simp] theorem ev_never : sNever env S = none := rfl
@[simp] theorem ev_var0 {x : D} {e : DEnv} : eVar 0 (some x :: e) S = some (x, S) := rfl
@[simp] theorem ev_var {n : Nat} {x : Option D} {e : DEnv} : eVar (n + 1) (x :: e) S = eVar n e S := by
  unfold eVar; rw [List.getElem?_cons_succ]
@[simp] theorem ev_c : eC d env S = some (d, S) := rfl
@[simp] theorem ev_op {h : Sto → D → D → Option D} : eOp h fe fe2 env S = match fe env S with
  | some (a, s) => (match fe2 env s with
    | some (b, s2) => (match h s2 a b with
      | some z => some (z, s2)
      | none => none)
    | none => none)
  | none => none := by
  unfold eOp
  rcases fe env S with _ | ⟨a, s⟩
  · rfl
  · dsimp only [Option.bind_some, Option.map_some]
    rcases fe2 env s with _ | ⟨b, s2⟩
    · rfl
    · dsimp only [Option.bind_some, Option.map_some]
      rcases h s2 a b with _ | z <;> rfl
@[simp] theorem ev_un {h : Sto → D → Option D} : eUn h fe env S = match fe env S with
  | some (a, s) => (match h s a with
    | some z => some (z, s)
    | none => none)
  | none => none := by
  unfold eUn
  rcases fe env S with _ | ⟨a, s⟩
  · rfl
  · dsimp only [Option.bind_some, Option.map_some]
    rcases h s a with _ | z <;> rfl
@[simp] theorem ev_cl {h : Sto → List D → Option D} : eCl h fa env S = match fa env S with
  | some (a, s) => (match h s a with
    | some z => some (z, s)
    | none => none)
  | none => none := by
  unfold eCl
  rcases fa env S with _ | ⟨a, s⟩
  · rfl
  · dsimp only [Option.bind_some, Option.map_some]
    rcases h s a with _ | z <;> rfl
@[simp] theorem ev_m1 {h : Sto → D → List D → Option D} : eM1 h fe fe2 env S = match fe env S with
  | some (.str x, s) => (match fe2 env s with
    | some (b, s2) => (match h s2 (.str x) [b] with
      | some z => some (z, s2)
      | none => none)
    | none => none)
  | _ => none := by
  unfold eM1
  rcases fe env S with _ | ⟨d, s⟩
  · rfl
  · cases d <;> first | rfl | skip
    rename_i x
    dsimp only [Option.bind_some, Option.map_some]
    rcases fe2 env s with _ | ⟨b, s2⟩
    · rfl
    · dsimp only [Option.bind_some, Option.map_some]
      rcases h s2 (.str x) [b] with _ | z <;> rfl
@[simp] theorem ev_anil : aNil env S = some ([], S) := rfl
@[simp] theorem ev_acons : aCons fe fa env S = match fe env S with
  | some (a, s) => (match fa env s with
    | some (r, s2) => some (a :: r, s2)
    | none => none)
  | none => none := by
  unfold aCons
  rcases fe env S with _ | ⟨a, s⟩
  · rfl
  · dsimp only [Option.bind_some, Option.map_some]
    rcases fa env s with _ | ⟨r, s2⟩ <;> rfl
@[simp] theorem ev_tup : eTup fa env S = match fa env S with
  | some (a, s) => if a.length ≤ 16777216 then some (.tup a, s) else none
  | none => none := by
  unfold eTup; cases fa env S <;> rfl
@[simp] theorem ev_lst : eLst fa env S = match fa env S with
  | some (a, s) => if a.length ≤ 16777216 then some (.lst a, s) else none
  | none => none := by
  unfold eLst; cases fa env S <;> rfl
@[simp] theorem ev_mut : eMut fa env S = match fa env S with
  | some (a, s) => if a.length ≤ 16777216 then some (.mu s.length, s ++ [.lst a]) else none
  | none => none := by
  unfold eMut; cases fa env S <;> rfl
@[simp] theorem ev_bof : bOf fe env S = match fe env S with
  | some (.bl b, s) => some (b, s)
  | _ => none := by
  unfold bOf; cases fe env S with
  | none => rfl
  | some p => obtain ⟨d, s⟩ := p; cases d <;> rfl
@[simp] theorem ev_and : bAnd fb fb2 env S = match fb env S with
  | some (b, s) => if b = true then fb2 env s else some (false, s)
  | none => none := by
  unfold bAnd; cases fb env S <;> rfl
@[simp] theorem ev_or : bOr fb fb2 env S = match fb env S with
  | some (b, s) => if b = true then some (true, s) else fb2 env s
  | none => none := by
  unfold bOr; cases fb env S <;> rfl
@[simp] theorem ev_not : bNot fb env S = match fb env S with
  | some (b, s) => some (!b, s)
  | none => none := by
  unfold bNot; cases fb env S <;> rfl
@[simp] theorem ev_eand : eAnd fe fe2 env S = match fe env S with
  | some (.bl b, s) => if b = true then fe2 env s else some (.bl false, s)
  | _ => none := by
  unfold eAnd; cases fe env S with
  | none => rfl
  | some p => obtain ⟨d, s⟩ := p; cases d <;> rfl
@[simp] theorem ev_eor : eOr fe fe2 env S = match fe env S with
  | some (.bl b, s) => if b = true then some (.bl true, s) else fe2 env s
  | _ => none := by
  unfold eOr; cases fe env S with
  | none => rfl
  | some p => obtain ⟨d, s⟩ := p; cases d <;> rfl
@[simp] theorem ev_enot : eNot fe env S = match fe env S with
  | some (.bl b, s) => some (.bl (!b), s)
  | _ => none := by
  unfold eNot; cases fe env S with
  | none => rfl
  | some p => obtain ⟨d, s⟩ := p; cases d <;> rfl
@[simp] theorem ev_eif : eIf fb fe fe2 env S = match fb env S with
  | some (b, s) => if b = true then fe env s else fe2 env s
  | none => none := by
  unfold eIf; cases fb env S <;> rfl
@[simp] theorem ev_tru : bTru fe env S = match fe env S with
  | some (d, s) => (match truD s d with
    | some b => some (b, s)
    | none => none)
  | none => none := by
  unfold bTru
  rcases fe env S with _ | ⟨d, s⟩
  · rfl
  · dsimp only [Option.bind_some, Option.map_some]
    rcases truD s d with _ | b <;> rfl
@[simp] theorem ev_chain {h h' : Sto → D → D → Option D} : eChain h h' fe fe2 fe3 env S = match fe env S with
  | some (a, s) => (match fe2 env s with
    | some (b, s2) => (match h s2 a b with
      | some (.bl k) => if k = true then (match fe3 env s2 with
        | some (c, s3) => (match h' s3 b c with
          | some z => some (z, s3)
          | none => none)
        | none => none) else some (.bl false, s2)
      | _ => none)
    | none => none)
  | none => none := by
  unfold eChain
  rcases fe env S with _ | ⟨a, s⟩
  · rfl
  · dsimp only [Option.bind_some, Option.map_some]
    rcases fe2 env s with _ | ⟨b, s2⟩
    · rfl
    · dsimp only [Option.bind_some, Option.map_some]
      rcases h s2 a b with _ | z
      · rfl
      · cases z <;> first | rfl | skip
        rename_i k
        cases k
        · rfl
        · dsimp only [Option.bind_some, Option.map_some]
          rcases fe3 env s2 with _ | ⟨c, s3⟩
          · rfl
          · simp only [if_true, Option.bind_some]
            rcases h' s3 b c with _ | z <;> rfl
@[simp] theorem ev_onone : oNone env S = some (none, S) := rfl
@[simp] theorem ev_osome : oSome fe env S = match fe env S with
  | some (.int i, s) => some (some i, s)
  | _ => none := by
  unfold oSome; cases fe env S with
  | none => rfl
  | some p => obtain ⟨d, s⟩ := p; cases d <;> rfl
@[simp] theorem ev_sl {h : Sto → D → Option Int → Option Int → Option D} {fl fh : PM} : eSl h fe fl fh env S = match fe env S with
  | some (a, s) => (match fl env s with
    | some (l, s2) => (match fh env s2 with
      | some (u, s3) => (match h s3 a l u with
        | some z => some (z, s3)
        | none => none)
      | none => none)
    | none => none)
  | none => none := by
  unfold eSl
  rcases fe env S with _ | ⟨a, s⟩
  · rfl
  · dsimp only [Option.bind_some, Option.map_some]
    rcases fl env s with _ | ⟨l, s2⟩
    · rfl
    · dsimp only [Option.bind_some, Option.map_some]
      rcases fh env s2 with _ | ⟨u, s3⟩
      · rfl
      · dsimp only [Option.bind_some, Option.map_some]
        rcases h s3 a l u with _ | z <;> rfl
@[simp] theorem ev_call : eCall F fa env S = match fa env S with
  | some (a, s) => (match F a s with
    | some (.ok d, s2) => some (d, s2)
    | _ => none)
  | none => none := by
  unfold eCall
  rcases fa env S with _ | ⟨a, s⟩
  · rfl
  · dsimp only [Option.bind_some, Option.map_some]
    rcases F a s with _ | ⟨r, s2⟩
    · rfl
    · cases r <;> rfl
@[simp] theorem ev_callD : eCallD F d fa env S = match fa env S with
  | some (a, s) => (match F (a ++ [d]) s with
    | some (.ok d, s2) => some (d, s2)
    | _ => none)
  | none => none := by
  unfold eCallD
  rcases fa env S with _ | ⟨a, s⟩
  · rfl
  · dsimp only [Option.bind_some, Option.map_some]
    rcases F (a ++ [d]) s with _ | ⟨r, s2⟩
    · rfl
    · cases r <;> rfl
@[simp] theorem ev_xcall : xCall F fa env S = match fa env S with
  | some (a, s) => F a s
  | none => none := by
  unfold xCall; cases fa env S <;> rfl
@[simp] theorem ev_setx {fx : XM} : sSetX i fx env S = match fx env S with
  | some (.ok d, s) => some (.nx, env.set i (some d), s)
  | some (.error x, s) => some (.ex x, env, s)
  | none => none := by
  unfold sSetX; cases fx env S with
  | none => rfl
  | some p => obtain ⟨d, s⟩ := p; cases d <;> rfl
@[simp] theorem ev_told {fx : XM} : eTold fx env S = match fx env S with
  | some (.ok d, s) => some (d, s)
  | some (.error (.bad n), s) => some (.int n, s)
  | some (.error .loss, s) => some (lossV, s)
  | none => none := by
  unfold eTold; cases fx env S with
  | none => rfl
  | some p =>
    obtain ⟨d, s⟩ := p
    cases d with
    | ok d => rfl
    | error x => cases x <;> rfl
@[simp] theorem ev_for {src : AM} {gg : D → DEnv → Option DEnv} : sFor src gg f env S = match src env S with
  | some (ds, s) => forD gg f ds env s
  | none => none := by
  unfold sFor; cases src env S <;> rfl
@[simp] theorem ev_comp {src : AM} {gg : D → DEnv → Option DEnv} {t : BM} {vs : List Nat} : eComp src gg t fe vs env S = match src env S with
  | some (ds, s) => (match compD gg t fe vs ds env s with
    | some (ys, s2) => if ys.length ≤ 16777216 then some (.lst ys, s2) else none
    | none => none)
  | none => none := by
  unfold eComp
  rcases src env S with _ | ⟨ds, s⟩
  · rfl
  · dsimp only [Option.bind_some, Option.map_some]
    rcases compD gg t fe vs ds env s with _ | ⟨ys, s2⟩ <;> rfl
@[simp] theorem ev_gen {k : Bool} {src : AM} {gg : D → DEnv → Option DEnv} {vs : List Nat} : eGen k src gg fe vs env S = match src env S with
  | some (ds, s) => (match runD k gg fe (wipeD env vs) ds s with
    | some (b, s2) => some (.bl b, s2)
    | none => none)
  | none => none := by
  unfold eGen
  rcases src env S with _ | ⟨ds, s⟩
  · rfl
  · dsimp only [Option.bind_some, Option.map_some]
    rcases runD k gg fe (wipeD env vs) ds s with _ | ⟨b, s2⟩ <;> rfl
@[simp] theorem ev_lstOf : lstOf fe env S = match fe env S with
  | some (.lst ds, s) => some (ds, s)
  | _ => none := by
  unfold lstOf; cases fe env S with
  | none => rfl
  | some p => obtain ⟨d, s⟩ := p; cases d <;> rfl
@[simp] theorem ev_tupOf : tupOf fe env S = match fe env S with
  | some (.tup ds, s) => some (ds, s)
  | _ => none := by
  unfold tupOf; cases fe env S with
  | none => rfl
  | some p => obtain ⟨d, s⟩ := p; cases d <;> rfl
@[simp] theorem ev_strOf : strOf fe env S = match fe env S with
  | some (.str ds, s) => some (ds.map fun c => .str [c], s)
  | _ => none := by
  unfold strOf; cases fe env S with
  | none => rfl
  | some p => obtain ⟨d, s⟩ := p; cases d <;> rfl
@[simp] theorem ev_rg1 : rg1 fa env S = match fa env S with
  | some ([.int j], s) => if inRg j = true then some (rgL 0 j.toNat, s) else none
  | _ => none := by
  unfold rg1; cases fa env S with
  | none => rfl
  | some p =>
    obtain ⟨ds, s⟩ := p
    show (match ds with | [.int j] => _ | _ => _) = _
    match ds with
    | [] => rfl
    | [d] => cases d <;> rfl
    | d :: _ :: _ => cases d <;> rfl
@[simp] theorem ev_tuprg : eTupRg fe env S = match fe env S with
  | some (.int n, s) => if 0 ≤ n ∧ n ≤ 16777216 then some (.tup (rgL 0 n.toNat), s) else none
  | _ => none := by
  unfold eTupRg; cases fe env S with
  | none => rfl
  | some p => obtain ⟨d, s⟩ := p; cases d <;> rfl
@[simp] theorem ev_denF {nN n : Nat} {B : SM} {ds : List D} : denF nN n B ds S = if ds.length = n then (match B (startD nN ds) S with
  | some (.nx, _, s) => some (.ok .non, s)
  | some (.rt d, _, s) => some (.ok d, s)
  | some (.ex x, _, s) => some (.error x, s)
  | none => none) else none := by
  unfold denF
  split
  · cases B (startD nN ds) S with
    | none => rfl
    | some p => obtain ⟨o, e, s⟩ := p; cases o <;> rfl
  · rfl
@[simp] theorem ev_gname : gNameD i d env = some (env.set i (some d)) := rfl
@[simp] theorem ev_gtup {is : List Nat} {ds : List D} : gTupD is (.tup ds) env = if ds.length = is.length then some (setAll env is ds) else none := rfl
@[simp] theorem ev_for_nil {gg : D → DEnv → Option DEnv} : forD gg f [] env S = some (.nx, env, S) := rfl
@[simp] theorem ev_for_cons {gg : D → DEnv → Option DEnv} {ds : List D} : forD gg f (d :: ds) env S = match gg d env with
  | some e => (match f e S with
    | some (.nx, e2, s) => forD gg f ds e2 s
    | some (.rt d, e2, s) => some (.rt d, e2, s)
    | some (.ex x, e2, s) => some (.ex x, e2, s)
    | none => none)
  | none => none := by
  rw [forD]
  rcases gg d env with _ | e
  · rfl
  · dsimp only [Option.bind_some, Option.map_some]
    rcases f e S with _ | ⟨o, e2, s⟩
    · rfl
    · cases o <;> rfl
end
@[simp] theorem der_tup {S : Sto} {x} : der S (.tup x) = .tup x := rfl
@[simp] theorem der_lst {S : Sto} {x} : der S (.lst x) = .lst x := rfl
@[simp] theorem der_int {S : Sto} {x} : der S (.int x) = .int x := rfl
@[simp] theorem der_str {S : Sto} {x} : der S (.str x) = .str x := rfl
@[simp] theorem der_non {S : Sto} : der S .non = .non := rfl
@[simp] theorem der_bl {S : Sto} {x} : der S (.bl x) = .bl x := rfl
@[simp] theorem der_scr {S : Sto} {x} : der S (.scr x) = .scr x := rfl
@[simp] theorem kit_int_int : kitB "int" "int" = some true := by decide +kernel
@[simp] theorem kit_int_bool : kitB "int" "bool" = some false := by decide +kernel
@[simp] theorem kit_int_tuple : kitB "int" "tuple" = some false := by decide +kernel
@[simp] theorem kit_int_list : kitB "int" "list" = some false := by decide +kernel
@[simp] theorem kit_int_str : kitB "int" "str" = some false := by decide +kernel
@[simp] theorem kit_bool_int : kitB "bool" "int" = some true := by decide +kernel
@[simp] theorem kit_bool_bool : kitB "bool" "bool" = some true := by decide +kernel
@[simp] theorem kit_bool_tuple : kitB "bool" "tuple" = some false := by decide +kernel
@[simp] theorem kit_bool_list : kitB "bool" "list" = some false := by decide +kernel
@[simp] theorem kit_bool_str : kitB "bool" "str" = some false := by decide +kernel
@[simp] theorem kit_str_int : kitB "str" "int" = some false := by decide +kernel
@[simp] theorem kit_str_bool : kitB "str" "bool" = some false := by decide +kernel
@[simp] theorem kit_str_tuple : kitB "str" "tuple" = some false := by decide +kernel
@[simp] theorem kit_str_list : kitB "str" "list" = some false := by decide +kernel
@[simp] theorem kit_str_str : kitB "str" "str" = some true := by decide +kernel
@[simp] theorem kit_tuple_int : kitB "tuple" "int" = some false := by decide +kernel
@[simp] theorem kit_tuple_bool : kitB "tuple" "bool" = some false := by decide +kernel
@[simp] theorem kit_tuple_tuple : kitB "tuple" "tuple" = some true := by decide +kernel
@[simp] theorem kit_tuple_list : kitB "tuple" "list" = some false := by decide +kernel
@[simp] theorem kit_tuple_str : kitB "tuple" "str" = some false := by decide +kernel
@[simp] theorem kit_list_int : kitB "list" "int" = some false := by decide +kernel
@[simp] theorem kit_list_bool : kitB "list" "bool" = some false := by decide +kernel
@[simp] theorem kit_list_tuple : kitB "list" "tuple" = some false := by decide +kernel
@[simp] theorem kit_list_list : kitB "list" "list" = some true := by decide +kernel
@[simp] theorem kit_list_str : kitB "list" "str" = some false := by decide +kernel
@[simp] theorem kit_non_int : kitB "NoneType" "int" = some false := by decide +kernel
@[simp] theorem kit_non_bool : kitB "NoneType" "bool" = some false := by decide +kernel
@[simp] theorem kit_non_tuple : kitB "NoneType" "tuple" = some false := by decide +kernel
@[simp] theorem kit_non_list : kitB "NoneType" "list" = some false := by decide +kernel
@[simp] theorem kit_non_str : kitB "NoneType" "str" = some false := by decide +kernel
@[simp] theorem startD_eq {n : Nat} {ds : List D} : startD n ds = ds.map some ++ List.replicate (n - ds.length) none := rfl
@[simp] theorem setAll_nil {e : DEnv} {ds : List D} : setAll e [] ds = e := by cases ds <;> rfl
@[simp] theorem setAll_cons {e : DEnv} {i : Nat} {is : List Nat} {d : D} {ds : List D} : setAll e (i :: is) (d :: ds) = setAll (e.set i (some d)) is ds := rfl
end L2.DL
-- part P1
set_option maxHeartbeats 4000000
/-! P1: figures, cells, machines, lines. -/
namespace L2.DL
open PySem PySem.Spec PyProof.Rows
theorem f_is_number (i lo hi : Int) (S : Sto) : F_is_number [.int i, .int lo, .int hi] S = some (.ok (.bl (decide (lo ≤ i) && decide (i ≤ hi))), S) := by
  simp [F_is_number, B_is_number, isiD, kindOf, intOp]
  by_cases h : lo ≤ i <;> simp [h]
theorem f_is_number_bl (b : Bool) (lo hi : Int) (S : Sto) : F_is_number [.bl b, .int lo, .int hi] S = some (.ok (.bl false), S) := by
  simp [F_is_number, B_is_number, isiD, kindOf, intOp]
theorem f_is_number_non (lo hi : Int) (S : Sto) : F_is_number [.non, .int lo, .int hi] S = some (.ok (.bl false), S) := by
  simp [F_is_number, B_is_number, isiD, kindOf, intOp]
/-- figure -/
def figL (x : List Nat) (lo hi : Int) : Option Int := match x with
  | [c] => if 48 ≤ c ∧ c ≤ 57 ∧ lo ≤ (c : Int) - 48 ∧ (c : Int) - 48 ≤ hi then some ((c : Int) - 48) else none
  | _ => none
def oI : Option Int → D
  | some i => .int i
  | none => .non
theorem figs : (Str.ofString "0123456789").cps.toList = [48,49,50,51,52,53,54,55,56,57] := by decide +kernel
theorem in_figs {c : Nat} : c ∈ [48,49,50,51,52,53,54,55,56,57] ↔ 48 ≤ c ∧ c ≤ 57 := by
  simp only [List.mem_cons, List.not_mem_nil, or_false]
  omega
theorem f_figure (x : List Nat) (lo hi : Int) (S : Sto) (hx : x.length ≤ 16777216) : F_figure [.str x, .int lo, .int hi] S = some (.ok (oI (figL x lo hi)), S) := by
  match x with
  | [] => simp [F_figure, B_figure, lenD, eqD, eqB, figL, oI]
  | [c] =>
    by_cases h : 48 ≤ c ∧ c ≤ 57
    · by_cases h1 : lo ≤ (c : Int) - 48
      · by_cases h2 : (c : Int) - 48 ≤ hi
        · simp [F_figure, B_figure, lenD, eqD, eqB, figL, inD, inB, figs, intDD, intOp, in_figs, -List.mem_cons, h, h1, h2, oI]
        · simp [F_figure, B_figure, lenD, eqD, eqB, figL, inD, inB, figs, intDD, intOp, in_figs, -List.mem_cons, h, h1, h2, oI]
      · simp [F_figure, B_figure, lenD, eqD, eqB, figL, inD, inB, figs, intDD, intOp, in_figs, -List.mem_cons, h, h1, oI]
    · have h' : ¬ (48 ≤ c ∧ c ≤ 57 ∧ lo ≤ (c : Int) - 48 ∧ (c : Int) - 48 ≤ hi) := fun z => h ⟨z.1, z.2.1⟩
      simp [F_figure, B_figure, lenD, eqD, eqB, figL, inD, inB, figs, intDD, intOp, in_figs, -List.mem_cons, h, h', oI]
  | c :: d :: r =>
    have h1 : r.length + 1 + 1 ≤ 16777216 := by simpa using hx
    have h2 : ¬ ((r.length : Int) + 1 + 1 = 1) := by omega
    simp [F_figure, B_figure, lenD, eqD, eqB, figL, oI, h1, h2]
/-- cell_of -/
def celL (x : List Nat) : Option Int := match x with
  | 99 :: r => figL r 0 3
  | _ => none
theorem cut_to {α : Type} (x : List α) (k : Nat) : cutG x none (some (k : Int)) = x.take k := by
  simp only [cutG, HT.sIx]
  rw [if_neg (by omega)]
  simp only [Int.toNat_natCast, List.drop_zero, Nat.sub_zero]
  rcases Nat.le_total k x.length with h | h
  · rw [Nat.min_eq_left h]
  · rw [Nat.min_eq_right h, List.take_of_length_le (Nat.le_refl _), List.take_of_length_le h]
theorem cut_from {α : Type} (x : List α) (k : Nat) : cutG x (some (k : Int)) none = x.drop k := by
  simp only [cutG, HT.sIx]
  rw [if_neg (by omega)]
  simp only [Int.toNat_natCast]
  rcases Nat.le_total k x.length with h | h
  · rw [Nat.min_eq_left h, List.take_of_length_le (by simp)]
  · rw [Nat.min_eq_right h]; simp [h]
theorem cut_mid {α : Type} (x : List α) (j k : Nat) : cutG x (some (j : Int)) (some (k : Int)) = (x.drop j).take (k - j) := by
  simp only [cutG, HT.sIx]
  rw [if_neg (by omega), if_neg (by omega)]
  simp only [Int.toNat_natCast]
  rcases Nat.le_total j x.length with h | h
  · rw [Nat.min_eq_left h]
    rcases Nat.le_total k x.length with h2 | h2
    · rw [Nat.min_eq_left h2]
    · rw [Nat.min_eq_right h2, List.take_of_length_le (by simp), List.take_of_length_le (by simp; omega)]
  · rw [Nat.min_eq_right h, List.drop_of_length_le h, List.drop_of_length_le (Nat.le_refl _)]; simp
theorem cut_last {α : Type} (x : List α) : cutG x none (some (-1)) = x.dropLast := by
  simp only [cutG, HT.sIx]
  rw [if_pos (by decide)]
  have e : (-1 + (x.length : Int)).toNat = x.length - 1 := by omega
  rw [e, List.drop_zero, Nat.sub_zero, List.dropLast_eq_take]
theorem cut_mid_last {α : Type} (x : List α) (j : Nat) : cutG x (some (j : Int)) (some (-1)) = (x.drop j).dropLast := by
  simp only [cutG, HT.sIx]
  rw [if_pos (by decide), if_neg (by omega)]
  simp only [Int.toNat_natCast]
  have e : (-1 + (x.length : Int)).toNat = x.length - 1 := by omega
  rw [e]
  rcases Nat.le_total j x.length with h | h
  · rw [Nat.min_eq_left h, List.dropLast_eq_take, List.length_drop]
    congr 1; omega
  · rw [Nat.min_eq_right h, List.drop_of_length_le h, List.drop_of_length_le (Nat.le_refl _)]; simp
@[simp] theorem cut_to1 {α : Type} (x : List α) : cutG x none (some 1) = x.take 1 := cut_to x 1
@[simp] theorem cut_from1 {α : Type} (x : List α) : cutG x (some 1) none = x.drop 1 := cut_from x 1
@[simp] theorem cut_12 {α : Type} (x : List α) : cutG x (some 1) (some 2) = (x.drop 1).take 1 := cut_mid x 1 2
@[simp] theorem cut_23 {α : Type} (x : List α) : cutG x (some 2) (some 3) = (x.drop 2).take 1 := cut_mid x 2 3
@[simp] theorem cut_3l {α : Type} (x : List α) : cutG x (some 3) (some (-1)) = (x.drop 3).dropLast := cut_mid_last x 3
@[simp] theorem cut_l {α : Type} (x : List α) : cutG x none (some (-1)) = x.dropLast := cut_last x
@[simp] theorem cut_l1 {α : Type} (x : List α) : cutG x (some (-1)) none = x.drop (x.length - 1) := by
  simp only [cutG, HT.sIx]
  rw [if_pos (by decide)]
  have e : (-1 + (x.length : Int)).toNat = x.length - 1 := by omega
  rw [e, List.take_of_length_le (by simp)]
theorem f_cell_of (x : List Nat) (S : Sto) (hx : x.length ≤ 16777216) : F_cell_of [.str x] S = some (.ok (oI (celL x)), S) := by
  have hx' : (x.drop 1).length ≤ 16777216 := by simp; omega
  have e99 : (Str.ofString "c").cps.toList = [99] := by decide +kernel
  have ff := f_figure (x.drop 1) 0 3 S hx'
  match x, hx with
  | [], _ => 
    simp [F_cell_of, B_cell_of, slD, eqD, eqB, intOp, celL, oI, e99]
  | a :: r, hx =>
    have h1 : r.length + 1 ≤ 16777216 := by simpa using hx
    simp only [List.drop_succ_cons, List.drop_zero] at ff
    by_cases h : a = 99
    · subst h
      simp [F_cell_of, B_cell_of, slD, eqD, eqB, intOp, celL, e99, h1, ff]
    · simp [F_cell_of, B_cell_of, slD, eqD, eqB, intOp, celL, e99, h1, ff, h, oI]

/-! ### machines -/
def intsD (l : List Nat) : List D := l.map fun (r : Nat) => .int (r : Int)
def mD (c : Nat) (fs : List Nat) : D := .tup [.int (c : Int), .tup (intsD fs)]
structure MOk (c : Nat) (fs : List Nat) : Prop where
  c1 : 1 ≤ c
  c4 : c ≤ 4
  f1 : 1 ≤ fs.length
  f3 : fs.length ≤ 3
  fr : ∀ r ∈ fs, 1 ≤ r ∧ r ≤ 2
@[simp] theorem intsD_length (l : List Nat) : (intsD l).length = l.length := by simp [intsD]
/-- all(fe for a name in ds) -/
theorem run_all {g : D → DEnv → Option DEnv} {fe : EM} {env : DEnv} {ds : List D} {S : Sto} {p : D → Bool} (h : ∀ d ∈ ds, ∃ e, g d env = some e ∧ fe e S = some (.bl (p d), S)) : runD false g fe env ds S = some (ds.all p, S) := by
  induction ds with
  | nil => rfl
  | cons d ds ih =>
    obtain ⟨e, h1, h2⟩ := h d List.mem_cons_self
    simp only [runD, h1, Option.bind_some, h2, List.all_cons]
    cases hp : p d
    · simp
    · simp [ih fun d hd => h d (List.mem_cons_of_mem _ hd)]
theorem run_any {g : D → DEnv → Option DEnv} {fe : EM} {env : DEnv} {ds : List D} {S : Sto} {p : D → Bool} (h : ∀ d ∈ ds, ∃ e, g d env = some e ∧ fe e S = some (.bl (p d), S)) : runD true g fe env ds S = some (ds.any p, S) := by
  induction ds with
  | nil => rfl
  | cons d ds ih =>
    obtain ⟨e, h1, h2⟩ := h d List.mem_cons_self
    simp only [runD, h1, Option.bind_some, h2, List.any_cons]
    cases hp : p d
    · simp [ih fun d hd => h d (List.mem_cons_of_mem _ hd)]
    · simp
theorem f_need_machine {c : Nat} {fs : List Nat} (m : MOk c fs) (S : Sto) : F_need_machine [mD c fs] S = some (.ok .non, S) := by
  have h1 := m.c1
  have h2 := m.c4
  have h3 := m.f1
  have h4 := m.f3
  have hr : ∀ env : DEnv, env.length = 4 → runD false (gNameD 3) (eCall F_is_number (aCons (eVar 3) (aCons (eC (.int 1)) (aCons (eC (.int 2)) aNil)))) env (intsD fs) S = some ((intsD fs).all (fun _ => true), S) := fun env he => run_all fun d hd => by
    unfold intsD at hd
    obtain ⟨r, hr, rfl⟩ := List.mem_map.mp hd
    obtain ⟨q1, q2⟩ := m.fr r hr
    match env, he with
    | [a, b, c, d], _ => 
      refine ⟨_, rfl, ?_⟩
      have e1 : (1 : Int) ≤ (r : Int) := by omega
      have e2 : (r : Int) ≤ 2 := by omega
      simp [f_is_number, e1, e2]
  have e1 : (1 : Int) ≤ (c : Int) := by omega
  have e2 : (c : Int) ≤ 4 := by omega
  have e3 : (1 : Int) ≤ (fs.length : Int) := by omega
  have e4 : (fs.length : Int) ≤ 3 := by omega
  simp [F_need_machine, B_need_machine, mD, isiD, kindOf, lenD, eqB, neD, intOp, f_is_number, truD, e1, e2, e3, e4, wipeD, hr]
/-- is_line -/
def lineOk (c : Nat) (fs : List Nat) (cell : Int) (fn : Option Int) (srcs : List (Option Int)) : Bool :=
  decide (0 ≤ cell) && decide (cell ≤ (c : Int) - 1) && srcs.all (fun o => match o with
    | some i => decide (0 ≤ i) && decide (i ≤ (c : Int) - 1)
    | none => false) && (match fn with
    | none => decide (srcs.length = 1) && decide (srcs.head? ≠ some (some cell))
    | some g => decide (0 ≤ g) && decide (g ≤ (fs.length : Int) - 1) && decide (fs[g.toNat]? = some srcs.length))
end L2.DL
-- part P2
set_option maxHeartbeats 4000000
/-! P2: lines of a text. -/
namespace L2.DL
open PySem PySem.Spec PyProof.Rows
def srcOk (c : Nat) (o : Option Int) : Bool := match o with
  | some i => decide (0 ≤ i) && decide (i ≤ (c : Int) - 1)
  | none => false
def unI : D → Option Int
  | .int i => some i
  | _ => none
@[simp] theorem unI_oI (o : Option Int) : unI (oI o) = o := by cases o <;> rfl
theorem all_oI (c : Nat) (l : List (Option Int)) : (l.map oI).all (fun d => srcOk c (unI d)) = l.all (srcOk c) := by
  induction l with
  | nil => rfl
  | cons o l ih => simp [ih]
theorem f_is_num_o (o : Option Int) (c : Nat) (S : Sto) : F_is_number [oI o, .int 0, .int ((c : Int) - 1)] S = some (.ok (.bl (srcOk c o)), S) := by
  cases o with
  | none => exact f_is_number_non _ _ _
  | some i => exact f_is_number _ _ _ _
def lineD (cell : Int) (fn : Option Int) (srcs : List (Option Int)) : D := .tup [.int cell, oI fn, .tup (srcs.map oI)]
theorem lineOk_eq {c : Nat} {fs : List Nat} {cell : Int} {fn : Option Int} {srcs : List (Option Int)} : lineOk c fs cell fn srcs = (decide (0 ≤ cell) && decide (cell ≤ (c : Int) - 1) && srcs.all (srcOk c) && (match fn with
    | none => decide (srcs.length = 1) && decide (srcs.head? ≠ some (some cell))
    | some g => decide (0 ≤ g) && decide (g ≤ (fs.length : Int) - 1) && decide (fs[g.toNat]? = some srcs.length))) := rfl
theorem atI_nat {α : Type} (xs : List α) (i : Nat) : atI xs (i : Int) = xs[i]? := by
  unfold atI ixN
  rw [if_pos (by omega)]
  by_cases h : i < xs.length
  · rw [if_pos (by omega)]; simp
  · rw [if_neg (by omega), List.getElem?_eq_none (by omega)]; rfl
@[simp] theorem atI_0 {α : Type} (xs : List α) : atI xs 0 = xs[0]? := atI_nat xs 0
@[simp] theorem atI_1 {α : Type} (xs : List α) : atI xs 1 = xs[1]? := atI_nat xs 1
@[simp] theorem atI_2 {α : Type} (xs : List α) : atI xs 2 = xs[2]? := atI_nat xs 2
@[simp] theorem atI_3 {α : Type} (xs : List α) : atI xs 3 = xs[3]? := atI_nat xs 3
theorem f_is_line {c : Nat} {fs : List Nat} (cell : Int) (fn : Option Int) (srcs : List (Option Int)) (S : Sto) : F_is_line [mD c fs, lineD cell fn srcs] S = some (.ok (.bl (lineOk c fs cell fn srcs)), S) := by
  have hr : ∀ env : DEnv, env[2]? = some (some (.int (c : Int))) → env.length = 8 → runD false (gNameD 7) (eCall F_is_number (aCons (eVar 7) (aCons (eC (.int 0)) (aCons (eOp subD (eVar 2) (eC (.int 1))) aNil)))) env (srcs.map oI) S = some (srcs.all (srcOk c), S) := fun env h2 he => by
    rw [← all_oI]
    refine run_all fun d hd => ?_
    obtain ⟨o, ho, rfl⟩ := List.mem_map.mp hd
    match env, he, h2 with
    | [a0, a1, a2, a3, a4, a5, a6, a7], _, h2 =>
      refine ⟨_, rfl, ?_⟩
      have e2 : a2 = some (.int (c : Int)) := by simpa using h2
      subst e2
      simp [f_is_num_o, intOp]
  rw [lineOk_eq]
  have hlen : (srcs.map oI).length = srcs.length := by simp
  have h0 : (srcs.map oI)[0]? = srcs.head?.map oI := by cases srcs <;> rfl
  unfold lineD
  generalize srcs.map oI = ds at hr hlen h0 ⊢
  by_cases h1 : 0 ≤ cell
  · by_cases h2 : cell ≤ (c : Int) - 1
    · cases ha : srcs.all (srcOk c) with
      | false => simp [F_is_line, B_is_line, mD, isiD, kindOf, lenD, eqB, neD, eqD, intOp, f_is_number, truD, ixD, wipeD, h1, h2, hr, ha]
      | true =>
        rw [ha] at hr
        cases fn with
        | none =>
          match srcs, ha, hlen, h0 with
          | [], ha, hlen, h0 => simp [F_is_line, B_is_line, mD, isiD, kindOf, lenD, eqB, neD, eqD, intOp, f_is_number, truD, ixD, wipeD, h1, h2, hr, hlen, oI, isND, isNB]
          | [o], ha, hlen, h0 =>
            cases o with
            | none => simp [srcOk] at ha
            | some i =>
              obtain ⟨e, rfl⟩ : ∃ e, ds = [e] := List.length_eq_one_iff.mp hlen
              have h0' : e = .int i := by simpa [oI] using h0
              subst h0'
              simp [F_is_line, B_is_line, mD, isiD, kindOf, lenD, eqB, neD, eqD, intOp, f_is_number, truD, ixD, wipeD, h1, h2, hr, oI, isND, isNB]
              by_cases z : i = cell <;> simp [z]
          | o :: p :: r, ha, hlen, h0 =>
            have hl : ds.length = r.length + 2 := hlen
            have hl2 : ¬ ((r.length : Int) + 2 = 1) := by omega
            simp [F_is_line, B_is_line, mD, isiD, kindOf, lenD, eqB, neD, eqD, intOp, f_is_number, truD, ixD, wipeD, h1, h2, hr, hl, hl2, oI, isND, isNB]
        | some g =>
          by_cases g0 : 0 ≤ g
          · by_cases g1 : g ≤ (fs.length : Int) - 1
            · obtain ⟨n, rfl⟩ := Int.eq_ofNat_of_zero_le g0
              have hn : n < fs.length := by omega
              have e1 : fs[n]? = some fs[n] := List.getElem?_eq_getElem hn
              have e2 : (intsD fs)[n]? = some (.int (fs[n] : Nat)) := by simp [intsD, e1]
              simp [F_is_line, B_is_line, mD, isiD, kindOf, lenD, eqB, neD, eqD, intOp, f_is_number, truD, ixD, wipeD, h1, h2, hr, hlen, oI, isND, isNB, g0, g1, atI_nat, e1, e2]
              by_cases z : srcs.length = fs[n]
              · simp [z]
              · have z2 : ¬ ((srcs.length : Int) = (fs[n] : Nat)) := by omega
                have z3 : ¬ (fs[n] = srcs.length) := fun q => z q.symm
                simp [z2, z3]
            · simp [F_is_line, B_is_line, mD, isiD, kindOf, lenD, eqB, neD, eqD, intOp, f_is_number, truD, ixD, wipeD, h1, h2, hr, hlen, oI, isND, isNB, g0, g1]
          · simp [F_is_line, B_is_line, mD, isiD, kindOf, lenD, eqB, neD, eqD, intOp, f_is_number, truD, ixD, wipeD, h1, h2, hr, hlen, oI, isND, isNB, g0]
    · simp [F_is_line, B_is_line, mD, isiD, kindOf, lenD, eqB, neD, eqD, intOp, f_is_number, truD, ixD, h1, h2]
  · simp [F_is_line, B_is_line, mD, isiD, kindOf, lenD, eqB, neD, eqD, intOp, f_is_number, truD, ixD, h1]

/-! ### parts -/
theorem spl_part_len (sep : List Nat) : ∀ (x : List Nat) (k : Nat) (acc : List Nat), ∀ p ∈ TL.spl sep k acc x, p.length ≤ acc.length + x.length
  | [], k, acc, p, h => by
    rw [TL.spl_nil] at h
    rw [List.mem_singleton.mp h]; simp
  | c :: r, 0, acc, p, h => by
    rw [TL.spl] at h
    split at h
    · rcases List.mem_cons.mp h with h | h
      · rw [h]; simp
      · have := spl_part_len sep r _ [] p h
        simp at this ⊢; omega
    · have := spl_part_len sep r 0 (acc ++ [c]) p h
      simp at this ⊢; omega
  | c :: r, k + 1, acc, p, h => by
    rw [TL.spl] at h
    have := spl_part_len sep r k acc p h
    simp at this ⊢; omega
theorem spl_ne (sep : List Nat) : ∀ (x : List Nat) (k : Nat) (acc : List Nat), TL.spl sep k acc x ≠ []
  | [], k, acc => by rw [TL.spl_nil]; simp
  | c :: r, 0, acc => by
    rw [TL.spl]
    split
    · simp
    · exact spl_ne sep r 0 _
  | c :: r, k + 1, acc => by
    rw [TL.spl]
    exact spl_ne sep r k acc
/-- what a comprehension over pure readings gives -/
theorem comp_map {g : D → DEnv → Option DEnv} {fe : EM} {vs : List Nat} {env : DEnv} {S : Sto} {f : D → D} : ∀ {ds : List D}, (∀ d ∈ ds, ∃ e, g d (wipeD env vs) = some e ∧ fe e S = some (f d, S)) → compD g bYes fe vs ds env S = some (ds.map f, S)
  | [], _ => rfl
  | d :: ds, h => by
    obtain ⟨e, h1, h2⟩ := h d List.mem_cons_self
    simp only [compD, h1, Option.bind_some, bYes, if_true, h2, comp_map fun d hd => h d (List.mem_cons_of_mem _ hd), Option.map_some, List.map_cons]
theorem comp_filt {g : D → DEnv → Option DEnv} {fe : EM} {fb : BM} {vs : List Nat} {env : DEnv} {S : Sto} {f : D → D} {p : D → Bool} : ∀ {ds : List D}, (∀ d ∈ ds, ∃ e, g d (wipeD env vs) = some e ∧ fb e S = some (p d, S) ∧ (p d = true → fe e S = some (f d, S))) → compD g fb fe vs ds env S = some ((ds.filter p).map f, S)
  | [], _ => rfl
  | d :: ds, h => by
    obtain ⟨e, h1, h2, h3⟩ := h d List.mem_cons_self
    have ih := comp_filt fun d hd => h d (List.mem_cons_of_mem _ hd)
    cases hp : p d with
    | true => simp [compD, h1, h2, h3 hp, ih, hp, List.filter_cons]
    | false => simp [compD, h1, h2, ih, hp, List.filter_cons]
/-! ### line_of -/
abbrev Ln := Int × Option Int × List (Option Int)
def lnD (l : Ln) : D := lineD l.1 l.2.1 l.2.2
def oLn : Option Ln → D
  | some l => lnD l
  | none => .non
def ifOk (c : Nat) (fs : List Nat) (l : Ln) : Option Ln := if lineOk c fs l.1 l.2.1 l.2.2 = true then some l else none
def funOf (c : Nat) (fs : List Nat) (cell : Int) (b : List Nat) : Option Ln := match b with
  | 102 :: g :: 40 :: r => (match figL [g] 0 2 with
    | some g => if r.getLast? = some 41 then ifOk c fs (cell, some g, (TL.spl [44] 0 [] r.dropLast).map celL) else none
    | none => none)
  | _ => none
def rightOf (c : Nat) (fs : List Nat) (cell : Int) (b : List Nat) : Option Ln := match celL b with
  | some s => ifOk c fs (cell, none, [some s])
  | none => funOf c fs cell b
def lineOf (c : Nat) (fs : List Nat) (x : List Nat) : Option Ln := match TL.spl [32, 61, 32] 0 [] x with
  | [a, b] => (match celL a with
    | some cell => rightOf c fs cell b
    | none => none)
  | _ => none
@[simp] theorem cps_c : (Str.ofString "c").cps.toList = [99] := by decide +kernel
@[simp] theorem cps_f : (Str.ofString "f").cps.toList = [102] := by decide +kernel
@[simp] theorem cps_op : (Str.ofString "(").cps.toList = [40] := by decide +kernel
@[simp] theorem cps_cl : (Str.ofString ")").cps.toList = [41] := by decide +kernel
@[simp] theorem cps_co : (Str.ofString ",").cps.toList = [44] := by decide +kernel
@[simp] theorem cps_sp : (Str.ofString " ").cps.toList = [32] := by decide +kernel
@[simp] theorem cps_nl : (Str.ofString "\n").cps.toList = [10] := by decide +kernel
@[simp] theorem cps_em : (Str.ofString "").cps.toList = [] := by decide +kernel
@[simp] theorem cps_eq : (Str.ofString " = ").cps.toList = [32, 61, 32] := by decide +kernel
theorem spl_len (sep : List Nat) : ∀ (x : List Nat) (k : Nat) (acc : List Nat), (TL.spl sep k acc x).length ≤ x.length + 1
  | [], k, acc => by rw [TL.spl_nil]; simp
  | c :: r, 0, acc => by
    rw [TL.spl]
    split
    · have := spl_len sep r (sep.length - 1) []
      simp; omega
    · have := spl_len sep r 0 (acc ++ [c])
      simp; omega
  | c :: r, k + 1, acc => by
    rw [TL.spl]
    have := spl_len sep r k acc
    simp; omega
def celD : D → D
  | .str p => oI (celL p)
  | _ => .non
theorem comp_cell {ps : List (List Nat)} {S : Sto} (h : ∀ p ∈ ps, p.length ≤ 16777216) (env : DEnv) (he : env.length = 8) : compD (gNameD 7) bYes (eCall F_cell_of (aCons (eVar 7) aNil)) [7] (ps.map .str) env S = some ((ps.map celL).map oI, S) := by
  have e : (ps.map celL).map oI = (ps.map D.str).map celD := by simp [celD]
  rw [e]
  refine comp_map fun d hd => ?_
  obtain ⟨p, hp, rfl⟩ := List.mem_map.mp hd
  match env, he with
  | [a0, a1, a2, a3, a4, a5, a6, a7], _ => exact ⟨_, rfl, by simp [f_cell_of, h p hp, celD, wipeD]⟩
theorem fig_f {x : List Nat} : celL (102 :: x) = none := by simp [celL]
theorem eq_str (S : Sto) (x y : List Nat) : eqD S (.str x) (.str y) = some (.bl (x == y)) := rfl
theorem ne_str (S : Sto) (x y : List Nat) : neD S (.str x) (.str y) = some (.bl (!(x == y))) := rfl
theorem f_line_of {c : Nat} {fs : List Nat} (x : List Nat) (S : Sto) (hx : x.length ≤ 1000000) : F_line_of [mD c fs, .str x] S = some (.ok (oLn (lineOf c fs x)), S) := by
  have hp := spl_part_len [32, 61, 32] x 0 []
  have hx2 : x.length + 2 ≤ 16777216 := by omega
  unfold lineOf
  generalize hs : TL.spl [32, 61, 32] 0 [] x = ps at hp ⊢
  have hn := spl_ne [32, 61, 32] x 0 []
  rw [hs] at hn
  match ps, hp, hn with
  | [a], hp, _ => simp [F_line_of, B_line_of, splitDD, okSep, hx2, hs, lenD, neD, eqB, oLn]
  | a :: b :: d :: r, hp, _ =>
    have hl2 : ¬ ((r.length : Int) + 1 + 1 + 1 = 2) := by omega
    simp [F_line_of, B_line_of, splitDD, okSep, hx2, hs, lenD, neD, eqB, oLn, hl2]
  | [a, b], hp, _ =>
    have ha : a.length ≤ 16777216 := by have := hp a (by simp); simp at this; omega
    have hb : b.length ≤ 16777216 := by have := hp b (by simp); simp at this; omega
    have hb2 : b.length ≤ 1000000 := by have := hp b (by simp); simp at this; omega
    cases hca : celL a with
    | none => simp [F_line_of, B_line_of, splitDD, okSep, hx2, hs, lenD, neD, eqB, oLn, ixD, f_cell_of, ha, hca, oI, isND, isNB]
    | some cell =>
      unfold rightOf
      cases hcb : celL b with
      | some s =>
        have hl := fun S => f_is_line (c := c) (fs := fs) cell none [some s] S
        unfold lineD at hl
        simp only [oI, List.map_cons, List.map_nil] at hl
        cases hok : lineOk c fs cell none [some s] <;>
          simp [F_line_of, B_line_of, splitDD, okSep, hx2, hs, lenD, neD, eqB, oLn, ixD, f_cell_of, ha, hb, hca, hcb, oI, isND, notND, isNB, hl, hok, truD, ifOk, lnD, lineD]
      | none =>
        have pre := fun (S : Sto) => f_figure ((b.drop 1).take 1) 0 2 S (by simp; omega)
        by_cases hF : b.take 1 = [102] ∧ figL ((b.drop 1).take 1) 0 2 ≠ none ∧ (b.drop 2).take 1 = [40] ∧ b.drop (b.length - 1) = [41]
        · obtain ⟨k1, k2, k3, k4⟩ := hF
          match b, hb, hb2, hcb, pre, k1, k2, k3, k4 with
          | b0 :: g :: b2 :: r, hb, hb2, hcb, pre, k1, k2, k3, k4 =>
            simp at k1 k3
            subst k1 k3
            simp only [List.drop_succ_cons, List.drop_zero, List.take_succ_cons, List.take_zero] at k2 pre
            cases hg : figL [g] 0 2 with
            | none => exact absurd hg k2
            | some gi =>
              rw [hg] at pre
              have hr : r ≠ [] := fun z => by subst z; simp at k4
              have k5 : r.getLast? = some 41 := by
                obtain ⟨w, z, rfl⟩ : ∃ w z, r = w ++ [z] := ⟨r.dropLast, r.getLast hr, (List.dropLast_concat_getLast hr).symm⟩
                have e : (102 :: g :: 40 :: (w ++ [z])).drop ((102 :: g :: 40 :: (w ++ [z])).length - 1) = [z] := by
                  have e1 : (102 :: g :: 40 :: (w ++ [z])).length - 1 = (102 :: g :: 40 :: w).length := by simp
                  rw [e1]
                  exact List.drop_left (l₁ := 102 :: g :: 40 :: w) (l₂ := [z])
                rw [e] at k4
                simp at k4
                simp [k4]
              have hq := spl_part_len [44] r.dropLast 0 []
              have hq2 := spl_len [44] r.dropLast 0 []
              have hrl : r.dropLast.length ≤ 1000000 := by simp at hb2 ⊢; omega
              generalize hz : TL.spl [44] 0 [] r.dropLast = qs at hq hq2
              have hq' : ∀ p ∈ qs, p.length ≤ 16777216 := fun p hp => by have := hq p hp; simp at this hrl; omega
              have hcomp := fun S => comp_cell (S := S) hq'
              have hl := fun S => f_is_line (c := c) (fs := fs) cell (some gi) (qs.map celL) S
              unfold lineD at hl
              simp only [oI] at hl
              have hqs : qs.length ≤ 16777216 := by omega
              have hdl : r.length - 1 + 2 ≤ 16777216 := by simp at hrl; omega
              have hbl : r.length + 1 + 1 + 1 ≤ 16777216 := by simpa using hb
              have hg2 : figL [g] 0 2 = some gi := hg
              have k4' : List.drop r.length (40 :: r) = [41] := by simpa using k4
              cases hok : lineOk c fs cell (some gi) (qs.map celL) <;>
                simp [F_line_of, B_line_of, splitDD, okSep, hx2, hs, lenD, neD, eqB, oLn, ixD, slD, tupDD, intOp, f_cell_of, ha, hbl, hca, hcb, oI, isND, notND, isNB, hl, hok, truD, ifOk, lnD, lineD, pre, hg2, hcomp, hqs, hdl, hz, k5, k4', funOf, -List.map_map]
        · have hR : funOf c fs cell b = none := by
            unfold funOf
            split
            · rename_i g r _
              cases hg : figL [g] 0 2 with
              | none => rfl
              | some gi =>
                refine if_neg fun k5 => hF ⟨rfl, ?_, rfl, ?_⟩
                · show figL [g] 0 2 ≠ none
                  rw [hg]; simp
                · obtain ⟨w, hw⟩ : ∃ w, r = w ++ [41] := List.getLast?_eq_some_iff.mp k5
                  subst hw
                  have e1 : (102 :: g :: 40 :: (w ++ [41])).length - 1 = (102 :: g :: 40 :: w).length := by simp
                  rw [e1]
                  exact List.drop_left (l₁ := 102 :: g :: 40 :: w) (l₂ := [41])
            · rfl
          by_cases k1 : b.take 1 = [102]
          · by_cases k2 : figL ((b.drop 1).take 1) 0 2 = none
            · simp [F_line_of, B_line_of, splitDD, okSep, hx2, hs, lenD, neD, eqB, oLn, ixD, slD, tupDD, intOp, f_cell_of, ha, hb, hca, hcb, oI, isND, notND, isNB, pre, k1, k2, hR, -List.drop_one]
            · obtain ⟨gi, k2'⟩ : ∃ gi, figL ((b.drop 1).take 1) 0 2 = some gi := by
                cases h : figL ((b.drop 1).take 1) 0 2 with
                | none => exact absurd h k2
                | some gi => exact ⟨gi, rfl⟩
              by_cases k3 : (b.drop 2).take 1 = [40]
              · have k4 : ¬ (b.drop (b.length - 1) = [41]) := fun z => hF ⟨k1, k2, k3, z⟩
                simp [F_line_of, B_line_of, splitDD, okSep, hx2, hs, lenD, neD, eqB, oLn, ixD, slD, tupDD, intOp, f_cell_of, ha, hb, hca, hcb, oI, isND, notND, isNB, pre, k1, k2', k3, k4, hR, -List.drop_one]
              · simp [F_line_of, B_line_of, splitDD, okSep, hx2, hs, lenD, neD, eqB, oLn, ixD, slD, tupDD, intOp, f_cell_of, ha, hb, hca, hcb, oI, isND, notND, isNB, pre, k1, k2', k3, hR, -List.drop_one]
          · simp [F_line_of, B_line_of, splitDD, okSep, hx2, hs, lenD, neD, eqB, oLn, ixD, slD, tupDD, intOp, f_cell_of, ha, hb, hca, hcb, oI, isND, notND, isNB, pre, k1, hR, -List.drop_one]
end L2.DL
-- part P3
set_option maxHeartbeats 4000000
/-! P3: terms and their texts, in plain Lean. -/
namespace L2.DL
open PySem PySem.Spec PyProof.Rows
inductive Tm where
  | c (i : Nat)
  | f1 (g : Nat) (a : Tm)
  | f2 (g : Nat) (a b : Tm)
def textT : Tm → List Nat
  | .c i => [99, 48 + i]
  | .f1 g a => 102 :: (48 + g) :: 40 :: (textT a ++ [41])
  | .f2 g a b => 102 :: (48 + g) :: 40 :: (textT a ++ (44 :: (textT b ++ [41])))
def dpT : Tm → Nat
  | .c _ => 1
  | .f1 _ a => 1 + dpT a
  | .f2 _ a b => 1 + max (dpT a) (dpT b)
def TOk (c : Nat) (fs : List Nat) : Tm → Prop
  | .c i => i < c
  | .f1 g a => fs[g]? = some 1 ∧ TOk c fs a
  | .f2 g a b => fs[g]? = some 2 ∧ TOk c fs a ∧ TOk c fs b
def dT : Tm → D
  | .c i => .int (i : Int)
  | .f1 g a => .tup [.int (g : Int), dT a]
  | .f2 g a b => .tup [.int (g : Int), dT a, dT b]
theorem celL_iff {x : List Nat} {i : Int} : celL x = some i ↔ ∃ n : Nat, n ≤ 3 ∧ i = (n : Int) ∧ x = [99, 48 + n] := by
  constructor
  · intro h
    unfold celL at h
    split at h
    · rename_i r
      unfold figL at h
      split at h
      · rename_i c
        split at h
        · rename_i hc
          cases h
          exact ⟨c - 48, by omega, by omega, by congr 2; omega⟩
        · cases h
      · cases h
    · cases h
  · rintro ⟨n, hn, rfl, rfl⟩
    simp only [celL, figL]
    rw [if_pos (by omega)]
    congr 1
    omega
theorem celL_num {n : Nat} (h : n ≤ 3) : celL [99, 48 + n] = some (n : Int) := celL_iff.mpr ⟨n, h, rfl, rfl⟩
/-- the text cut at the commas that stand in no brackets -/
def splP : Int → List Nat → List Nat → List (List Nat)
  | _, part, [] => [part]
  | deep, part, c :: r => if c = 44 ∧ deep = 0 then part :: splP deep [] r else splP (deep + (if c = 40 then 1 else 0) - (if c = 41 then 1 else 0)) (part ++ [c]) r
theorem splP_join : ∀ (x : List Nat) (deep : Int) (part : List Nat), TL.joinL [44] (splP deep part x) = part ++ x
  | [], _, part => by simp [splP, TL.joinL]
  | c :: r, deep, part => by
    rw [splP]
    split
    · rename_i h
      have ih := splP_join r deep []
      have hn : splP deep [] r ≠ [] := by
        cases r with
        | nil => simp [splP]
        | cons a r => 
          intro z
          rw [z] at ih
          simp [TL.joinL] at ih
      cases hs : splP deep [] r with
      | nil => exact absurd hs hn
      | cons q t =>
        rw [TL.joinL, ← hs, ih, h.1]
        simp
    · rw [splP_join r]
      simp
theorem splP_plain {c : Nat} {deep : Int} {part r : List Nat} (h : 44 < c) : splP deep part (c :: r) = splP deep (part ++ [c]) r := by
  rw [splP, if_neg (by omega), if_neg (by omega), if_neg (by omega)]
  congr 1
  omega
theorem splP_open {deep : Int} {part r : List Nat} : splP deep part (40 :: r) = splP (deep + 1) (part ++ [40]) r := by
  rw [splP, if_neg (by omega), if_pos rfl, if_neg (by omega)]
  congr 1
  omega
theorem splP_close {deep : Int} {part r : List Nat} : splP deep part (41 :: r) = splP (deep - 1) (part ++ [41]) r := by
  rw [splP, if_neg (by omega), if_neg (by omega), if_pos rfl]
  congr 1
  omega
theorem splP_comma {deep : Int} {part r : List Nat} (h : deep ≠ 0) : splP deep part (44 :: r) = splP deep (part ++ [44]) r := by
  rw [splP, if_neg (fun z => h z.2), if_neg (by omega), if_neg (by omega)]
  congr 1
  omega
theorem splP_text : ∀ (T : Tm) (deep : Int) (part r : List Nat), 0 ≤ deep → splP deep part (textT T ++ r) = splP deep (part ++ textT T) r
  | .c i, deep, part, r, hd => by
    simp only [textT, List.cons_append, List.nil_append]
    rw [splP_plain (by omega), splP_plain (by omega)]
    simp
  | .f1 g a, deep, part, r, hd => by
    simp only [textT, List.cons_append, List.nil_append, List.append_assoc]
    rw [splP_plain (by omega), splP_plain (by omega), splP_open, splP_text a (deep + 1) _ _ (by omega), splP_close]
    congr 1
    · omega
    · simp
  | .f2 g a b, deep, part, r, hd => by
    simp only [textT, List.cons_append, List.nil_append, List.append_assoc]
    rw [splP_plain (by omega), splP_plain (by omega), splP_open, splP_text a (deep + 1) _ _ (by omega), splP_comma (by omega), splP_text b (deep + 1) _ _ (by omega), splP_close]
    congr 1
    · omega
    · simp
theorem splP_one (T : Tm) : splP 0 [] (textT T) = [textT T] := by
  have h := splP_text T 0 [] [] (by omega)
  simpa [splP] using h
theorem splP_two (A B : Tm) : splP 0 [] (textT A ++ (44 :: textT B)) = [textT A, textT B] := by
  rw [splP_text A 0 [] _ (by omega), splP, if_pos ⟨rfl, rfl⟩, splP_one]
  simp
/-! ### a term's text read by cutting -/
def mkT (fs : List Nat) (g : Nat) (ps : List (Option Tm)) : Option Tm := match fs[g]?, ps with
  | some 1, [some a] => some (.f1 g a)
  | some 2, [some a, some b] => some (.f2 g a b)
  | _, _ => none
def fForm (fs : List Nat) (x : List Nat) : Option (Nat × List Nat) := match x with
  | 102 :: g :: 40 :: r => if 48 ≤ g ∧ g ≤ 50 ∧ g - 48 < fs.length ∧ 2 ≤ r.length ∧ r.getLast? = some 41 then some (g - 48, r.dropLast) else none
  | _ => none
def cForm (c : Nat) (i : Int) : Option Tm := if i < (c : Int) then some (.c i.toNat) else none
def lawT (c : Nat) (fs : List Nat) : Nat → List Nat → Option Tm
  | 0, x => (match celL x with
    | some i => cForm c i
    | none => none)
  | d + 1, x => (match celL x with
    | some i => cForm c i
    | none => (match fForm fs x with
      | some (g, y) => mkT fs g ((splP 0 [] y).map (lawT c fs d))
      | none => none))
theorem dpT_pos (T : Tm) : 1 ≤ dpT T := by cases T <;> simp [dpT]
theorem textT_len (T : Tm) : 2 ≤ (textT T).length := by cases T <;> simp [textT] <;> omega
theorem cel_f {g : Nat} {r : List Nat} : celL (102 :: g :: r) = none := by simp [celL]
theorem fForm_of {fs : List Nat} {g : Nat} {y : List Nat} (h : g < fs.length) (h3 : fs.length ≤ 3) (hy : 1 ≤ y.length) : fForm fs (102 :: (48 + g) :: 40 :: (y ++ [41])) = some (g, y) := by
  unfold fForm
  simp only
  rw [if_pos ⟨by omega, by omega, by omega, by simp; omega, by simp⟩]
  simp
theorem lawT_text {c : Nat} {fs : List Nat} (m : MOk c fs) : ∀ (T : Tm) (d : Nat), TOk c fs T → dpT T ≤ d + 1 → lawT c fs d (textT T) = some T
  | .c i, d, h, hd => by
    have h3 : i ≤ 3 := by have := m.c4; simp only [TOk] at h; omega
    have h4 : (i : Int) < (c : Int) := by simp only [TOk] at h; omega
    cases d with
    | zero => simp only [lawT, textT, celL_num h3, cForm]; rw [if_pos h4]; rfl
    | succ d => simp only [lawT, textT, celL_num h3, cForm]; rw [if_pos h4]; rfl
  | .f1 g a, d, h, hd => by
    obtain ⟨h1, h2⟩ := h
    have hp := dpT_pos a
    simp only [dpT] at hd
    cases d with
    | zero => omega
    | succ d =>
      have hg : g < fs.length := (List.getElem?_eq_some_iff.mp h1).1
      have hl := textT_len a
      simp only [lawT, textT, cel_f, fForm_of hg m.f3 (show 1 ≤ (textT a).length by omega), splP_one, List.map_cons, List.map_nil, lawT_text m a d h2 (by omega), mkT, h1]
  | .f2 g a b, d, h, hd => by
    obtain ⟨h1, h2, h3⟩ := h
    have hp := dpT_pos a
    simp only [dpT] at hd
    cases d with
    | zero => omega
    | succ d =>
      have hg : g < fs.length := (List.getElem?_eq_some_iff.mp h1).1
      have hl := textT_len a
      have e : textT a ++ (44 :: (textT b ++ [41])) = (textT a ++ (44 :: textT b)) ++ [41] := by simp
      simp only [lawT, textT, cel_f]
      rw [e]
      simp only [fForm_of hg m.f3 (show 1 ≤ (textT a ++ (44 :: textT b)).length by simp; omega), splP_two, List.map_cons, List.map_nil, lawT_text m a d h2 (by omega), lawT_text m b d h3 (by omega), mkT, h1]
theorem fForm_inv {fs : List Nat} {x y : List Nat} {g : Nat} (h : fForm fs x = some (g, y)) : x = 102 :: (48 + g) :: 40 :: (y ++ [41]) ∧ g < fs.length := by
  unfold fForm at h
  split at h
  · rename_i a r
    split at h
    · rename_i hc
      cases h
      obtain ⟨w, hw⟩ := List.getLast?_eq_some_iff.mp hc.2.2.2.2
      subst hw
      refine ⟨?_, hc.2.2.1⟩
      have : 48 + (a - 48) = a := by omega
      rw [this]; simp
    · cases h
  · cases h
theorem mkT_inv {fs : List Nat} {g : Nat} {ps : List (Option Tm)} {T : Tm} (h : mkT fs g ps = some T) : (∃ a, fs[g]? = some 1 ∧ ps = [some a] ∧ T = .f1 g a) ∨ (∃ a b, fs[g]? = some 2 ∧ ps = [some a, some b] ∧ T = .f2 g a b) := by
  unfold mkT at h
  split at h
  · rename_i a e
    cases h
    exact .inl ⟨_, by assumption, rfl, rfl⟩
  · rename_i a b e
    cases h
    exact .inr ⟨_, _, by assumption, rfl, rfl⟩
  · cases h
theorem cForm_inv {c : Nat} {x : List Nat} {i : Int} {T : Tm} (hx : celL x = some i) (h : cForm c i = some T) (d : Nat) : TOk c fs T ∧ dpT T ≤ d + 1 ∧ textT T = x := by
  obtain ⟨n, hn, rfl, rfl⟩ := celL_iff.mp hx
  unfold cForm at h
  split at h
  · rename_i hc
    cases h
    refine ⟨?_, by simp [dpT], by simp [textT]⟩
    simp only [TOk, Int.toNat_natCast]
    omega
  · cases h
theorem map_one {α β : Type} {f : α → β} {l : List α} {b : β} (h : l.map f = [b]) : ∃ a, l = [a] ∧ f a = b := by
  match l, h with
  | [a], h => exact ⟨a, rfl, by simpa using h⟩
theorem map_two {α β : Type} {f : α → β} {l : List α} {b b' : β} (h : l.map f = [b, b']) : ∃ a a', l = [a, a'] ∧ f a = b ∧ f a' = b' := by
  match l, h with
  | [a, a'], h => exact ⟨a, a', rfl, by simpa using h⟩
theorem lawT_inv {c : Nat} {fs : List Nat} : ∀ (d : Nat) (x : List Nat) (T : Tm), lawT c fs d x = some T → TOk c fs T ∧ dpT T ≤ d + 1 ∧ textT T = x
  | 0, x, T, h => by
    unfold lawT at h
    split at h
    · rename_i i hx
      exact cForm_inv hx h 0
    · cases h
  | d + 1, x, T, h => by
    unfold lawT at h
    split at h
    · rename_i i hx
      exact cForm_inv hx h _
    · split at h
      · rename_i g y hf
        obtain ⟨e, hg⟩ := fForm_inv hf
        have hj := splP_join y 0 []
        rcases mkT_inv h with ⟨a, h1, h2, rfl⟩ | ⟨a, b, h1, h2, rfl⟩
        · obtain ⟨p, hp, ha⟩ := map_one h2
          obtain ⟨k1, k2, k3⟩ := lawT_inv d p a ha
          rw [hp] at hj
          have hj' : p = y := by simpa [TL.joinL] using hj
          refine ⟨⟨h1, k1⟩, by simp only [dpT]; omega, ?_⟩
          rw [e]
          simp only [textT, k3, hj']
        · obtain ⟨p, q, hp, ha, hb⟩ := map_two h2
          obtain ⟨k1, k2, k3⟩ := lawT_inv d p a ha
          obtain ⟨l1, l2, l3⟩ := lawT_inv d q b hb
          rw [hp] at hj
          have hj' : p ++ 44 :: q = y := by simpa [TL.joinL] using hj
          refine ⟨⟨h1, k1, l1⟩, by simp only [dpT]; omega, ?_⟩
          rw [e]
          simp only [textT, k3, l3, ← hj']
          simp
      · cases h
/-! ### a term's text read from the left -/
def prsT (c : Nat) (fs : List Nat) : Nat → List Nat → Option (Tm × List Nat)
  | d, 99 :: a :: r => (match figL [a] 0 3 with
    | some i => if i < (c : Int) then some (.c i.toNat, r) else none
    | none => none)
  | d + 1, 102 :: a :: 40 :: r => (match figL [a] 0 3 with
    | some i => (match fs[i.toNat]? with
      | some 1 => (match prsT c fs d r with
        | some (A, 41 :: r2) => some (.f1 i.toNat A, r2)
        | _ => none)
      | some 2 => (match prsT c fs d r with
        | some (A, 44 :: r2) => (match prsT c fs d r2 with
          | some (B, 41 :: r3) => some (.f2 i.toNat A B, r3)
          | _ => none)
        | _ => none)
      | _ => none)
    | none => none)
  | _, _ => none
theorem fig3 {n : Nat} (h : n ≤ 3) : figL [48 + n] 0 3 = some (n : Int) := by
  simp only [figL]
  rw [if_pos (by omega)]
  congr 1; omega
theorem fig3_inv {a : Nat} {i : Int} (h : figL [a] 0 3 = some i) : ∃ n : Nat, n ≤ 3 ∧ i = (n : Int) ∧ a = 48 + n := by
  simp only [figL] at h
  split at h
  · cases h
    exact ⟨a - 48, by omega, by omega, by omega⟩
  · cases h
theorem prsT_text {c : Nat} {fs : List Nat} (m : MOk c fs) : ∀ (T : Tm) (d : Nat) (r : List Nat), TOk c fs T → dpT T ≤ d + 1 → prsT c fs d (textT T ++ r) = some (T, r)
  | .c i, d, r, h, hd => by
    have h3 : i ≤ 3 := by have := m.c4; simp only [TOk] at h; omega
    have h4 : (i : Int) < (c : Int) := by simp only [TOk] at h; omega
    cases d <;> (simp only [textT, List.cons_append, List.nil_append, prsT, fig3 h3]; rw [if_pos h4]; rfl)
  | .f1 g a, d, r, h, hd => by
    obtain ⟨h1, h2⟩ := h
    have hp := dpT_pos a
    simp only [dpT] at hd
    cases d with
    | zero => omega
    | succ d =>
      have hg : g < fs.length := (List.getElem?_eq_some_iff.mp h1).1
      have h3 : g ≤ 3 := by have := m.f3; omega
      simp only [textT, List.cons_append, List.nil_append, List.append_assoc, prsT, fig3 h3, Int.toNat_natCast, h1, prsT_text m a d (41 :: r) h2 (by omega)]
  | .f2 g a b, d, r, h, hd => by
    obtain ⟨h1, h2, h3⟩ := h
    have hp := dpT_pos a
    simp only [dpT] at hd
    cases d with
    | zero => omega
    | succ d =>
      have hg : g < fs.length := (List.getElem?_eq_some_iff.mp h1).1
      have h3' : g ≤ 3 := by have := m.f3; omega
      simp only [textT, List.cons_append, List.nil_append, List.append_assoc, prsT, fig3 h3', Int.toNat_natCast, h1, prsT_text m a d (44 :: (textT b ++ 41 :: r)) h2 (by omega), prsT_text m b d (41 :: r) h3 (by omega)]
theorem prsT_inv {c : Nat} {fs : List Nat} : ∀ (d : Nat) (x : List Nat) (T : Tm) (r : List Nat), prsT c fs d x = some (T, r) → TOk c fs T ∧ dpT T ≤ d + 1 ∧ textT T ++ r = x := by
  intro d
  induction d with
  | zero =>
    intro x T r h
    unfold prsT at h
    split at h
    · split at h
      · rename_i i hi
        obtain ⟨n, hn, rfl, rfl⟩ := fig3_inv hi
        split at h
        · rename_i hc
          cases h
          exact ⟨by simp only [TOk, Int.toNat_natCast]; omega, by simp [dpT], by simp [textT]⟩
        · cases h
      · cases h
    · rename_i z; cases z
    · cases h
  | succ d ih =>
    intro x T r h
    unfold prsT at h
    split at h
    · split at h
      · rename_i i hi
        obtain ⟨n, hn, rfl, rfl⟩ := fig3_inv hi
        split at h
        · rename_i hc
          cases h
          exact ⟨by simp only [TOk, Int.toNat_natCast]; omega, by simp [dpT], by simp [textT]⟩
        · cases h
      · cases h
    · rename_i d' a r' hd
      cases hd
      split at h
      · rename_i i hi
        obtain ⟨n, hn, rfl, rfl⟩ := fig3_inv hi
        simp only [Int.toNat_natCast] at h
        split at h
        · rename_i h1
          split at h
          · rename_i A r2 hA
            cases h
            obtain ⟨k1, k2, k3⟩ := ih _ _ _ hA
            exact ⟨⟨h1, k1⟩, by simp only [dpT]; omega, by simp [textT, ← k3]⟩
          · cases h
        · rename_i h1
          split at h
          · rename_i A r2 hA
            split at h
            · rename_i B r3 hB
              cases h
              obtain ⟨k1, k2, k3⟩ := ih _ _ _ hA
              obtain ⟨l1, l2, l3⟩ := ih _ _ _ hB
              exact ⟨⟨h1, k1, l1⟩, by simp only [dpT]; omega, by simp [textT, ← k3, ← l3]⟩
            · cases h
          · cases h
        · cases h
      · cases h
    · cases h
/-- both ways of reading agree -/
theorem prs_law {c : Nat} {fs : List Nat} (m : MOk c fs) (d : Nat) (x : List Nat) (T : Tm) : prsT c fs d x = some (T, []) ↔ lawT c fs d x = some T := by
  constructor
  · intro h
    obtain ⟨h1, h2, h3⟩ := prsT_inv d x T [] h
    rw [← h3, List.append_nil]
    exact lawT_text m T d h1 h2
  · intro h
    obtain ⟨h1, h2, h3⟩ := lawT_inv d x T h
    rw [← h3]
    have := prsT_text m T d [] h1 h2
    rwa [List.append_nil] at this
end L2.DL
-- part P4
set_option maxHeartbeats 4000000
/-! P4: the readers of terms. -/
namespace L2.DL
open PySem PySem.Spec PyProof.Rows
def L_split : SM := sIf (bAnd (bOf (eOp eqD (eVar 4) (eC (sT ",")))) (bOf (eOp eqD (eVar 2) (eC (.int 0))))) (sPar [1,3] (aCons (eOp addD (eVar 1) (eLst (aCons (eVar 3) aNil))) (aCons (eC (sT "")) aNil))) (sPar [3,2] (aCons (eOp addD (eVar 3) (eVar 4)) (aCons (eOp subD (eOp addD (eVar 2) (eCl intDD (aCons (eOp eqD (eVar 4) (eC (sT "("))) aNil))) (eCl intDD (aCons (eOp eqD (eVar 4) (eC (sT ")"))) aNil))) aNil)))
theorem L_split_cut {t : Option D} {found : List (List Nat)} {part : List Nat} {S : Sto} (h : found.length + 1 ≤ 16777216) : L_split [t, some (.lst (found.map .str)), some (.int 0), some (.str part), some (.str [44])] S = some (.nx, [t, some (.lst ((found ++ [part]).map .str)), some (.int 0), some (.str []), some (.str [44])], S) := by
  simp [L_split, eqD, eqB, addD, h, sT]
theorem L_split_go {t : Option D} {found : List D} {part : List Nat} {deep : Int} {c : Nat} {S : Sto} (h : part.length + 1 ≤ 16777216) (hc : ¬ (c = 44 ∧ deep = 0)) : L_split [t, some (.lst found), some (.int deep), some (.str part), some (.str [c])] S = some (.nx, [t, some (.lst found), some (.int (deep + (if c = 40 then 1 else 0) - (if c = 41 then 1 else 0))), some (.str (part ++ [c])), some (.str [c])], S) := by
  have hi : ∀ b : Bool, intDD S [.bl b] = some (.int (if b then 1 else 0)) := fun b => rfl
  by_cases c44 : c = 44
  · have hd : ¬ deep = 0 := fun z => hc ⟨c44, z⟩
    subst c44
    simp [L_split, eqD, eqB, addD, intOp, h, hd, hi, sT]
  · simp [L_split, eqD, eqB, addD, intOp, h, hi, c44, sT]
theorem split_loop (t : Option D) (S : Sto) : ∀ (x : List Nat) (found : List (List Nat)) (deep : Int) (part : List Nat) (a4 : Option D), found.length + part.length + x.length ≤ 16777000 →
    ∃ found' deep' part' a4', forD (gNameD 4) L_split (x.map fun c => .str [c]) [t, some (.lst (found.map .str)), some (.int deep), some (.str part), a4] S = some (.nx, [t, some (.lst (found'.map .str)), some (.int deep'), some (.str part'), a4'], S) ∧ found' ++ [part'] = found ++ splP deep part x ∧ found'.length ≤ 16777000
  | [], found, deep, part, a4, h => ⟨found, deep, part, a4, rfl, by simp [splP], by omega⟩
  | c :: r, found, deep, part, a4, h => by
    simp only [List.length_cons] at h
    by_cases hc : c = 44 ∧ deep = 0
    · obtain ⟨rfl, rfl⟩ := hc
      obtain ⟨f', d', p', a', h1, h2, h3⟩ := split_loop t S r (found ++ [part]) 0 [] (some (.str [44])) (by simp; omega)
      refine ⟨f', d', p', a', ?_, ?_, h3⟩
      · rw [List.map_cons, ev_for_cons, ev_gname]
        simp only [List.set_cons_succ, List.set_cons_zero]
        rw [L_split_cut (by omega)]
        exact h1
      · rw [h2, splP, if_pos ⟨rfl, rfl⟩]; simp
    · obtain ⟨f', d', p', a', h1, h2, h3⟩ := split_loop t S r found (deep + (if c = 40 then 1 else 0) - (if c = 41 then 1 else 0)) (part ++ [c]) (some (.str [c])) (by simp; omega)
      refine ⟨f', d', p', a', ?_, ?_, h3⟩
      · rw [List.map_cons, ev_for_cons, ev_gname]
        simp only [List.set_cons_succ, List.set_cons_zero]
        rw [L_split_go (by omega) hc]
        exact h1
      · rw [h2, splP, if_neg hc]
theorem f_split (x : List Nat) (S : Sto) (hx : x.length ≤ 1000000) : F__law_split [.str x] S = some (.ok (.lst ((splP 0 [] x).map .str)), S) := by
  obtain ⟨f', d', p', a', h1, h2, h3⟩ := split_loop (some (.str x)) S x [] 0 [] none (by simp; omega)
  have hl : f'.length + 1 ≤ 16777216 := by omega
  have e : (splP 0 [] x).map D.str = f'.map .str ++ [.str p'] := by
    have := congrArg (List.map D.str) h2
    simpa using this.symm
  unfold L_split at h1
  simp only [List.map_nil] at h1
  rw [e]
  simp [F__law_split, B__law_split, sT, addD, hl, ev_for] at h1 ⊢
  simp [h1, hl]

def oT : Option Tm → D
  | some T => dT T
  | none => .non
theorem toP_term : ∀ T : Tm, (toP (dT T)).canLay0 = true ∧ (toP (dT T)).depth ≤ dpT T
  | .c i => by simp [dT, toP, PyData.canLay0, PyData.depth, dpT]
  | .f1 g a => by
    obtain ⟨h1, h2⟩ := toP_term a
    have := dpT_pos a
    refine ⟨by simp [dT, toP, toPL, PyData.canLay0, PyData.canLayAll0, h1], ?_⟩
    simp only [dT, toP, toPL, PyData.depth, PyData.depthAll, dpT]
    omega
  | .f2 g a b => by
    obtain ⟨h1, h2⟩ := toP_term a
    obtain ⟨h3, h4⟩ := toP_term b
    have := dpT_pos a
    refine ⟨by simp [dT, toP, toPL, PyData.canLay0, PyData.canLayAll0, h1, h3], ?_⟩
    simp only [dT, toP, toPL, PyData.depth, PyData.depthAll, dpT]
    omega
theorem toP_oT : ∀ ps : List (Option Tm), (∀ T, some T ∈ ps → dpT T ≤ 60) → PyData.canLayAll0 (toPL (ps.map oT)) = true ∧ PyData.depthAll (toPL (ps.map oT)) ≤ 60
  | [], _ => by simp [toPL, PyData.canLayAll0, PyData.depthAll]
  | o :: ps, h => by
    obtain ⟨h1, h2⟩ := toP_oT ps fun T hT => h T (List.mem_cons_of_mem _ hT)
    cases o with
    | none => 
      simp [oT, toP, toPL, PyData.canLayAll0, PyData.depthAll, PyData.canLay0, PyData.depth, h1, h2]
    | some T =>
      obtain ⟨k1, k2⟩ := toP_term T
      have := h T List.mem_cons_self
      refine ⟨by simp [oT, toPL, PyData.canLayAll0, h1, k1], ?_⟩
      simp only [List.map_cons, oT, toPL, PyData.depthAll]
      omega
theorem any_non : ∀ ps : List (Option Tm), ((toPL (ps.map oT)).any fun z => PyData.eqv z .none) = ps.any (·.isNone)
  | [] => rfl
  | o :: ps => by
    rw [List.map_cons, toPL, List.any_cons, any_non ps, List.any_cons]
    cases o with
    | none => rfl
    | some T => cases T <;> rfl
theorem any_non2 : ∀ ps : List (Option Tm), ((ps.map oT).any fun z => eqF z .non) = ps.any (·.isNone)
  | [] => rfl
  | o :: ps => by
    rw [List.map_cons, List.any_cons, any_non2 ps, List.any_cons]
    cases o with
    | none => rfl
    | some T => cases T <;> rfl
theorem in_non (S : Sto) (ps : List (Option Tm)) (h : ∀ T, some T ∈ ps → dpT T ≤ 60) : inB S .non (.lst (ps.map oT)) = some (ps.any (·.isNone)) := by
  obtain ⟨h1, h2⟩ := toP_oT ps h
  unfold inB
  rw [der_lst]
  dsimp only
  split
  · rw [any_non2]
  · rw [if_pos]
    · rw [← any_non]; rfl
    · rw [Bool.and_eq_true]
      refine ⟨by decide, ?_⟩
      simp only [SeqAt.shaped, PyData.canLay0, h1, PyData.depth, Bool.true_and]
      exact decide_eq_true (by omega)
theorem atI_last {α : Type} (x : List α) : atI x (-1) = x.getLast? := by
  unfold atI ixN
  rw [if_neg (by decide), List.getLast?_eq_getElem?]
  cases x with
  | nil => rfl
  | cons a r =>
    rw [if_pos (by simp only [List.length_cons]; omega), Option.bind_some]
    have e : (-1 + (((a :: r).length : Nat) : Int)).toNat = (a :: r).length - 1 := by simp only [List.length_cons]; omega
    rw [e]
theorem cps_0123 : (Str.ofString "0123").cps.toList = [48, 49, 50, 51] := by decide +kernel
theorem cps_012 : (Str.ofString "012").cps.toList = [48, 49, 50] := by decide +kernel
theorem in_0123 {c : Nat} : c ∈ [48, 49, 50, 51] ↔ 48 ≤ c ∧ c ≤ 51 := by simp only [List.mem_cons, List.not_mem_nil, or_false]; omega
theorem in_012 {c : Nat} : c ∈ [48, 49, 50] ↔ 48 ≤ c ∧ c ≤ 50 := by simp only [List.mem_cons, List.not_mem_nil, or_false]; omega
theorem int_str (S : Sto) {b : Nat} (h : 48 ≤ b ∧ b ≤ 57) : intDD S [.str [b]] = some (.int ((b : Int) - 48)) := by
  simp [intDD, h]
theorem celL_two {a b : Nat} : celL [a, b] = if a = 99 ∧ 48 ≤ b ∧ b ≤ 51 then some ((b : Int) - 48) else none := by
  by_cases h : a = 99
  · subst h
    by_cases hb : 48 ≤ b ∧ b ≤ 51
    · simp only [celL, figL, true_and]; rw [if_pos (by omega), if_pos hb]
    · simp only [celL, figL, true_and]; rw [if_neg (by omega), if_neg hb]
  · rw [if_neg (fun z => h z.1)]
    unfold celL
    split
    · rename_i e; cases e; exact absurd rfl h
    · rfl
theorem celL_long {a b e : Nat} {r : List Nat} : celL (a :: b :: e :: r) = none := by
  unfold celL
  split
  · rename_i z; cases z; rfl
  · rfl
theorem celL_short {a : Nat} : celL [a] = none := by
  unfold celL
  split
  · rename_i z; cases z; rfl
  · rfl
/-- the c form -/
theorem law_c {c : Nat} {fs : List Nat} {x : List Nat} {i : Int} (F : DF) (h : celL x = some i) (d : Int) (S : Sto) : denF 5 3 (B__law_term F) [mD c fs, .str x, .int d] S = some (.ok (oT (cForm c i)), S) := by
  obtain ⟨n, hn, rfl, rfl⟩ := celL_iff.mp h
  have hb : 48 ≤ 48 + n ∧ 48 + n ≤ 57 := by omega
  have hm : 48 + n ∈ [48, 49, 50, 51] := in_0123.mpr (by omega)
  have e : ((48 + n : Nat) : Int) - 48 = (n : Int) := by omega
  have hi := fun S => int_str S hb
  rw [e] at hi
  unfold cForm
  by_cases hc : (n : Int) < (c : Int)
  · simp [B__law_term, lenD, eqD, eqB, ixD, inD, inB, sT, cps_0123, hm, -List.mem_cons, hi, mD, intOp, hc, oT, dT]
  · simp [B__law_term, lenD, eqD, eqB, ixD, inD, inB, sT, cps_0123, hm, -List.mem_cons, hi, mD, intOp, hc, oT, dT]

theorem splP_part_len : ∀ (x : List Nat) (deep : Int) (acc : List Nat), ∀ p ∈ splP deep acc x, p.length ≤ acc.length + x.length
  | [], k, acc, p, h => by
    rw [splP] at h
    rw [List.mem_singleton.mp h]; simp
  | c :: r, k, acc, p, h => by
    rw [splP] at h
    split at h
    · rcases List.mem_cons.mp h with h | h
      · rw [h]; simp
      · have := splP_part_len r _ [] p h
        simp at this ⊢; omega
    · have := splP_part_len r _ (acc ++ [c]) p h
      simp at this ⊢; omega
theorem splP_len : ∀ (x : List Nat) (deep : Int) (acc : List Nat), (splP deep acc x).length ≤ x.length + 1
  | [], k, acc => by simp [splP]
  | c :: r, k, acc => by
    rw [splP]
    split
    · have := splP_len r k []
      simp; omega
    · have := splP_len r (k + (if c = 40 then 1 else 0) - (if c = 41 then 1 else 0)) (acc ++ [c])
      simp; omega
def trmD (c : Nat) (fs : List Nat) (d : Nat) : D → D
  | .str p => oT (lawT c fs d p)
  | _ => .non
theorem law_f0 {c : Nat} {fs : List Nat} {x : List Nat} (F : DF) (h : celL x = none) (hx : x.length ≤ 16777216) (S : Sto) : denF 5 3 (B__law_term F) [mD c fs, .str x, .int 1] S = some (.ok .non, S) := by
  match x, h, hx with
  | [], h, hx => simp [B__law_term, lenD, eqD, eqB, ixD, inD, inB, sT, mD, intOp]
  | [a], h, hx => simp [B__law_term, lenD, eqD, eqB, ixD, inD, inB, sT, mD, intOp]
  | [a, b], h, hx =>
    rw [celL_two] at h
    by_cases ha : a = 99
    · have hb : ¬ (b ∈ [48, 49, 50, 51]) := fun z => by
        rw [if_pos ⟨ha, in_0123.mp z⟩] at h; cases h
      subst ha
      simp [B__law_term, lenD, eqD, eqB, ixD, inD, inB, sT, mD, intOp, cps_0123, hb, -List.mem_cons]
    · simp [B__law_term, lenD, eqD, eqB, ixD, inD, inB, sT, mD, intOp, ha]
  | a :: b :: e :: r, h, hx =>
    have hl : r.length + 1 + 1 + 1 ≤ 16777216 := by simpa using hx
    have hl2 : ¬ ((r.length : Int) + 1 + 1 + 1 = 2) := by omega
    simp [B__law_term, lenD, eqD, eqB, ixD, inD, inB, sT, mD, intOp, hl, hl2]
theorem law_fs {c : Nat} {fs : List Nat} {x : List Nat} (F : DF) (h : celL x = none) (hx : x.length < 5) (d : Int) (hd : ¬ d < 2) (S : Sto) : denF 5 3 (B__law_term F) [mD c fs, .str x, .int d] S = some (.ok .non, S) := by
  match x, h, hx with
  | [], h, hx => simp [B__law_term, lenD, eqD, eqB, ixD, inD, inB, sT, mD, intOp, hd]
  | [a], h, hx => simp [B__law_term, lenD, eqD, eqB, ixD, inD, inB, sT, mD, intOp, hd]
  | [a, b], h, hx =>
    rw [celL_two] at h
    by_cases ha : a = 99
    · have hb : ¬ (b ∈ [48, 49, 50, 51]) := fun z => by
        rw [if_pos ⟨ha, in_0123.mp z⟩] at h; cases h
      subst ha
      simp [B__law_term, lenD, eqD, eqB, ixD, inD, inB, sT, mD, intOp, cps_0123, hb, -List.mem_cons, hd]
    · simp [B__law_term, lenD, eqD, eqB, ixD, inD, inB, sT, mD, intOp, ha, hd]
  | [a, b, e], h, hx => simp [B__law_term, lenD, eqD, eqB, ixD, inD, inB, sT, mD, intOp, hd]
  | [a, b, e, f], h, hx => simp [B__law_term, lenD, eqD, eqB, ixD, inD, inB, sT, mD, intOp, hd]
theorem fForm_long {fs : List Nat} {a b e z : Nat} {w : List Nat} : fForm fs (a :: b :: e :: (w ++ [z])) = if a = 102 ∧ e = 40 ∧ (48 ≤ b ∧ b ≤ 50) ∧ b - 48 < fs.length ∧ 1 ≤ w.length ∧ z = 41 then some (b - 48, w) else none := by
  by_cases h : a = 102 ∧ e = 40
  · obtain ⟨rfl, rfl⟩ := h
    unfold fForm
    simp only [true_and]
    by_cases h2 : (48 ≤ b ∧ b ≤ 50) ∧ b - 48 < fs.length ∧ 1 ≤ w.length ∧ z = 41
    · rw [if_pos h2, if_pos ⟨h2.1.1, h2.1.2, h2.2.1, by simp; omega, by simp [h2.2.2.2]⟩]
      simp
    · rw [if_neg h2, if_neg (fun q => h2 ⟨⟨q.1, q.2.1⟩, q.2.2.1, by have := q.2.2.2.1; simp at this; omega, by have := q.2.2.2.2; simpa using this⟩)]
  · rw [if_neg (fun q => h ⟨q.1, q.2.1⟩)]
    unfold fForm
    split
    · rename_i e; cases e; exact absurd ⟨rfl, rfl⟩ h
    · rfl
theorem lawT_oT {c : Nat} {fs : List Nat} (m : MOk c fs) (d : Nat) (hd : d ≤ 50) (ps : List (List Nat)) : ∀ T, some T ∈ ps.map (lawT c fs d) → dpT T ≤ 60 := fun T hT => by
  obtain ⟨p, _, hp⟩ := List.mem_map.mp hT
  have := (lawT_inv d p T hp).2.1
  omega
theorem mkT_none {fs : List Nat} {g : Nat} {ps : List (Option Tm)} (h : ps.any (·.isNone) = true ∨ fs[g]? ≠ some ps.length) : mkT fs g ps = none := by
  unfold mkT
  split
  · rename_i a e
    rcases h with h | h
    · simp at h
    · exact absurd e h
  · rename_i a b e
    rcases h with h | h
    · simp at h
    · exact absurd e h
  · rfl
theorem mkT_some {fs : List Nat} {g n : Nat} {ps : List (Option Tm)} (hr : ∀ r ∈ fs, 1 ≤ r ∧ r ≤ 2) (h : ps.any (·.isNone) = false) (hl : fs[g]? = some n) (hn : ps.length = n) : ∃ T, mkT fs g ps = some T ∧ dT T = .tup (.int (g : Int) :: ps.map oT) := by
  have hm := hr n (List.mem_of_getElem? hl)
  match ps, h, hn with
  | [], h, hn => simp at hn; omega
  | [some a], h, hn =>
    have : n = 1 := by simpa using hn.symm
    subst this
    exact ⟨.f1 g a, by simp [mkT, hl], rfl⟩
  | [some a, some b], h, hn =>
    have : n = 2 := by simpa using hn.symm
    subst this
    exact ⟨.f2 g a b, by simp [mkT, hl], rfl⟩
  | [none], h, hn => simp at h
  | [none, _], h, hn => simp at h
  | [some a, none], h, hn => simp at h
  | _ :: _ :: _ :: _, h, hn => simp at hn; omega
theorem f_law_term {c : Nat} {fs : List Nat} (m : MOk c fs) : ∀ (d k : Nat) (x : List Nat) (S : Sto), d ≤ k → d ≤ 50 → x.length ≤ 1000000 → F__law_term (k + 1) [mD c fs, .str x, .int ((d : Int) + 1)] S = some (.ok (oT (lawT c fs d x)), S)
  | d, k, x, S, hdk, hd, hx => by
    show denF 5 3 (B__law_term (F__law_term k)) _ S = _
    cases hx2 : celL x with
    | some i =>
      rw [law_c _ hx2]
      cases d <;> simp [lawT, hx2]
    | none =>
      cases d with
      | zero => 
        rw [show ((0 : Nat) : Int) + 1 = 1 from rfl, law_f0 _ hx2 (by omega)]
        simp [lawT, hx2, oT]
      | succ d =>
        have hd2 : ¬ (((d + 1 : Nat) : Int) + 1 < 2) := by omega
        by_cases h5 : x.length < 5
        · rw [law_fs _ hx2 h5 _ hd2]
          have hff : fForm fs x = none := by
            unfold fForm
            split
            · simp at h5
              rw [if_neg (by omega)]
            · rfl
          simp [lawT, hx2, oT, hff]
        · match x, hx2, h5, hx with
          | [], _, h5, _ => exact absurd (by simp) h5
          | [_], _, h5, _ => exact absurd (by simp) h5
          | [_, _], _, h5, _ => exact absurd (by simp) h5
          | a :: b :: e :: r, hx2, h5, hx =>
            have hr2 : 2 ≤ r.length := by simp at h5; omega
            have hl : r.length + 1 + 1 + 1 ≤ 16777216 := by simp at hx; omega
            have hl2 : ¬ ((r.length : Int) + 1 + 1 + 1 = 2) := by omega
            have hl5 : ¬ ((r.length : Int) + 1 + 1 + 1 < 5) := by omega
            have hrne : r ≠ [] := fun z => by subst z; simp at hr2
            obtain ⟨w, z, rfl⟩ : ∃ w z, r = w ++ [z] := ⟨r.dropLast, r.getLast hrne, (List.dropLast_concat_getLast hrne).symm⟩
            have hlast : atI (a :: b :: e :: (w ++ [z])) (-1) = some z := by
              rw [atI_last]
              simp [List.getLast?_cons]
            have hd3 : ¬ ((d : Int) + 1 + 1 < 2) := by omega
            have hl' : w.length + 1 + 1 + 1 + 1 ≤ 16777216 := by simpa using hl
            have hl2' : ¬ ((w.length : Int) + 1 + 1 + 1 + 1 = 2) := by omega
            have hl5' : ¬ ((w.length : Int) + 1 + 1 + 1 + 1 < 5) := by simp at hr2; omega
            have hbad : ∀ q : fForm fs (a :: b :: e :: (w ++ [z])) = none, oT (lawT c fs (d + 1) (a :: b :: e :: (w ++ [z]))) = .non := fun q => by simp [lawT, hx2, oT, q]
            by_cases ha : a = 102
            · subst ha
              by_cases hb : 48 ≤ b ∧ b ≤ 50
              · have hin : ∀ S, inB S (.str [b]) (.str [48, 49, 50]) = some true := fun S => by simp only [inB, der_str]; rw [decide_eq_true (in_012.mpr hb)]
                have hbm : b ∈ [48, 49, 50] := in_012.mpr hb
                have hi := fun S => int_str S (show 48 ≤ b ∧ b ≤ 57 by omega)
                by_cases he : e = 40
                · subst he
                  by_cases hz : z = 41
                  · obtain ⟨g, rfl⟩ : ∃ g, b = 48 + g := ⟨b - 48, by omega⟩
                    have hgi : ((48 + g : Nat) : Int) - 48 = (g : Int) := by omega
                    rw [hgi] at hi
                    subst hz
                    by_cases hg : g < fs.length
                    · have hgl : ¬ ((fs.length : Int) ≤ (g : Int)) := by omega
                      have hw1 : 1 ≤ w.length := by simp at hr2; omega
                      have hff : fForm fs (102 :: (48 + g) :: 40 :: (w ++ [41])) = some (g, w) := by
                        rw [fForm_long, if_pos ⟨rfl, rfl, hb, by omega, hw1, rfl⟩]
                        congr 2; omega
                      have hwl : w.length ≤ 1000000 := by simp at hx; omega
                      have hsp := fun S => f_split w S hwl
                      have hpl := splP_part_len w 0 []
                      have hpn := splP_len w 0 []
                      have hlaw : lawT c fs (d + 1) (102 :: (48 + g) :: 40 :: (w ++ [41])) = mkT fs g ((splP 0 [] w).map (lawT c fs d)) := by simp [lawT, hx2, hff]
                      rw [hlaw]
                      generalize splP 0 [] w = ps at hsp hpl hpn
                      have hcomp : ∀ (S : Sto) (env : DEnv), env.length = 5 → env[0]? = some (some (.tup [.int (c : Int), .tup (intsD fs)])) → env[2]? = some (some (.int ((d : Int) + 1 + 1))) → compD (gNameD 4) bYes (eCall (F__law_term k) (aCons (eVar 0) (aCons (eVar 4) (aCons (eOp subD (eVar 2) (eC (.int 1))) aNil)))) [4] (ps.map .str) env S = some ((ps.map (lawT c fs d)).map oT, S) := fun S env h5 h0 h2 => by
                        have e : (ps.map (lawT c fs d)).map oT = (ps.map D.str).map (trmD c fs d) := by simp [trmD]
                        rw [e]
                        refine comp_map fun q hq => ?_
                        obtain ⟨p, hp, rfl⟩ := List.mem_map.mp hq
                        obtain ⟨k', rfl⟩ : ∃ k', k = k' + 1 := ⟨k - 1, by omega⟩
                        match env, h5, h0, h2 with
                        | [a0, a1, a2, a3, a4], _, h0, h2 =>
                          have e0 : a0 = some (mD c fs) := by simpa [mD] using h0
                          have e2 : a2 = some (.int ((d : Int) + 1 + 1)) := by simpa using h2
                          subst e0 e2
                          refine ⟨_, rfl, ?_⟩
                          have ih := f_law_term m d k' p S (by omega) (by omega) (by have := hpl p hp; simp at this; omega)
                          have hdd : (d : Int) + 1 + 1 - 1 = (d : Int) + 1 := by omega
                          simp only [wipeD, List.set_cons_succ, List.set_cons_zero, ev_call, ev_acons, ev_var0, ev_var, ev_op, ev_c, ev_anil, intOp, if_true, hdd, ih, trmD]
                      have hnn := fun S => in_non S (ps.map (lawT c fs d)) (lawT_oT m d (by omega) ps)
                      have hqs : ps.length ≤ 16777216 := by omega
                      obtain ⟨n, hn⟩ : ∃ n, fs[g]? = some n := ⟨fs[g], List.getElem?_eq_getElem hg⟩
                      have e2 : (intsD fs)[g]? = some (.int (n : Int)) := by simp [intsD, hn]
                      have hpm : (ps.map (lawT c fs d)).length = ps.length := by simp
                      have hin' : ∀ S, inB S (.str [48 + g]) (.str [48, 49, 50]) = some true := hin
                      have hdl : w.length + 1 + 1 + 1 + 1 ≤ 16777216 := hl'
                      generalize ps.map (lawT c fs d) = qs at hcomp hnn hpm ⊢
                      have hqs2 : qs.length ≤ 16777216 := by omega
                      cases hany : qs.any (·.isNone) with
                      | true =>
                        rw [hany] at hnn
                        rw [mkT_none (.inl hany)]
                        simp [B__law_term, lenD, eqD, eqB, neD, ixD, inD, ninD, slD, sT, mD, intOp, hl', hl2', hl5', hd3, cps_012, hin', hi, hlast, hgl, hsp, hcomp, hnn, hqs2, oT]
                      | false =>
                        rw [hany] at hnn
                        by_cases hln : qs.length = n
                        · obtain ⟨T, hT, hT2⟩ := mkT_some m.fr hany hn hln
                          rw [hT]
                          have hln2 : n + 1 ≤ 16777216 := by omega
                          have hln3 : 1 + n ≤ 16777216 := by omega
                          have hln4 : n ≤ 16777216 := by omega
                          simp [B__law_term, lenD, eqD, eqB, neD, ixD, inD, ninD, slD, sT, mD, intOp, hl', hl2', hl5', hd3, cps_012, hin', hi, hlast, hgl, hsp, hcomp, hnn, hqs2, oT, atI_nat, e2, hln, hT2, tupDD, addD, hln2, hln3, hln4]
                        · have hln2 : ¬ ((qs.length : Int) = (n : Int)) := by omega
                          rw [mkT_none (.inr (by rw [hn]; intro q; cases q; exact hln rfl))]
                          simp [B__law_term, lenD, eqD, eqB, neD, ixD, inD, ninD, slD, sT, mD, intOp, hl', hl2', hl5', hd3, cps_012, hin', hi, hlast, hgl, hsp, hcomp, hnn, hqs2, oT, atI_nat, e2, hln2]
                    · have hgl : (fs.length : Int) ≤ (g : Int) := by omega
                      have hff : fForm fs (102 :: (48 + g) :: 40 :: (w ++ [41])) = none := by rw [fForm_long, if_neg (fun q => hg (by have := q.2.2.2.1; omega))]
                      rw [hbad hff]
                      simp [B__law_term, lenD, eqD, eqB, neD, ixD, inD, ninD, sT, mD, intOp, hl', hl2', hl5', hd3, cps_012, hin, hi, hlast, hgl]
                  · have hff : fForm fs (102 :: b :: 40 :: (w ++ [z])) = none := by rw [fForm_long, if_neg (fun q => hz q.2.2.2.2.2)]
                    rw [hbad hff]
                    simp [B__law_term, lenD, eqD, eqB, neD, ixD, inD, ninD, sT, mD, intOp, hl', hl2', hl5', hd3, cps_012, hin, hz, hi, hlast]
                · have hff : fForm fs (102 :: b :: e :: (w ++ [z])) = none := by rw [fForm_long, if_neg (fun q => he q.2.1)]
                  rw [hbad hff]
                  simp [B__law_term, lenD, eqD, eqB, neD, ixD, inD, ninD, sT, mD, intOp, hl', hl2', hl5', hd3, cps_012, hin, he]
              · have hbm : ¬ b ∈ [48, 49, 50] := fun q => hb (in_012.mp q)
                have hff : fForm fs (102 :: b :: e :: (w ++ [z])) = none := by rw [fForm_long, if_neg (fun q => hb q.2.2.1)]
                rw [hbad hff]
                simp [B__law_term, lenD, eqD, eqB, neD, ixD, inD, ninD, inB, sT, mD, intOp, hl', hl2', hl5', hd3, cps_012, hbm, -List.mem_cons]
            · have hff : fForm fs (a :: b :: e :: (w ++ [z])) = none := by rw [fForm_long, if_neg (fun q => ha q.1)]
              rw [hbad hff]
              simp [B__law_term, lenD, eqD, eqB, neD, ixD, sT, mD, intOp, hl', hl2', hl5', hd3, ha]
end L2.DL
-- part P5
set_option maxHeartbeats 4000000
/-! P5: the law's reader of lines. -/
namespace L2.DL
open PySem PySem.Spec PyProof.Rows
theorem pre1 {s c : Nat} {r : List Nat} : TL.pre [s] (c :: r) = decide (c = s) := by
  by_cases h : c = s
  · subst h
    have := TL.pre_self [c] r
    simpa using this
  · rw [TL.pre_of_head [] r h]
    simp [h]
theorem spl_joinL : ∀ (x acc : List Nat), TL.joinL [44] (TL.spl [44] 0 acc x) = acc ++ x
  | [], acc => by simp [TL.spl_nil, TL.joinL]
  | c :: r, acc => by
    by_cases h : c = 44
    · subst h
      rw [TL.spl_hit (by rw [pre1]; simp)]
      have ih := spl_joinL r []
      cases hs : TL.spl [44] 0 [] r with
      | nil => exact absurd hs (spl_ne _ _ _ _)
      | cons q t =>
        rw [TL.joinL, ← hs, ih]
        simp
    · rw [TL.spl_miss (by rw [pre1]; simp [h]), spl_joinL r]
      simp
theorem splP_clean : ∀ (p : List Nat), (∀ c ∈ p, 44 < c) → ∀ (acc r : List Nat), splP 0 acc (p ++ r) = splP 0 (acc ++ p) r
  | [], _, acc, r => by simp
  | c :: p, h, acc, r => by
    rw [List.cons_append, splP_plain (h c List.mem_cons_self), splP_clean p (fun c hc => h c (List.mem_cons_of_mem _ hc))]
    simp
theorem splP_joinC : ∀ (ps : List (List Nat)), ps ≠ [] → (∀ p ∈ ps, ∀ c ∈ p, 44 < c) → splP 0 [] (TL.joinL [44] ps) = ps
  | [], h, _ => absurd rfl h
  | [p], _, h => by
    rw [TL.joinL]
    have := splP_clean p (h p List.mem_cons_self) [] []
    simpa [splP] using this
  | p :: q :: r, _, h => by
    rw [TL.joinL, splP_clean p (h p List.mem_cons_self), List.singleton_append, splP, if_pos ⟨rfl, rfl⟩, splP_joinC (q :: r) (by simp) fun p hp => h p (List.mem_cons_of_mem _ hp)]
    simp
theorem splP_ne : ∀ (x : List Nat) (deep : Int) (acc : List Nat), splP deep acc x ≠ []
  | [], _, _ => by simp [splP]
  | c :: r, deep, acc => by
    rw [splP]
    split
    · simp
    · exact splP_ne r _ _
theorem cel_clean {p : List Nat} (h : (celL p).isSome = true) : ∀ c ∈ p, 44 < c := by
  obtain ⟨i, hi⟩ := Option.isSome_iff_exists.mp h
  obtain ⟨n, hn, rfl, rfl⟩ := celL_iff.mp hi
  intro c hc
  simp at hc
  omega
theorem spl_eq1 {y : List Nat} (h : ∀ p ∈ TL.spl [44] 0 [] y, (celL p).isSome = true) : splP 0 [] y = TL.spl [44] 0 [] y := by
  have e := spl_joinL y []
  rw [List.nil_append] at e
  conv => lhs; rw [← e]
  exact splP_joinC _ (spl_ne _ _ _ _) fun p hp => cel_clean (h p hp)
theorem spl_eq2 {y : List Nat} (h : ∀ p ∈ splP 0 [] y, (celL p).isSome = true) : TL.spl [44] 0 [] y = splP 0 [] y := by
  have e := splP_join y 0 []
  rw [List.nil_append] at e
  conv => lhs; rw [← e]
  exact TL.spl_join (splP_ne _ _ _) fun p hp z => by have := cel_clean (h p hp) 44 z; omega
/-- the right side as the law reads it -/
def rightL (c : Nat) (fs : List Nat) (cell : Int) (b : List Nat) : Option Ln := match lawT c fs 0 b with
  | some (.c i) => if (i : Int) ≠ cell then some (cell, none, [some (i : Int)]) else none
  | _ => (match lawT c fs 1 b with
    | some (.f1 g (.c i)) => some (cell, some (g : Int), [some (i : Int)])
    | some (.f2 g (.c i) (.c j)) => some (cell, some (g : Int), [some (i : Int), some (j : Int)])
    | _ => none)
theorem fig2_iff {g : Nat} {i : Int} : figL [g] 0 2 = some i ↔ ∃ n : Nat, n ≤ 2 ∧ i = (n : Int) ∧ g = 48 + n := by
  simp only [figL]
  constructor
  · intro h
    split at h
    · cases h
      exact ⟨g - 48, by omega, by omega, by omega⟩
    · cases h
  · rintro ⟨n, hn, rfl, rfl⟩
    rw [if_pos (by omega)]
    congr 1
    omega
theorem law0_iff {c : Nat} {fs : List Nat} {p : List Nat} {T : Tm} : lawT c fs 0 p = some T ↔ ∃ n : Nat, n < c ∧ celL p = some (n : Int) ∧ T = .c n := by
  unfold lawT
  constructor
  · intro h
    split at h
    · rename_i i hi
      obtain ⟨n, hn, rfl, rfl⟩ := celL_iff.mp hi
      unfold cForm at h
      split at h
      · cases h
        exact ⟨n, by omega, hi, by simp⟩
      · cases h
    · cases h
  · rintro ⟨n, hn, hp, rfl⟩
    rw [hp]
    simp only [cForm]
    rw [if_pos (by omega)]
    simp
theorem right_eq {c : Nat} {fs : List Nat} (m : MOk c fs) {cell : Int} (h0 : 0 ≤ cell) (h1 : cell ≤ (c : Int) - 1) (b : List Nat) : rightOf c fs cell b = rightL c fs cell b := by
  unfold rightOf rightL
  cases hb : celL b with
  | some i =>
    obtain ⟨n, hn, rfl, rfl⟩ := celL_iff.mp hb
    by_cases hc : n < c
    · have e : lawT c fs 0 [99, 48 + n] = some (.c n) := law0_iff.mpr ⟨n, hc, hb, rfl⟩
      have q1 : (0 : Int) ≤ (n : Int) := by omega
      have q2 : (n : Int) ≤ (c : Int) - 1 := by omega
      rw [e]
      simp only [ifOk, lineOk_eq, h0, h1, srcOk, q1, q2, List.all_cons, List.all_nil, decide_true, Bool.and_true, Bool.true_and, List.length_singleton, List.head?_cons, ne_eq, Option.some.injEq]
      simp
    · have e0 : lawT c fs 0 [99, 48 + n] = none := by
        cases q : lawT c fs 0 [99, 48 + n] with
        | none => rfl
        | some T => obtain ⟨k, k1, k2, _⟩ := law0_iff.mp q; rw [hb] at k2; cases k2; omega
      have e1 : lawT c fs 1 [99, 48 + n] = none := by
        simp only [lawT, hb, cForm]
        rw [if_neg (by omega)]
      have q2 : ¬ (n : Int) ≤ (c : Int) - 1 := by omega
      rw [e0, e1]
      simp only [ifOk, lineOk_eq, srcOk, q2, List.all_cons, List.all_nil, decide_false, Bool.and_false, Bool.false_and]
      simp
  | none =>
    have e0 : lawT c fs 0 b = none := by simp [lawT, hb]
    rw [e0]
    have e1 : lawT c fs 1 b = match fForm fs b with
      | some (g, y) => mkT fs g ((splP 0 [] y).map (lawT c fs 0))
      | none => none := by
      rw [show lawT c fs 1 b = (match celL b with
        | some i => cForm c i
        | none => (match fForm fs b with
          | some (g, y) => mkT fs g ((splP 0 [] y).map (lawT c fs 0))
          | none => none)) from rfl, hb]
    rw [e1]
    have hcel : ∀ p, srcOk c (celL p) = true ↔ ∃ n : Nat, n < c ∧ celL p = some (n : Int) := fun p => by
      constructor
      · intro h
        cases hp : celL p with
        | none => rw [hp] at h; simp [srcOk] at h
        | some i =>
          rw [hp] at h
          simp [srcOk] at h
          exact ⟨i.toNat, by omega, by congr 1; omega⟩
      · rintro ⟨n, hn, hp⟩
        rw [hp]
        simp [srcOk]
        omega
    cases hf : fForm fs b with
    | some gy =>
      obtain ⟨g, y⟩ := gy
      obtain ⟨rfl, hg⟩ := fForm_inv hf
      have hg2 : g ≤ 2 := by have := m.f3; omega
      have hfun : funOf c fs cell (102 :: (48 + g) :: 40 :: (y ++ [41])) = ifOk c fs (cell, some (g : Int), (TL.spl [44] 0 [] y).map celL) := by
        have e : figL [48 + g] 0 2 = some (g : Int) := fig2_iff.mpr ⟨g, hg2, rfl, rfl⟩
        simp [funOf, e]
      rw [hfun]
      simp only
      by_cases H : ((TL.spl [44] 0 [] y).map celL).all (srcOk c) = true
      · have H' : ∀ p ∈ TL.spl [44] 0 [] y, ∃ n : Nat, n < c ∧ celL p = some (n : Int) := fun p hp => (hcel p).mp (List.all_eq_true.mp H _ (List.mem_map.mpr ⟨p, hp, rfl⟩))
        rw [spl_eq1 fun p hp => by obtain ⟨n, _, h⟩ := H' p hp; rw [h]; rfl]
        have hne := spl_ne [44] y 0 []
        generalize TL.spl [44] 0 [] y = ps at H H' hne ⊢
        have g0 : (0 : Int) ≤ (g : Int) := by omega
        have g1 : (g : Int) ≤ (fs.length : Int) - 1 := by omega
        have hok : lineOk c fs cell (some (g : Int)) (ps.map celL) = decide (fs[g]? = some ps.length) := by
          rw [lineOk_eq, H]
          simp [h0, h1, g0, g1]
        by_cases hl : fs[g]? = some ps.length
        · have hm := m.fr _ (List.mem_of_getElem? hl)
          match ps, hne, H', hl, hm, hok with
          | [p], _, H', hl, hm, hok =>
            obtain ⟨n, hn, hp⟩ := H' p (by simp)
            have e : lawT c fs 0 p = some (.c n) := law0_iff.mpr ⟨n, hn, hp, rfl⟩
            simp at hl
            simp [hl, hp] at hok
            simp [ifOk, hok, hl, e, mkT, hp]
          | [p, q], _, H', hl, hm, hok =>
            obtain ⟨n, hn, hp⟩ := H' p (by simp)
            obtain ⟨k, hk, hq⟩ := H' q (by simp)
            have e : lawT c fs 0 p = some (.c n) := law0_iff.mpr ⟨n, hn, hp, rfl⟩
            have e' : lawT c fs 0 q = some (.c k) := law0_iff.mpr ⟨k, hk, hq, rfl⟩
            simp at hl
            simp [hl, hp, hq] at hok
            simp [ifOk, hok, hl, e, e', mkT, hp, hq]
          | _ :: _ :: _ :: _, _, _, _, hm, _ => simp at hm
        · rw [mkT_none (.inr (by rw [List.length_map]; exact hl))]
          simp [ifOk, hok, hl]
      · have hok : lineOk c fs cell (some (g : Int)) ((TL.spl [44] 0 [] y).map celL) = false := by
          rw [lineOk_eq, Bool.eq_false_iff.mpr H, Bool.and_false, Bool.false_and]
        have hm : mkT fs g ((splP 0 [] y).map (lawT c fs 0)) = none := by
          cases q : mkT fs g ((splP 0 [] y).map (lawT c fs 0)) with
          | none => rfl
          | some T =>
            exfalso
            have hall : ∀ p ∈ splP 0 [] y, ∃ n : Nat, n < c ∧ celL p = some (n : Int) := by
              rcases mkT_inv q with ⟨a, _, h2, _⟩ | ⟨a, b, _, h2, _⟩
              · obtain ⟨p, hp, ha⟩ := map_one h2
                obtain ⟨n, hn, hc, _⟩ := law0_iff.mp ha
                intro r hr
                rw [hp] at hr
                rw [List.mem_singleton.mp hr]
                exact ⟨n, hn, hc⟩
              · obtain ⟨p, p', hp, ha, hb⟩ := map_two h2
                obtain ⟨n, hn, hc, _⟩ := law0_iff.mp ha
                obtain ⟨k, hk, hc', _⟩ := law0_iff.mp hb
                intro r hr
                rw [hp] at hr
                simp at hr
                rcases hr with rfl | rfl
                · exact ⟨n, hn, hc⟩
                · exact ⟨k, hk, hc'⟩
            rw [spl_eq2 fun p hp => by obtain ⟨n, _, h⟩ := hall p hp; rw [h]; rfl] at H
            refine H (List.all_eq_true.mpr fun o ho => ?_)
            obtain ⟨p, hp, rfl⟩ := List.mem_map.mp ho
            exact (hcel p).mpr (hall p hp)
        rw [hm]
        simp [ifOk, hok]
    | none =>
      simp only
      unfold funOf
      split
      · rename_i b' g r
        cases hg : figL [g] 0 2 with
        | none => rfl
        | some i =>
          obtain ⟨n, hn, rfl, rfl⟩ := fig2_iff.mp hg
          simp only
          by_cases hz : r.getLast? = some 41
          · rw [if_pos hz]
            obtain ⟨w, rfl⟩ := List.getLast?_eq_some_iff.mp hz
            rw [fForm_long] at hf
            have hbad : ¬ (n < fs.length ∧ 1 ≤ w.length) := fun q => by
              rw [if_pos ⟨rfl, rfl, by omega, by omega, q.2, rfl⟩] at hf; cases hf
            by_cases hn2 : n < fs.length
            · have hw : w = [] := List.eq_nil_of_length_eq_zero (by omega)
              subst hw
              simp [ifOk, lineOk_eq, TL.spl_nil, celL, srcOk]
            · have q : ¬ (n : Int) ≤ (fs.length : Int) - 1 := by omega
              simp [ifOk, lineOk_eq, q]
          · rw [if_neg hz]
      · rfl
theorem right_bad {c : Nat} {fs : List Nat} {cell : Int} (h : ¬ cell ≤ (c : Int) - 1) (b : List Nat) : rightOf c fs cell b = none := by
  have hk : ∀ fn srcs, ifOk c fs (cell, fn, srcs) = none := fun fn srcs => by simp [ifOk, lineOk_eq, h]
  unfold rightOf
  split
  · exact hk _ _
  · unfold funOf
    split
    · split
      · split
        · exact hk _ _
        · rfl
      · rfl
    · rfl
theorem dp1 {T : Tm} (h : dpT T ≤ 1) : ∃ i, T = .c i := by
  cases T with
  | c i => exact ⟨i, rfl⟩
  | f1 g a => have := dpT_pos a; simp only [dpT] at h; omega
  | f2 g a b => have := dpT_pos a; simp only [dpT] at h; omega
theorem f_law_line_of {c : Nat} {fs : List Nat} (m : MOk c fs) (x : List Nat) (S : Sto) (hx : x.length ≤ 1000000) : F__law_line_of [mD c fs, .str x] S = some (.ok (oLn (lineOf c fs x)), S) := by
  have hp := spl_part_len [32, 61, 32] x 0 []
  have hx2 : x.length + 2 ≤ 16777216 := by omega
  have H1 : ∀ (p : List Nat) (S : Sto), p.length ≤ 1000000 → F__law_term 20 [mD c fs, .str p, .int 1] S = some (.ok (oT (lawT c fs 0 p)), S) := fun p S h => f_law_term m 0 19 p S (by omega) (by omega) h
  have H2 : ∀ (p : List Nat) (S : Sto), p.length ≤ 1000000 → F__law_term 20 [mD c fs, .str p, .int 2] S = some (.ok (oT (lawT c fs 1 p)), S) := fun p S h => f_law_term m 1 19 p S (by omega) (by omega) h
  unfold lineOf
  generalize hs : TL.spl [32, 61, 32] 0 [] x = ps at hp ⊢
  have hn := spl_ne [32, 61, 32] x 0 []
  rw [hs] at hn
  match ps, hp, hn with
  | [a], hp, _ =>
    have ha : a.length ≤ 1000000 := by have := hp a (by simp); simp at this; omega
    simp [F__law_line_of, B__law_line_of, splitDD, okSep, hx2, hs, lenD, neD, eqB, ixD, oLn, H1, ha]
  | a :: b :: d :: r, hp, _ =>
    have ha : a.length ≤ 1000000 := by have := hp a (by simp); simp at this; omega
    have hl2 : ¬ ((r.length : Int) + 1 + 1 + 1 = 2) := by omega
    simp [F__law_line_of, B__law_line_of, splitDD, okSep, hx2, hs, lenD, neD, eqB, ixD, oLn, H1, ha, hl2]
  | [a, b], hp, _ =>
    have ha : a.length ≤ 1000000 := by have := hp a (by simp); simp at this; omega
    have hb : b.length ≤ 1000000 := by have := hp b (by simp); simp at this; omega
    simp only
    cases hA : lawT c fs 0 a with
    | none =>
      have hD : F__law_line_of [mD c fs, .str x] S = some (.ok .non, S) := by
        simp [F__law_line_of, B__law_line_of, splitDD, okSep, hx2, hs, lenD, neD, eqB, ixD, oLn, H1, ha, hA, oT, isND, isNB]
      cases hc : celL a with
      | none => exact hD
      | some i =>
        obtain ⟨n, hn, rfl, rfl⟩ := celL_iff.mp hc
        simp only
        rw [right_bad (fun q => by
          have := (law0_iff (c := c) (fs := fs) (p := [99, 48 + n]) (T := .c n)).mpr ⟨n, by omega, hc, rfl⟩
          rw [hA] at this; cases this) b]
        exact hD
    | some T =>
      obtain ⟨n, hn, hc, rfl⟩ := law0_iff.mp hA
      rw [hc]
      simp only
      rw [right_eq m (by omega) (by omega)]
      unfold rightL
      cases hB : lawT c fs 0 b with
      | some U =>
        obtain ⟨k, hk, hc2, rfl⟩ := law0_iff.mp hB
        simp only
        by_cases hkn : (k : Int) = (n : Int)
        · simp [F__law_line_of, B__law_line_of, splitDD, okSep, hx2, hs, lenD, neD, eqB, ixD, oLn, H1, ha, hb, hA, hB, oT, dT, isND, notND, isNB, hkn]
        · simp [F__law_line_of, B__law_line_of, splitDD, okSep, hx2, hs, lenD, neD, eqB, ixD, oLn, H1, ha, hb, hA, hB, oT, dT, isND, notND, isNB, hkn, lnD, lineD, oI]
      | none =>
        simp only
        cases hB2 : lawT c fs 1 b with
        | none => simp [F__law_line_of, B__law_line_of, splitDD, okSep, hx2, hs, lenD, neD, eqB, ixD, oLn, H1, H2, ha, hb, hA, hB, hB2, oT, dT, isND, notND, isNB]
        | some U =>
          obtain ⟨k1, k2, k3⟩ := lawT_inv 1 b U hB2
          cases U with
          | c i =>
            have := lawT_text m (.c i) 0 k1 (by simp [dpT])
            rw [k3, hB] at this; cases this
          | f1 g A =>
            obtain ⟨i, rfl⟩ := dp1 (T := A) (by simp only [dpT] at k2; omega)
            simp [F__law_line_of, B__law_line_of, splitDD, okSep, hx2, hs, lenD, neD, eqB, ixD, slD, oLn, H1, H2, ha, hb, hA, hB, hB2, oT, dT, isND, notND, isNB, lnD, lineD, oI]
          | f2 g A A' =>
            obtain ⟨i, rfl⟩ := dp1 (T := A) (by simp only [dpT] at k2; omega)
            obtain ⟨j, rfl⟩ := dp1 (T := A') (by simp only [dpT] at k2; omega)
            simp [F__law_line_of, B__law_line_of, splitDD, okSep, hx2, hs, lenD, neD, eqB, ixD, slD, oLn, H1, H2, ha, hb, hA, hB, hB2, oT, dT, isND, notND, isNB, lnD, lineD, oI]
end L2.DL
-- part P6
set_option maxHeartbeats 4000000
/-! P6: the lines of a text. -/
namespace L2.DL
open PySem PySem.Spec PyProof.Rows
theorem ev_rg2 {env : DEnv} {S : Sto} {fa : AM} : rg2 fa env S = match fa env S with
  | some ([.int i, .int j], s) => if (inRg i && inRg j) = true then some (rgL i (j - i).toNat, s) else none
  | _ => none := by
  unfold rg2; cases fa env S with
  | none => rfl
  | some p =>
    obtain ⟨ds, s⟩ := p
    match ds with
    | [] => rfl
    | [d] => cases d <;> rfl
    | [d, e] => cases d <;> cases e <;> rfl
    | d :: e :: _ :: _ => cases d <;> cases e <;> rfl
def okC (x : List Nat) : Prop := ∀ c ∈ x, c < 1114112
theorem str_lay {x : List Nat} (h : okC x) : (toP (.str x)).canLay0 = true := by
  simp only [toP, PyData.canLay0, mkS]
  show PyData.strOk _ = true
  simp only [PyData.strOk]
  rw [← Array.all_toList]
  exact List.all_eq_true.mpr fun c hc => decide_eq_true (h c hc)
theorem strs_lay : ∀ {ws : List (List Nat)}, (∀ w ∈ ws, okC w) → PyData.canLayAll0 (toPL (ws.map .str)) = true ∧ PyData.depthAll (toPL (ws.map .str)) = 0
  | [], _ => by simp [toPL, PyData.canLayAll0, PyData.depthAll]
  | w :: ws, h => by
    obtain ⟨h1, h2⟩ := strs_lay fun w hw => h w (List.mem_cons_of_mem _ hw)
    have h3 := str_lay (h w List.mem_cons_self)
    exact ⟨by simp [toPL, PyData.canLayAll0, h1, h3], by simp [toPL, PyData.depthAll, h2, toP, PyData.depth]⟩
theorem strs_shaped {ws : List (List Nat)} (h : ∀ w ∈ ws, okC w) : SeqAt.shaped (.list (toPL (ws.map .str))) = true := by
  obtain ⟨h1, h2⟩ := strs_lay h
  simp [SeqAt.shaped, PyData.canLay0, h1, PyData.depth, h2]
theorem eqv_strs : ∀ (ws vs : List (List Nat)), PyData.eqvAll (toPL (ws.map .str)) (toPL (vs.map .str)) = decide (ws = vs)
  | [], [] => rfl
  | [], _ :: _ => rfl
  | _ :: _, [] => rfl
  | w :: ws, v :: vs => by
    simp only [List.map_cons, toPL, PyData.eqvAll, eqv_strs ws vs, toP, PyData.eqv]
    have e : (mkS w == mkS v) = decide (w = v) := by
      by_cases h : w = v
      · subst h; simp
      · have : ¬ mkS w = mkS v := fun q => h (mkS_iff.mp q)
        simp [h, this]
    rw [e]
    by_cases h : w = v <;> simp [h]
theorem lst_eq {S : Sto} {ws vs : List (List Nat)} (h : ∀ w ∈ ws, okC w) (h' : ∀ w ∈ vs, okC w) : eqB S (.lst (ws.map .str)) (.lst (vs.map .str)) = some (decide (ws = vs)) := by
  simp only [eqB, der_lst]
  rw [if_pos (by rw [strs_shaped h, strs_shaped h']; rfl), eqv_strs]
theorem spl_mem (sep : List Nat) : ∀ (x : List Nat) (k : Nat) (acc : List Nat), ∀ p ∈ TL.spl sep k acc x, ∀ c ∈ p, c ∈ acc ∨ c ∈ x
  | [], k, acc, p, h => by
    rw [TL.spl_nil] at h
    rw [List.mem_singleton.mp h]; exact fun c hc => .inl hc
  | a :: r, 0, acc, p, h => by
    rw [TL.spl] at h
    split at h
    · rcases List.mem_cons.mp h with h | h
      · rw [h]; exact fun c hc => .inl hc
      · intro c hc
        rcases spl_mem sep r _ [] p h c hc with z | z
        · cases z
        · exact .inr (List.mem_cons_of_mem _ z)
    · intro c hc
      rcases spl_mem sep r 0 (acc ++ [a]) p h c hc with z | z
      · rcases List.mem_append.mp z with z | z
        · exact .inl z
        · rw [List.mem_singleton.mp z]; exact .inr List.mem_cons_self
      · exact .inr (List.mem_cons_of_mem _ z)
  | a :: r, k + 1, acc, p, h => by
    rw [TL.spl] at h
    intro c hc
    rcases spl_mem sep r k acc p h c hc with z | z
    · exact .inl z
    · exact .inr (List.mem_cons_of_mem _ z)
theorem spl_okC {sep x : List Nat} (h : okC x) : ∀ p ∈ TL.spl sep 0 [] x, okC p := fun p hp c hc => by
  rcases spl_mem sep x 0 [] p hp c hc with z | z
  · cases z
  · exact h c z
theorem spl1_snoc {s : Nat} : ∀ (y acc : List Nat), TL.spl [s] 0 acc (y ++ [s]) = TL.spl [s] 0 acc y ++ [[]]
  | [], acc => by
    rw [List.nil_append, TL.spl_hit (by rw [pre1]; simp), TL.spl_nil]
    simp [TL.spl_nil]
  | c :: r, acc => by
    by_cases h : c = s
    · subst h
      rw [List.cons_append, TL.spl_hit (by rw [pre1]; simp), TL.spl_hit (by rw [pre1]; simp)]
      have := spl1_snoc (s := c) r []
      simpa using this
    · rw [List.cons_append, TL.spl_miss (by rw [pre1]; simp [h]), TL.spl_miss (by rw [pre1]; simp [h]), spl1_snoc r]
theorem spl1_last {s z : Nat} (hz : z ≠ s) : ∀ (y acc : List Nat), ∃ w, (TL.spl [s] 0 acc (y ++ [z])).getLast? = some w ∧ w ≠ []
  | [], acc => by
    rw [List.nil_append, TL.spl_miss (by rw [pre1]; simp [hz]), TL.spl_nil]
    exact ⟨acc ++ [z], rfl, by simp⟩
  | c :: r, acc => by
    by_cases h : c = s
    · subst h
      rw [List.cons_append, TL.spl_hit (by rw [pre1]; simp)]
      obtain ⟨w, h1, h2⟩ := spl1_last hz r []
      refine ⟨w, ?_, h2⟩
      rw [List.getLast?_cons]
      have e : ([c] : List Nat).length - 1 = 0 := rfl
      rw [e, h1]
      rfl
    · rw [List.cons_append, TL.spl_miss (by rw [pre1]; simp [h])]
      exact spl1_last hz r _
/-- the text of a value, if it is one -/
def linesN (x : List Nat) : Except Int (List (List Nat)) := if x = [] then .error 0 else if x.getLast? = some 10 then .ok (TL.spl [10] 0 [] x.dropLast) else .error (((TL.spl [10] 0 [] x).length : Int) - 1)
def exL : Except Int (List (List Nat)) → Except Ex D
  | .ok l => .ok (.lst (l.map .str))
  | .error n => .error (.bad n)
def exI : Except Int (List (List Nat)) → D
  | .ok l => .lst (l.map .str)
  | .error n => .int n
theorem f_lines_of (x : List Nat) (S : Sto) (hx : x.length ≤ 1000000) : F_lines_of [.str x] S = some (exL (linesN x), S) := by
  by_cases h : x = []
  · subst h
    simp [F_lines_of, B_lines_of, isiD, kindOf, truD, linesN, exL]
  · obtain ⟨y, z, rfl⟩ : ∃ y z, x = y ++ [z] := ⟨x.dropLast, x.getLast h, (List.dropLast_concat_getLast h).symm⟩
    have hl : y.length + 1 ≤ 16777216 := by simp at hx; omega
    have hl2 : y.length + 2 ≤ 16777216 := by simp at hx; omega
    have hlast : atI (y ++ [z]) (-1) = some z := by rw [atI_last]; simp
    by_cases hz : z = 10
    · subst hz
      simp [F_lines_of, B_lines_of, isiD, kindOf, truD, linesN, exL, hl, ixD, slD, hlast, neD, eqB, sT, splitDD, okSep, hl2]
    · simp [F_lines_of, B_lines_of, isiD, kindOf, truD, linesN, exL, hl, ixD, slD, hlast, neD, eqB, sT, countDD, okSep, hz]
theorem f_law_lines (x : List Nat) (S : Sto) (hx : x.length ≤ 1000000) : F__law_lines [.str x] S = some (.ok (exI (linesN x)), S) := by
  by_cases h : x = []
  · subst h
    simp [F__law_lines, B__law_lines, isiD, kindOf, truD, linesN, exI, eqD, eqB, sT]
  · obtain ⟨y, z, rfl⟩ : ∃ y z, x = y ++ [z] := ⟨x.dropLast, x.getLast h, (List.dropLast_concat_getLast h).symm⟩
    have hl : y.length + 1 + 2 ≤ 16777216 := by simp at hx; omega
    by_cases hz : z = 10
    · subst hz
      have e := spl1_snoc (s := 10) y []
      have hlast : ∀ l : List D, atI (l ++ [.str []]) (-1) = some (.str []) := fun l => by rw [atI_last]; simp
      simp [F__law_lines, B__law_lines, isiD, kindOf, truD, linesN, exI, hl, ixD, slD, e, hlast, neD, eqD, eqB, sT, splitDD, okSep]
    · obtain ⟨w, h1, h2⟩ := spl1_last hz y []
      have hlast : atI (List.map D.str (TL.spl [10] 0 [] (y ++ [z]))) (-1) = some (.str w) := by rw [atI_last, List.getLast?_map, h1]; rfl
      simp [F__law_lines, B__law_lines, isiD, kindOf, truD, linesN, exI, hl, ixD, slD, hlast, neD, eqD, eqB, sT, splitDD, okSep, hz, h2, lenD, intOp]
theorem rgL_cons (lo : Int) (n : Nat) : rgL lo (n + 1) = .int lo :: rgL (lo + 1) n := by
  unfold rgL
  rw [List.range_succ_eq_map, List.map_cons, List.map_map]
  congr 1
  · simp
  · apply List.map_congr_left
    intro i _
    simp only [Function.comp]
    congr 1
    omega
/-- the lines behind the head, read one by one -/
def loopN (c : Nat) (fs : List Nat) : Nat → List (List Nat) → List Ln → Except Int (List Ln)
  | _, [], prog => .ok prog
  | at_, x :: r, prog => match lineOf c fs x with
    | none => .error (at_ : Int)
    | some l => if prog.length = 60 then .error (at_ : Int) else loopN c fs (at_ + 1) r (prog ++ [l])
end L2.DL
-- part P7
set_option maxHeartbeats 4000000
/-! P7: programs read. -/
namespace L2.DL
open PySem PySem.Spec PyProof.Rows
def L_read_program_0 : SM := sSeq (sSet 9 (eCall F_line_of (aCons (eVar 6) (aCons (eOp ixD (eVar 1) (eVar 8)) aNil)))) (sSeq (sIf (bOr (bOf (eOp isND (eVar 9) (eC .non))) (bOf (eOp eqD (eCl lenD (aCons (eVar 7) aNil)) (eC (.int 60))))) (sRaiseT (eVar 8)) sNil) (sAppend (eVar 7) (eVar 9)))
def L__law_read_0 : SM := sSeq (sSet 7 (eCall F__law_line_of (aCons (eVar 4) (aCons (eOp ixD (eVar 1) (eVar 6)) aNil)))) (sSeq (sIf (bOr (bOf (eOp isND (eVar 7) (eC .non))) (bOf (eOp eqD (eCl lenD (aCons (eVar 5) aNil)) (eC (.int 60))))) (sRet (eVar 6)) sNil) (sAppend (eVar 5) (eVar 7)))
theorem der_top {S : Sto} {xs : List D} : der (S ++ [.lst xs]) (.mu S.length) = .lst xs := by simp [der]
theorem top_get {S : Sto} {c : Cell} : (S ++ [c])[S.length]? = some c := by simp
theorem top_set {S : Sto} {c c' : Cell} : (S ++ [c]).set S.length c' = S ++ [c'] := by
  rw [List.set_append_right _ _ (Nat.le_refl _), Nat.sub_self]; rfl
theorem lnD_isN (l : Ln) : isNB (lnD l) = false := rfl
theorem isN_non : isNB .non = true := rfl
section
variable {c : Nat} {fs : List Nat} {Ls : List (List Nat)} {S : Sto} {v0 v2 v3 v4 v5 : Option D}
theorem rp_loop (hL : ∀ x ∈ Ls, x.length ≤ 1000000) : ∀ (r : List (List Nat)) (a : Nat) (prog : List Ln) (v8 v9 : Option D), Ls.drop a = r → prog.length ≤ 60 →
    ∃ e8 e9 p, forD (gNameD 8) L_read_program_0 (rgL (a : Int) r.length) [v0, some (.lst (Ls.map .str)), v2, v3, v4, v5, some (mD c fs), some (.mu S.length), v8, v9] (S ++ [.lst (prog.map lnD)]) =
      some ((match loopN c fs a r prog with | .ok _ => .nx | .error m => .ex (.bad m)), [v0, some (.lst (Ls.map .str)), v2, v3, v4, v5, some (mD c fs), some (.mu S.length), e8, e9], S ++ [.lst p]) ∧ ∀ q, loopN c fs a r prog = .ok q → p = q.map lnD
  | [], a, prog, v8, v9, _, _ => ⟨v8, v9, prog.map lnD, rfl, fun q h => by simp only [loopN] at h; cases h; rfl⟩
  | x :: r, a, prog, v8, v9, hd, hp => by
    have hxa : Ls[a]? = some x := by
      have := congrArg (fun l => l[0]?) hd
      simpa using this
    have hx : x.length ≤ 1000000 := hL x (List.mem_of_getElem? hxa)
    have hd' : Ls.drop (a + 1) = r := by
      have := congrArg List.tail hd
      simpa using this
    have hline := fun S => f_line_of (c := c) (fs := fs) x S hx
    have hix : atI (Ls.map D.str) (a : Int) = some (.str x) := by rw [atI_nat, List.getElem?_map, hxa]; rfl
    rw [List.length_cons, rgL_cons, ev_for_cons, ev_gname]
    simp only [List.set_cons_succ, List.set_cons_zero, loopN]
    cases hlo : lineOf c fs x with
    | none =>
      rw [hlo] at hline
      have step : L_read_program_0 [v0, some (.lst (Ls.map .str)), v2, v3, v4, v5, some (mD c fs), some (.mu S.length), some (.int a), v9] (S ++ [.lst (prog.map lnD)]) = some (.ex (.bad a), [v0, some (.lst (Ls.map .str)), v2, v3, v4, v5, some (mD c fs), some (.mu S.length), some (.int a), some .non], S ++ [.lst (prog.map lnD)]) := by
        simp [L_read_program_0, ixD, hix, hline, oLn, isND, isNB]
      rw [step]
      exact ⟨_, _, _, rfl, fun q h => by cases h⟩
    | some l =>
      rw [hlo] at hline
      by_cases h60 : prog.length = 60
      · have step : L_read_program_0 [v0, some (.lst (Ls.map .str)), v2, v3, v4, v5, some (mD c fs), some (.mu S.length), some (.int a), v9] (S ++ [.lst (prog.map lnD)]) = some (.ex (.bad a), [v0, some (.lst (Ls.map .str)), v2, v3, v4, v5, some (mD c fs), some (.mu S.length), some (.int a), some (lnD l)], S ++ [.lst (prog.map lnD)]) := by
          simp [L_read_program_0, ixD, hix, hline, oLn, isND, lnD_isN, isN_non, lenD, der_top, eqD, eqB, h60]
        dsimp only
        rw [step, if_pos h60]
        exact ⟨_, _, _, rfl, fun q h => by cases h⟩
      · have h60' : ¬ (prog.length : Int) = 60 := by omega
        have hlt : prog.length < 16777216 := by omega
        have step : L_read_program_0 [v0, some (.lst (Ls.map .str)), v2, v3, v4, v5, some (mD c fs), some (.mu S.length), some (.int a), v9] (S ++ [.lst (prog.map lnD)]) = some (.nx, [v0, some (.lst (Ls.map .str)), v2, v3, v4, v5, some (mD c fs), some (.mu S.length), some (.int a), some (lnD l)], S ++ [.lst ((prog ++ [l]).map lnD)]) := by
          simp [L_read_program_0, ixD, hix, hline, oLn, isND, lnD_isN, isN_non, lenD, der_top, eqD, eqB, h60', sAppend, isLst, eVar, hlt]
        dsimp only
        rw [step, if_neg h60]
        have ih := rp_loop hL r (a + 1) (prog ++ [l]) (some (.int a)) (some (lnD l)) hd' (by simp; omega)
        have e : ((a : Int) + 1) = ((a + 1 : Nat) : Int) := by omega
        rw [e]
        exact ih
theorem lr_loop (m : MOk c fs) (hL : ∀ x ∈ Ls, x.length ≤ 1000000) : ∀ (r : List (List Nat)) (a : Nat) (prog : List Ln) (v8 v9 : Option D), Ls.drop a = r → prog.length ≤ 60 →
    ∃ e8 e9 p, forD (gNameD 6) L__law_read_0 (rgL (a : Int) r.length) [v0, some (.lst (Ls.map .str)), v2, v3, some (mD c fs), some (.mu S.length), v8, v9] (S ++ [.lst (prog.map lnD)]) =
      some ((match loopN c fs a r prog with | .ok _ => .nx | .error m => .rt (.int m)), [v0, some (.lst (Ls.map .str)), v2, v3, some (mD c fs), some (.mu S.length), e8, e9], S ++ [.lst p]) ∧ ∀ q, loopN c fs a r prog = .ok q → p = q.map lnD
  | [], a, prog, v8, v9, _, _ => ⟨v8, v9, prog.map lnD, rfl, fun q h => by simp only [loopN] at h; cases h; rfl⟩
  | x :: r, a, prog, v8, v9, hd, hp => by
    have hxa : Ls[a]? = some x := by
      have := congrArg (fun l => l[0]?) hd
      simpa using this
    have hx : x.length ≤ 1000000 := hL x (List.mem_of_getElem? hxa)
    have hd' : Ls.drop (a + 1) = r := by
      have := congrArg List.tail hd
      simpa using this
    have hline := fun S => f_law_line_of m x S hx
    have hix : atI (Ls.map D.str) (a : Int) = some (.str x) := by rw [atI_nat, List.getElem?_map, hxa]; rfl
    rw [List.length_cons, rgL_cons, ev_for_cons, ev_gname]
    simp only [List.set_cons_succ, List.set_cons_zero, loopN]
    cases hlo : lineOf c fs x with
    | none =>
      rw [hlo] at hline
      have step : L__law_read_0 [v0, some (.lst (Ls.map .str)), v2, v3, some (mD c fs), some (.mu S.length), some (.int a), v9] (S ++ [.lst (prog.map lnD)]) = some (.rt (.int a), [v0, some (.lst (Ls.map .str)), v2, v3, some (mD c fs), some (.mu S.length), some (.int a), some .non], S ++ [.lst (prog.map lnD)]) := by
        simp [L__law_read_0, ixD, hix, hline, oLn, isND, isNB]
      rw [step]
      exact ⟨_, _, _, rfl, fun q h => by cases h⟩
    | some l =>
      rw [hlo] at hline
      by_cases h60 : prog.length = 60
      · have step : L__law_read_0 [v0, some (.lst (Ls.map .str)), v2, v3, some (mD c fs), some (.mu S.length), some (.int a), v9] (S ++ [.lst (prog.map lnD)]) = some (.rt (.int a), [v0, some (.lst (Ls.map .str)), v2, v3, some (mD c fs), some (.mu S.length), some (.int a), some (lnD l)], S ++ [.lst (prog.map lnD)]) := by
          simp [L__law_read_0, ixD, hix, hline, oLn, isND, lnD_isN, isN_non, lenD, der_top, eqD, eqB, h60]
        dsimp only
        rw [step, if_pos h60]
        exact ⟨_, _, _, rfl, fun q h => by cases h⟩
      · have h60' : ¬ (prog.length : Int) = 60 := by omega
        have hlt : prog.length < 16777216 := by omega
        have step : L__law_read_0 [v0, some (.lst (Ls.map .str)), v2, v3, some (mD c fs), some (.mu S.length), some (.int a), v9] (S ++ [.lst (prog.map lnD)]) = some (.nx, [v0, some (.lst (Ls.map .str)), v2, v3, some (mD c fs), some (.mu S.length), some (.int a), some (lnD l)], S ++ [.lst ((prog ++ [l]).map lnD)]) := by
          simp [L__law_read_0, ixD, hix, hline, oLn, isND, lnD_isN, isN_non, lenD, der_top, eqD, eqB, h60', sAppend, isLst, eVar, hlt]
        dsimp only
        rw [step, if_neg h60]
        have ih := lr_loop m hL r (a + 1) (prog ++ [l]) (some (.int a)) (some (lnD l)) hd' (by simp; omega)
        have e : ((a : Int) + 1) = ((a + 1 : Nat) : Int) := by omega
        rw [e]
        exact ih
end
end L2.DL
-- part P8
set_option maxHeartbeats 4000000
/-! P8: programs read: the head. -/
namespace L2.DL
open PySem PySem.Spec PyProof.Rows
abbrev CELLS : List Nat := [99, 101, 108, 108, 115]
abbrev FUNS : List Nat := [102, 117, 110, 99, 116, 105, 111, 110, 115]
theorem cps_cells : (Str.ofString "cells").cps.toList = CELLS := by decide +kernel
theorem cps_funs : (Str.ofString "functions").cps.toList = FUNS := by decide +kernel
def cellsN (L0 : List Nat) : Option Int := match TL.spl [32] 0 [] L0 with
  | [k, w] => if k = CELLS then figL w 1 4 else none
  | _ => none
def readsN (ws : List (List Nat)) : Option (List Nat) := match ws with
  | w0 :: wr => if w0 = FUNS ∧ (1 ≤ wr.length ∧ wr.length ≤ 3) ∧ (wr.all fun w => (figL w 1 2).isSome) = true then some (wr.map fun w => ((figL w 1 2).getD 0).toNat) else none
  | [] => none
def wordsN (rest : List (List Nat)) : List (List Nat) := match rest with
  | L1 :: _ => TL.spl [32] 0 [] L1
  | [] => []
def headN (L : List (List Nat)) : Except Int (Nat × List Nat) := match L with
  | L0 :: rest => (match cellsN L0 with
    | some n => (match readsN (wordsN rest) with
      | some fs => .ok (n.toNat, fs)
      | none => .error 1)
    | none => .error 0)
  | [] => .error 0
def readN (x : List Nat) : Except Int ((Nat × List Nat) × List Ln) := match linesN x with
  | .error n => .error n
  | .ok L => (match headN L with
    | .error n => .error n
    | .ok m => (match loopN m.1 m.2 2 (L.drop 2) [] with
      | .error n => .error n
      | .ok p => .ok (m, p)))
@[simp] theorem oI_some (i : Int) : oI (some i) = .int i := rfl
@[simp] theorem oI_none : oI none = .non := rfl
theorem fig_iff {lo hi : Nat} (h9 : hi ≤ 9) {w : List Nat} {i : Int} : figL w (lo : Int) (hi : Int) = some i ↔ ∃ n : Nat, lo ≤ n ∧ n ≤ hi ∧ i = (n : Int) ∧ w = [48 + n] := by
  constructor
  · intro h
    unfold figL at h
    split at h
    · split at h
      · rename_i c hc
        cases h
        exact ⟨c - 48, by omega, by omega, by omega, by congr 1; omega⟩
      · cases h
    · cases h
  · rintro ⟨n, h1, h2, rfl, rfl⟩
    simp only [figL]
    rw [if_pos (by omega)]
    congr 1
    omega
theorem reads_ok {wr : List (List Nat)} (h : (wr.all fun w => (figL w 1 2).isSome) = true) : wr.map (fun w => oI (figL w 1 2)) = intsD (wr.map fun w => ((figL w 1 2).getD 0).toNat) ∧ (∀ r ∈ wr.map (fun w => ((figL w 1 2).getD 0).toNat), 1 ≤ r ∧ r ≤ 2) ∧ ∀ w ∈ wr, w = [49] ∨ w = [50] := by
  induction wr with
  | nil => exact ⟨rfl, by simp, by simp⟩
  | cons w wr ih =>
    rw [List.all_cons, Bool.and_eq_true] at h
    obtain ⟨h1, h2⟩ := h
    obtain ⟨i1, i2, i3⟩ := ih h2
    obtain ⟨i, hi⟩ := Option.isSome_iff_exists.mp h1
    obtain ⟨n, n1, n2, rfl, rfl⟩ := (fig_iff (lo := 1) (hi := 2) (by omega)).mp hi
    have hi' : figL [48 + n] 1 2 = some (n : Int) := hi
    refine ⟨?_, ?_, ?_⟩
    · unfold intsD at i1 ⊢
      rw [List.map_cons, List.map_cons, List.map_cons, i1, hi']
      simp [oI]
    · intro r hr
      rw [List.map_cons] at hr
      rcases List.mem_cons.mp hr with e | e
      · rw [e, hi']; simp; omega
      · exact i2 r e
    · intro v hv
      rcases List.mem_cons.mp hv with e | e
      · rw [e]
        rcases (show n = 1 ∨ n = 2 by omega) with rfl | rfl
        · exact .inl rfl
        · exact .inr rfl
      · exact i3 v e
theorem head_ok {L : List (List Nat)} {m : Nat × List Nat} (h : headN L = .ok m) : MOk m.1 m.2 := by
  unfold headN at h
  split at h
  · split at h
    · rename_i n hn
      split at h
      · rename_i fs hf
        cases h
        unfold cellsN at hn
        split at hn
        · split at hn
          · obtain ⟨k, k1, k2, rfl, _⟩ := (fig_iff (lo := 1) (hi := 4) (by omega)).mp hn
            unfold readsN at hf
            split at hf
            · split at hf
              · rename_i hc
                cases hf
                have hr := (reads_ok hc.2.2).2.1
                exact ⟨by simpa using k1, by simpa using k2, by simpa using hc.2.1.1, by simpa using hc.2.1.2, hr⟩
              · cases hf
            · cases hf
          · cases hn
        · cases hn
      · cases h
    · cases h
  · cases h
def figD : D → D
  | .str p => oI (figL p 1 2)
  | _ => .non
theorem comp_fig {ps : List (List Nat)} {S : Sto} (h : ∀ p ∈ ps, p.length ≤ 16777216) (env : DEnv) (he : env.length = 10) : compD (gNameD 5) bYes (eCall F_figure (aCons (eVar 5) (aCons (eC (.int 1)) (aCons (eC (.int 2)) aNil)))) [5] (ps.map .str) env S = some (ps.map (fun w => oI (figL w 1 2)), S) := by
  have e : ps.map (fun w => oI (figL w 1 2)) = (ps.map D.str).map figD := by simp [figD]
  rw [e]
  refine comp_map fun d hd => ?_
  obtain ⟨p, hp, rfl⟩ := List.mem_map.mp hd
  match env, he with
  | [a0, a1, a2, a3, a4, a5, a6, a7, a8, a9], _ => exact ⟨_, rfl, by simp [f_figure, h p hp, figD, wipeD]⟩
theorem in_nonT (S : Sto) (ps : List (Option Int)) : inB S .non (.tup (ps.map oI)) = some (ps.any (·.isNone)) := by
  unfold inB
  rw [der_tup]
  dsimp only
  have h1 : (ps.map oI).all flatD = true := by
    rw [List.all_map, List.all_eq_true]
    intro o _
    cases o <;> rfl
  rw [if_pos (by rw [h1]; rfl), List.any_map]
  congr 2
  funext o
  cases o <;> rfl
theorem eqB_str {S : Sto} {x y : List Nat} : eqB S (.str x) (.str y) = some (x == y) := rfl
theorem eqB_int {S : Sto} {x y : Int} : eqB S (.int x) (.int y) = some (x == y) := rfl
def resRP : Except Int ((Nat × List Nat) × List Ln) → Except Ex D
  | .ok r => .ok (.tup [mD r.1.1 r.1.2, .tup (r.2.map lnD)])
  | .error n => .error (.bad n)
def resLR : Except Int ((Nat × List Nat) × List Ln) → D
  | .ok r => .tup [mD r.1.1 r.1.2, .tup (r.2.map lnD)]
  | .error n => .int n
@[simp] theorem comp_nil {g : D → DEnv → Option DEnv} {t : BM} {fe : EM} {vs : List Nat} {env : DEnv} {S : Sto} : compD g t fe vs [] env S = some ([], S) := rfl
theorem okC_funs : okC FUNS := by intro c hc; simp [FUNS] at hc; omega
theorem f_read_program (x : List Nat) (S : Sto) (hx : x.length ≤ 100000) (hc : okC x) : ∃ N, F_read_program [.str x] S = some (resRP (readN x), S ++ N) := by
  have hlines := fun S => f_lines_of x S (by omega)
  unfold readN
  cases hL : linesN x with
  | error n =>
    rw [hL] at hlines
    exact ⟨[], by simp [F_read_program, B_read_program, ev_setx, hlines, exL, resRP]⟩
  | ok L =>
    rw [hL] at hlines
    have hLs : L = TL.spl [10] 0 [] x.dropLast := by
      unfold linesN at hL
      split at hL
      · cases hL
      · split at hL
        · cases hL; rfl
        · cases hL
    have hne : L ≠ [] := by rw [hLs]; exact spl_ne _ _ _ _
    have hlen : ∀ p ∈ L, p.length ≤ 100000 := fun p hp => by
      rw [hLs] at hp
      have := spl_part_len [10] x.dropLast 0 [] p hp
      simp at this; omega
    have hcnt : L.length ≤ 100001 := by
      rw [hLs]
      have := spl_len [10] x.dropLast 0 []
      simp at this; omega
    have hok : ∀ p ∈ L, okC p := fun p hp => by
      rw [hLs] at hp
      exact spl_okC (fun c hcc => hc c (List.dropLast_subset _ hcc)) p hp
    clear hLs hL
    match L, hne, hlen, hcnt, hok, hlines with
    | L0 :: rest, _, hlen, hcnt, hok, hlines =>
      have h0 : L0.length + 2 ≤ 16777216 := by have := hlen L0 (by simp); omega
      have hp0 := spl_part_len [32] L0 0 []
      have hk0 := spl_okC (sep := [32]) (hok L0 (by simp))
      simp only [headN, cellsN, exL] at hlines ⊢
      generalize hs0 : TL.spl [32] 0 [] L0 = ps0 at hp0 hk0 ⊢
      have hn0 := spl_ne [32] L0 0 []
      rw [hs0] at hn0
      match ps0, hp0, hk0, hn0 with
      | [a], hp0, hk0, _ =>
        exact ⟨[], by simp [F_read_program, B_read_program, ev_setx, hlines, exL, resRP, ixD, splitDD, okSep, sT, h0, hs0, lenD, eqD, eqB, isND, isN_non]⟩
      | a :: b :: d :: r, hp0, hk0, _ =>
        have hl2 : ¬ ((r.length : Int) + 1 + 1 + 1 = 2) := by omega
        exact ⟨[], by simp [F_read_program, B_read_program, ev_setx, hlines, exL, resRP, ixD, splitDD, okSep, sT, h0, hs0, lenD, eqD, eqB, isND, isN_non, hl2]⟩
      | [k, w], hp0, hk0, _ =>
        have hw : w.length ≤ 16777216 := by have := hp0 w (by simp); have := hlen L0 (by simp); simp at *; omega
        by_cases hk : k = CELLS
        · have hfig := fun S => f_figure w 1 4 S hw
          simp only [hk, if_true]
          cases hf : figL w 1 4 with
          | none =>
            rw [hf] at hfig
            exact ⟨[], by simp [F_read_program, B_read_program, ev_setx, hlines, exL, resRP, ixD, splitDD, okSep, sT, h0, hs0, lenD, eqD, eqB, isND, isN_non, cps_cells, hk, hfig]⟩
          | some n =>
            rw [hf] at hfig
            obtain ⟨nc, n1, n4, rfl, rfl⟩ := (fig_iff (lo := 1) (hi := 4) (by omega)).mp hf
            have qf : ∀ (S : Sto) (ws : List (List Nat)), (∀ w ∈ ws, okC w) → eqB S (.lst (ws.map .str)) (.lst [.str FUNS]) = some (decide (ws = [FUNS])) := fun S ws h => lst_eq (vs := [FUNS]) h (by intro w hw; rw [List.mem_singleton.mp hw]; exact okC_funs)
            match rest, hlen, hcnt, hok, hlines with
            | [], hlen, hcnt, hok, hlines =>
              have qf0 : ∀ S, eqB S (.lst []) (.lst [.str FUNS]) = some false := fun S => qf S [] (by simp)
              exact ⟨[], by simp [F_read_program, B_read_program, ev_setx, hlines, exL, resRP, ixD, slD, tupDD, splitDD, okSep, sT, h0, hs0, lenD, eqD, eqB_str, eqB_int, neD, isND, isNB, cps_cells, cps_funs, hk, hfig, wordsN, readsN, intOp, qf0]⟩
            | L1 :: r2, hlen, hcnt, hok, hlines =>
              have h1 : L1.length + 2 ≤ 16777216 := by have := hlen L1 (by simp); omega
              have hp1 := spl_part_len [32] L1 0 []
              have hk1 := spl_okC (sep := [32]) (hok L1 (by simp))
              have hc1 := spl_len [32] L1 0 []
              simp only [wordsN]
              generalize hs1 : TL.spl [32] 0 [] L1 = ws at hp1 hk1 hc1 ⊢
              have hn1 := spl_ne [32] L1 0 []
              rw [hs1] at hn1
              match ws, hp1, hk1, hc1, hn1 with
              | w0 :: wr, hp1, hk1, hc1, _ =>
                have hcnt2 : ((r2.length : Int) + 1 + 1 > 1) := by omega
                have hcnt2' : (0 : Int) < (r2.length : Int) + 1 := by omega
                have qf1 : ∀ S, eqB S (.lst [.str w0]) (.lst [.str FUNS]) = some (decide (w0 = FUNS)) := fun S => by
                  have := qf S [w0] (by intro w hw; rw [List.mem_singleton.mp hw]; exact hk1 w0 (by simp))
                  simpa using this
                have hcf := fun (S : Sto) => comp_fig (S := S) (ps := wr) (fun p hp => by
                  have := hp1 p (List.mem_cons_of_mem _ hp)
                  have := hlen L1 (by simp)
                  simp at *; omega)
                have hwrl : wr.length ≤ 16777216 := by have := hlen L1 (by simp); simp at hc1; omega
                have hnT := fun S => in_nonT S (wr.map fun w => figL w 1 2)
                rw [List.map_map] at hnT
                have hfun : (oI ∘ fun w => figL w 1 2) = fun w => oI (figL w 1 2) := rfl
                rw [hfun] at hnT
                by_cases hw0 : w0 = FUNS
                · subst hw0
                  by_cases hlw : 1 ≤ wr.length ∧ wr.length ≤ 3
                  · have l1 : (1 : Int) ≤ (wr.length : Int) := by omega
                    have l3 : (wr.length : Int) ≤ 3 := by omega
                    by_cases hall : (wr.all fun w => (figL w 1 2).isSome) = true
                    · have hany : ((wr.map fun w => figL w 1 2).any (·.isNone)) = false := by
                        rw [List.any_eq_false]
                        intro o ho
                        obtain ⟨w, hw, rfl⟩ := List.mem_map.mp ho
                        have := List.all_eq_true.mp hall w hw
                        cases hq : figL w 1 2 with
                        | none => rw [hq] at this; cases this
                        | some i => simp
                      rw [hany] at hnT
                      obtain ⟨r1, rr, r3⟩ := reads_ok hall
                      have hrd : readsN (FUNS :: wr) = some (wr.map fun w => ((figL w 1 2).getD 0).toNat) := by
                        exact if_pos ⟨rfl, hlw, hall⟩
                      rw [hrd]
                      rw [r1] at hcf hnT
                      generalize (wr.map fun w => ((figL w 1 2).getD 0).toNat) = fs at *
                      have hfl : (intsD fs).length = wr.length := by rw [← r1]; simp
                      obtain ⟨e8, e9, p, hfor, hp⟩ := rp_loop (c := nc) (fs := fs) (Ls := L0 :: L1 :: r2) (S := S) (v0 := some (.str x)) (v2 := some (.lst ((FUNS :: wr).map .str))) (v3 := some (.int nc)) (v4 := some (.tup (intsD fs))) (v5 := none) (fun q hq => by have := hlen q hq; omega) r2 2 [] none none rfl (by simp)
                      simp only [L_read_program_0, mD] at hfor
                      have hin : inRg ((r2.length : Int) + 1 + 1) = true := by
                        simp [inRg]
                        simp at hcnt
                        omega
                      have hin2 : inRg 2 = true := by decide
                      have hsub : ((r2.length : Int) + 1 + 1 - 2).toNat = r2.length := by omega
                      have hfl2 : fs.length = wr.length := by simpa using hfl
                      simp only [Int.toNat_natCast, List.drop_succ_cons, List.drop_zero]
                      refine ⟨[.lst p], ?_⟩
                      cases hlp : loopN nc fs 2 r2 [] with
                      | error e =>
                        rw [hlp] at hfor
                        simp at hfor
                        simp [F_read_program, B_read_program, ev_setx, hlines, exL, resRP, ixD, slD, tupDD, splitDD, okSep, sT, h0, hs0, h1, hs1, lenD, eqD, eqB_str, eqB_int, neD, isND, isNB, cps_cells, cps_funs, hk, hfig, inD, intOp, qf1, hcnt2, hcnt2', hcf, hwrl, hnT, hfl2, l1, l3, ev_rg2, hin, hin2, hsub, hfor]
                      | ok q =>
                        rw [hlp] at hfor
                        have hp' := hp q hlp
                        subst hp'
                        simp at hfor
                        simp [F_read_program, B_read_program, ev_setx, hlines, exL, resRP, ixD, slD, tupDD, splitDD, okSep, sT, h0, hs0, h1, hs1, lenD, eqD, eqB_str, eqB_int, neD, isND, isNB, cps_cells, cps_funs, hk, hfig, inD, intOp, qf1, hcnt2, hcnt2', hcf, hwrl, hnT, hfl2, l1, l3, ev_rg2, hin, hin2, hsub, hfor, der_top, mD]
                    · have hany : ((wr.map fun w => figL w 1 2).any (·.isNone)) = true := by
                        rw [List.any_map]
                        rw [Bool.not_eq_true, List.all_eq_false] at hall
                        obtain ⟨w, hw, hq⟩ := hall
                        rw [List.any_eq_true]
                        refine ⟨w, hw, ?_⟩
                        cases hz : figL w 1 2 with
                        | none => simp [hz]
                        | some i => rw [hz] at hq; simp at hq
                      rw [hany] at hnT
                      have hrd : readsN (FUNS :: wr) = none := by
                        exact if_neg (fun q => hall q.2.2)
                      rw [hrd]
                      exact ⟨[], by simp [F_read_program, B_read_program, ev_setx, hlines, exL, resRP, ixD, slD, tupDD, splitDD, okSep, sT, h0, hs0, h1, hs1, lenD, eqD, eqB_str, eqB_int, neD, isND, isNB, cps_cells, cps_funs, hk, hfig, inD, intOp, qf1, hcnt2, hcnt2', hcf, hwrl, hnT, l1, l3]⟩
                  · have hrd : readsN (FUNS :: wr) = none := by
                      exact if_neg (fun q => hlw q.2.1)
                    rw [hrd]
                    by_cases l1 : (1 : Int) ≤ (wr.length : Int)
                    · have l3 : ¬ (wr.length : Int) ≤ 3 := by omega
                      exact ⟨[], by simp [F_read_program, B_read_program, ev_setx, hlines, exL, resRP, ixD, slD, tupDD, splitDD, okSep, sT, h0, hs0, h1, hs1, lenD, eqD, eqB_str, eqB_int, neD, isND, isNB, cps_cells, cps_funs, hk, hfig, inD, intOp, qf1, hcnt2, hcnt2', hcf, hwrl, l1, l3]⟩
                    · exact ⟨[], by simp [F_read_program, B_read_program, ev_setx, hlines, exL, resRP, ixD, slD, tupDD, splitDD, okSep, sT, h0, hs0, h1, hs1, lenD, eqD, eqB_str, eqB_int, neD, isND, isNB, cps_cells, cps_funs, hk, hfig, inD, intOp, qf1, hcnt2, hcnt2', hcf, hwrl, l1]⟩
                · exact ⟨[], by simp [F_read_program, B_read_program, ev_setx, hlines, exL, resRP, ixD, slD, tupDD, splitDD, okSep, sT, h0, hs0, h1, hs1, lenD, eqD, eqB_str, eqB_int, neD, isND, isNB, cps_cells, cps_funs, hk, hfig, wordsN, readsN, intOp, qf1, hcnt2, hcnt2', hcf, hwrl, hw0]⟩
        · refine ⟨[], ?_⟩
          simp only [if_neg hk]
          simp [F_read_program, B_read_program, ev_setx, hlines, exL, resRP, ixD, splitDD, okSep, sT, h0, hs0, lenD, eqD, eqB, isND, isN_non, cps_cells, hk]
end L2.DL
-- part P9
set_option maxHeartbeats 4000000
/-! P9: programs read by the law. -/
namespace L2.DL
open PySem PySem.Spec PyProof.Rows
theorem spl_joinS {s : Nat} : ∀ (x acc : List Nat), TL.joinL [s] (TL.spl [s] 0 acc x) = acc ++ x
  | [], acc => by simp [TL.spl_nil, TL.joinL]
  | c :: r, acc => by
    by_cases h : c = s
    · subst h
      rw [TL.spl_hit (by rw [pre1]; simp)]
      have ih := spl_joinS (s := c) r []
      cases hs : TL.spl [c] 0 [] r with
      | nil => exact absurd hs (spl_ne _ _ _ _)
      | cons q t =>
        have e : ([c] : List Nat).length - 1 = 0 := rfl
        rw [e, hs, TL.joinL, ← hs, ih]
        simp
    · rw [TL.spl_miss (by rw [pre1]; simp [h]), spl_joinS r]
      simp
theorem cells_iff {L0 : List Nat} {n : Int} : cellsN L0 = some n ↔ ∃ k : Nat, 1 ≤ k ∧ k ≤ 4 ∧ n = (k : Int) ∧ L0 = [99, 101, 108, 108, 115, 32, 48 + k] := by
  constructor
  · intro h
    unfold cellsN at h
    split at h
    · rename_i k w hs
      split at h
      · rename_i hk
        obtain ⟨j, j1, j2, rfl, rfl⟩ := (fig_iff (lo := 1) (hi := 4) (by omega)).mp h
        have e := spl_joinS (s := 32) L0 []
        rw [hs, hk] at e
        exact ⟨j, j1, j2, rfl, by simpa [TL.joinL] using e.symm⟩
      · cases h
    · cases h
  · rintro ⟨k, k1, k2, rfl, rfl⟩
    rcases (show k = 1 ∨ k = 2 ∨ k = 3 ∨ k = 4 by omega) with rfl | rfl | rfl | rfl <;> decide
theorem in4 (S : Sto) (L0 : List Nat) : inB S (.str L0) (.lst [.str [99, 101, 108, 108, 115, 32, 49], .str [99, 101, 108, 108, 115, 32, 50], .str [99, 101, 108, 108, 115, 32, 51], .str [99, 101, 108, 108, 115, 32, 52]]) = some (cellsN L0).isSome := by
  have e : inB S (.str L0) (.lst [.str [99, 101, 108, 108, 115, 32, 49], .str [99, 101, 108, 108, 115, 32, 50], .str [99, 101, 108, 108, 115, 32, 51], .str [99, 101, 108, 108, 115, 32, 52]]) = some (decide (L0 = [99, 101, 108, 108, 115, 32, 49]) || decide (L0 = [99, 101, 108, 108, 115, 32, 50]) || decide (L0 = [99, 101, 108, 108, 115, 32, 51]) || decide (L0 = [99, 101, 108, 108, 115, 32, 52])) := by
    have q : ∀ (y a : List Nat), (y == a) = decide (a = y) := fun y a => by
      by_cases h : a = y
      · subst h; simp
      · have : ¬ y = a := fun z => h z.symm
        simp [h, this]
    simp only [inB, der_lst, flatD, List.all_cons, List.all_nil, Bool.and_true, Bool.and_self, if_true, List.any_cons, List.any_nil, eqF, Bool.or_false, q, Bool.or_assoc]
  rw [e]
  congr 1
  cases hc : cellsN L0 with
  | some n =>
    obtain ⟨k, k1, k2, rfl, rfl⟩ := cells_iff.mp hc
    rcases (show k = 1 ∨ k = 2 ∨ k = 3 ∨ k = 4 by omega) with rfl | rfl | rfl | rfl <;> decide
  | none =>
    have hn : ∀ k : Nat, 1 ≤ k → k ≤ 4 → L0 ≠ [99, 101, 108, 108, 115, 32, 48 + k] := fun k k1 k2 h => by
      have := cells_iff.mpr ⟨k, k1, k2, rfl, h⟩
      rw [hc] at this; cases this
    have h1 := hn 1 (by omega) (by omega)
    have h2 := hn 2 (by omega) (by omega)
    have h3 := hn 3 (by omega) (by omega)
    have h4 := hn 4 (by omega) (by omega)
    simp at h1 h2 h3 h4
    simp [h1, h2, h3, h4]
theorem in2 (S : Sto) (w : List Nat) : inB S (.str w) (.lst [.str [49], .str [50]]) = some (figL w 1 2).isSome := by
  have e : inB S (.str w) (.lst [.str [49], .str [50]]) = some (decide (w = [49]) || decide (w = [50])) := by
    have q : ∀ (y a : List Nat), (y == a) = decide (a = y) := fun y a => by
      by_cases h : a = y
      · subst h; simp
      · have : ¬ y = a := fun z => h z.symm
        simp [h, this]
    simp only [inB, der_lst, flatD, List.all_cons, List.all_nil, Bool.and_true, Bool.and_self, if_true, List.any_cons, List.any_nil, eqF, Bool.or_false, q]
  rw [e]
  congr 1
  cases hf : figL w 1 2 with
  | some i =>
    obtain ⟨n, n1, n2, rfl, rfl⟩ := (fig_iff (lo := 1) (hi := 2) (by omega)).mp hf
    rcases (show n = 1 ∨ n = 2 by omega) with rfl | rfl <;> decide
  | none =>
    have h1 : w ≠ [49] := fun h => by
      have := (fig_iff (lo := 1) (hi := 2) (w := w) (by omega)).mpr ⟨1, by omega, by omega, rfl, h⟩
      rw [show ((1 : Nat) : Int) = 1 from rfl, show ((2 : Nat) : Int) = 2 from rfl, hf] at this; cases this
    have h2 : w ≠ [50] := fun h => by
      have := (fig_iff (lo := 1) (hi := 2) (w := w) (by omega)).mpr ⟨2, by omega, by omega, rfl, h⟩
      rw [show ((1 : Nat) : Int) = 1 from rfl, show ((2 : Nat) : Int) = 2 from rfl, hf] at this; cases this
    simp [h1, h2]
theorem cps_1 : (Str.ofString "1").cps.toList = [49] := by decide +kernel
theorem cps_2 : (Str.ofString "2").cps.toList = [50] := by decide +kernel
theorem cps_c1 : (Str.ofString "cells 1").cps.toList = [99, 101, 108, 108, 115, 32, 49] := by decide +kernel
theorem cps_c2 : (Str.ofString "cells 2").cps.toList = [99, 101, 108, 108, 115, 32, 50] := by decide +kernel
theorem cps_c3 : (Str.ofString "cells 3").cps.toList = [99, 101, 108, 108, 115, 32, 51] := by decide +kernel
theorem cps_c4 : (Str.ofString "cells 4").cps.toList = [99, 101, 108, 108, 115, 32, 52] := by decide +kernel
def notFig : D → Bool
  | .str p => !(figL p 1 2).isSome
  | _ => false
theorem comp_bad {ps : List (List Nat)} {S : Sto} (env : DEnv) (he : env.length = 8) : compD (gNameD 3) (bOf (eOp ninD (eVar 3) (eLst (aCons (eC (sT "1")) (aCons (eC (sT "2")) aNil))))) (eVar 3) [3] (ps.map .str) env S = some ((ps.filter fun w => !(figL w 1 2).isSome).map .str, S) := by
  have e : (ps.filter fun w => !(figL w 1 2).isSome).map D.str = ((ps.map D.str).filter notFig).map id := by
    rw [List.map_id, List.filter_map]
    rfl
  rw [e]
  refine comp_filt fun d hd => ?_
  obtain ⟨p, hp, rfl⟩ := List.mem_map.mp hd
  match env, he with
  | [a0, a1, a2, a3, a4, a5, a6, a7], _ => exact ⟨_, rfl, by simp [ninD, sT, cps_1, cps_2, in2, notFig, wipeD], fun _ => by simp [wipeD]⟩
theorem comp_int {ps : List (List Nat)} {S : Sto} (h : (ps.all fun w => (figL w 1 2).isSome) = true) (env : DEnv) (he : env.length = 8) : compD (gNameD 3) bYes (eCl intDD (aCons (eVar 3) aNil)) [3] (ps.map .str) env S = some (ps.map (fun w => oI (figL w 1 2)), S) := by
  have e : ps.map (fun w => oI (figL w 1 2)) = (ps.map D.str).map figD := by simp [figD]
  rw [e]
  refine comp_map fun d hd => ?_
  obtain ⟨p, hp, rfl⟩ := List.mem_map.mp hd
  obtain ⟨i, hi⟩ := Option.isSome_iff_exists.mp (List.all_eq_true.mp h p hp)
  obtain ⟨n, n1, n2, rfl, rfl⟩ := (fig_iff (lo := 1) (hi := 2) (by omega)).mp hi
  have hi' : figL [48 + n] 1 2 = some (n : Int) := hi
  have q := int_str S (b := 48 + n) (by omega)
  have q2 : ((48 + n : Nat) : Int) - 48 = (n : Int) := by omega
  rw [q2] at q
  match env, he with
  | [a0, a1, a2, a3, a4, a5, a6, a7], _ => exact ⟨_, rfl, by simp [q, figD, hi', wipeD]⟩
theorem f_law_read (x : List Nat) (S : Sto) (hx : x.length ≤ 100000) (hc : okC x) : ∃ N, F__law_read [.str x] S = some (.ok (resLR (readN x)), S ++ N) := by
  have hlines := fun S => f_law_lines x S (by omega)
  unfold readN
  cases hL : linesN x with
  | error n =>
    rw [hL] at hlines
    exact ⟨[], by simp [F__law_read, B__law_read, hlines, exI, resLR, isiD, kindOf, truD]⟩
  | ok L =>
    rw [hL] at hlines
    have hLs : L = TL.spl [10] 0 [] x.dropLast := by
      unfold linesN at hL
      split at hL
      · cases hL
      · split at hL
        · cases hL; rfl
        · cases hL
    have hne : L ≠ [] := by rw [hLs]; exact spl_ne _ _ _ _
    have hlen : ∀ p ∈ L, p.length ≤ 100000 := fun p hp => by
      rw [hLs] at hp
      have := spl_part_len [10] x.dropLast 0 [] p hp
      simp at this; omega
    have hcnt : L.length ≤ 100001 := by
      rw [hLs]
      have := spl_len [10] x.dropLast 0 []
      simp at this; omega
    have hok : ∀ p ∈ L, okC p := fun p hp => by
      rw [hLs] at hp
      exact spl_okC (fun c hcc => hc c (List.dropLast_subset _ hcc)) p hp
    clear hLs hL
    match L, hne, hlen, hcnt, hok, hlines with
    | L0 :: rest, _, hlen, hcnt, hok, hlines =>
      have hi4 := fun S => in4 S L0
      have h0 : L0.length ≤ 16777216 := by have := hlen L0 (by simp); omega
      simp only [headN, exI] at hlines ⊢
      cases hcl : cellsN L0 with
      | none =>
        rw [hcl] at hi4
        simp only [Option.isSome_none] at hi4
        exact ⟨[], by simp [F__law_read, B__law_read, hlines, exI, resLR, isiD, kindOf, truD, ixD, ninD, sT, cps_c1, cps_c2, cps_c3, cps_c4, hi4]⟩
      | some n =>
        rw [hcl] at hi4
        simp only [Option.isSome_some] at hi4
        obtain ⟨nc, n1, n4, rfl, rfl⟩ := cells_iff.mp hcl
        have hlast : atI [99, 101, 108, 108, 115, 32, 48 + nc] (-1) = some (48 + nc) := by rw [atI_last]; rfl
        have hin := fun S => int_str S (b := 48 + nc) (by omega)
        have q2 : ((48 + nc : Nat) : Int) - 48 = (nc : Int) := by omega
        rw [q2] at hin
        have qf : ∀ (S : Sto) (ws : List (List Nat)), (∀ w ∈ ws, okC w) → eqB S (.lst (ws.map .str)) (.lst [.str FUNS]) = some (decide (ws = [FUNS])) := fun S ws h => lst_eq (vs := [FUNS]) h (by intro w hw; rw [List.mem_singleton.mp hw]; exact okC_funs)
        match rest, hlen, hcnt, hok, hlines with
        | [], hlen, hcnt, hok, hlines =>
          have qf0 : ∀ S, eqB S (.lst []) (.lst [.str FUNS]) = some false := fun S => qf S [] (by simp)
          exact ⟨[], by simp [F__law_read, B__law_read, hlines, exI, resLR, isiD, kindOf, truD, ixD, ninD, sT, cps_c1, cps_c2, cps_c3, cps_c4, hi4, lenD, intOp, slD, neD, qf0, cps_funs, wordsN, readsN]⟩
        | L1 :: r2, hlen, hcnt, hok, hlines =>
          have h1 : L1.length + 2 ≤ 16777216 := by have := hlen L1 (by simp); omega
          have hk1 := spl_okC (sep := [32]) (hok L1 (by simp))
          have hc1 := spl_len [32] L1 0 []
          simp only [wordsN]
          generalize hs1 : TL.spl [32] 0 [] L1 = ws at hk1 hc1 ⊢
          have hn1 := spl_ne [32] L1 0 []
          rw [hs1] at hn1
          match ws, hk1, hc1, hn1 with
          | w0 :: wr, hk1, hc1, _ =>
            have hcnt2 : ((r2.length : Int) + 1 + 1 > 1) := by omega
            have hcnt2' : (0 : Int) < (r2.length : Int) + 1 := by omega
            have qf1 : ∀ S, eqB S (.lst [.str w0]) (.lst [.str FUNS]) = some (decide (w0 = FUNS)) := fun S => by
              have := qf S [w0] (by intro w hw; rw [List.mem_singleton.mp hw]; exact hk1 w0 (by simp))
              simpa using this
            have hwrl : wr.length ≤ 16777216 := by have := hlen L1 (by simp); simp at hc1; omega
            have hcb := fun (S : Sto) => comp_bad (S := S) (ps := wr)
            simp only [sT, cps_1, cps_2] at hcb
            have hbl : (wr.filter fun w => !(figL w 1 2).isSome).length ≤ 16777216 := Nat.le_trans (List.length_filter_le _ _) hwrl
            have qe : ∀ S, eqB S (.lst ((wr.filter fun w => !(figL w 1 2).isSome).map .str)) (.lst []) = some (decide ((wr.filter fun w => !(figL w 1 2).isSome) = [])) := fun S => lst_eq (vs := []) (fun w hw => hk1 w (List.mem_cons_of_mem _ (List.mem_filter.mp hw).1)) (by simp)
            have hbad : (wr.filter fun w => !(figL w 1 2).isSome) = [] ↔ (wr.all fun w => (figL w 1 2).isSome) = true := by
              rw [List.filter_eq_nil_iff, List.all_eq_true]
              constructor
              · intro h w hw
                have := h w hw
                cases q : (figL w 1 2).isSome with
                | true => rfl
                | false => rw [q] at this; exact absurd rfl this
              · intro h w hw
                have := h w hw
                simp [this]
            by_cases hw0 : w0 = FUNS
            · subst hw0
              by_cases hlw : 1 ≤ wr.length ∧ wr.length ≤ 3
              · have l1 : (2 : Int) ≤ (wr.length : Int) + 1 := by omega
                have l3 : (wr.length : Int) + 1 ≤ 4 := by omega
                by_cases hall : (wr.all fun w => (figL w 1 2).isSome) = true
                · rw [hbad.mpr hall] at hcb qe hbl
                  obtain ⟨r1, rr, r3⟩ := reads_ok hall
                  have hci := fun (S : Sto) => comp_int (S := S) hall
                  have hrd : readsN (FUNS :: wr) = some (wr.map fun w => ((figL w 1 2).getD 0).toNat) := by
                    exact if_pos ⟨rfl, hlw, hall⟩
                  rw [hrd]
                  rw [r1] at hci
                  have hm : MOk nc (wr.map fun w => ((figL w 1 2).getD 0).toNat) := ⟨n1, n4, by simpa using hlw.1, by simpa using hlw.2, rr⟩
                  generalize (wr.map fun w => ((figL w 1 2).getD 0).toNat) = fs at *
                  have hfl : (intsD fs).length = wr.length := by rw [← r1]; simp
                  have hfl2 : fs.length = wr.length := by simpa using hfl
                  obtain ⟨e8, e9, p, hfor, hp⟩ := lr_loop (c := nc) (fs := fs) (Ls := [99, 101, 108, 108, 115, 32, 48 + nc] :: L1 :: r2) (S := S) (v0 := some (.str x)) (v2 := some (.lst ((FUNS :: wr).map .str))) (v3 := none) hm (fun q hq => by have := hlen q hq; omega) r2 2 [] none none rfl (by simp)
                  simp only [L__law_read_0, mD] at hfor
                  have hin' : inRg ((r2.length : Int) + 1 + 1) = true := by
                    simp [inRg]
                    simp at hcnt
                    omega
                  have hin2 : inRg 2 = true := by decide
                  have hsub : ((r2.length : Int) + 1 + 1 - 2).toNat = r2.length := by omega
                  simp only [Int.toNat_natCast, List.drop_succ_cons, List.drop_zero]
                  refine ⟨[.lst p], ?_⟩
                  have qe0 : ∀ S, eqB S (.lst []) (.lst []) = some true := fun S => by simpa using qe S
                  cases hlp : loopN nc fs 2 r2 [] with
                  | error e =>
                    rw [hlp] at hfor
                    simp at hfor
                    simp [F__law_read, B__law_read, hlines, exI, resLR, isiD, kindOf, truD, ixD, ninD, sT, cps_c1, cps_c2, cps_c3, cps_c4, cps_1, cps_2, hi4, lenD, intOp, slD, neD, qf1, cps_funs, splitDD, okSep, h1, hs1, hcnt2, hcnt2', hcb, qe0, hbl, l1, l3, hci, hfl2, hwrl, tupDD, hlast, hin, ev_rg2, hin', hin2, hsub, hfor]
                  | ok q =>
                    rw [hlp] at hfor
                    have hp' := hp q hlp
                    subst hp'
                    simp at hfor
                    simp [F__law_read, B__law_read, hlines, exI, resLR, isiD, kindOf, truD, ixD, ninD, sT, cps_c1, cps_c2, cps_c3, cps_c4, cps_1, cps_2, hi4, lenD, intOp, slD, neD, qf1, cps_funs, splitDD, okSep, h1, hs1, hcnt2, hcnt2', hcb, qe0, hbl, l1, l3, hci, hfl2, hwrl, tupDD, hlast, hin, ev_rg2, hin', hin2, hsub, hfor, der_top, mD]
                · have hrd : readsN (FUNS :: wr) = none := by
                    exact if_neg (fun q => hall q.2.2)
                  rw [hrd]
                  have qe0 : decide ((wr.filter fun w => !(figL w 1 2).isSome) = []) = false := decide_eq_false (fun q => hall (hbad.mp q))
                  rw [qe0] at qe
                  generalize (wr.filter fun w => !(figL w 1 2).isSome) = bs at hcb qe hbl
                  exact ⟨[], by simp [F__law_read, B__law_read, hlines, exI, resLR, isiD, kindOf, truD, ixD, ninD, sT, cps_c1, cps_c2, cps_c3, cps_c4, cps_1, cps_2, hi4, lenD, intOp, slD, neD, qf1, cps_funs, splitDD, okSep, h1, hs1, hcnt2, hcnt2', hcb, qe, hbl, l1, l3]⟩
              · have hrd : readsN (FUNS :: wr) = none := by
                  exact if_neg (fun q => hlw q.2.1)
                rw [hrd]
                by_cases l1 : (2 : Int) ≤ (wr.length : Int) + 1
                · have l3 : ¬ (wr.length : Int) + 1 ≤ 4 := by omega
                  exact ⟨[], by simp [F__law_read, B__law_read, hlines, exI, resLR, isiD, kindOf, truD, ixD, ninD, sT, cps_c1, cps_c2, cps_c3, cps_c4, cps_1, cps_2, hi4, lenD, intOp, slD, neD, qf1, cps_funs, splitDD, okSep, h1, hs1, hcnt2, hcnt2', l1, l3]⟩
                · exact ⟨[], by simp [F__law_read, B__law_read, hlines, exI, resLR, isiD, kindOf, truD, ixD, ninD, sT, cps_c1, cps_c2, cps_c3, cps_c4, cps_1, cps_2, hi4, lenD, intOp, slD, neD, qf1, cps_funs, splitDD, okSep, h1, hs1, hcnt2, hcnt2', l1]⟩
            · have hrd : readsN (w0 :: wr) = none := by
                exact if_neg (fun q => hw0 q.1)
              rw [hrd]
              exact ⟨[], by simp [F__law_read, B__law_read, hlines, exI, resLR, isiD, kindOf, truD, ixD, ninD, sT, cps_c1, cps_c2, cps_c3, cps_c4, cps_1, cps_2, hi4, lenD, intOp, slD, neD, qf1, hw0, cps_funs, splitDD, okSep, h1, hs1, hcnt2, hcnt2']⟩
end L2.DL
-- part P10
set_option maxHeartbeats 4000000
/-! P10: terms read from the left. -/
namespace L2.DL
open PySem PySem.Spec PyProof.Rows
def L_term_at_0 (F : DF) : SM := sSeq (sIf (bOf (eOp neD (eSl slD (eVar 1) (oSome (eVar 2)) (oSome (eOp addD (eVar 2) (eC (.int 1))))) (eIf (bOf (eOp eqD (eVar 7) (eC (.int 0)))) (eC (sT "(")) (eC (sT ","))))) (sRet (eTup (aCons (eC .non) (aCons (eVar 2) aNil)))) sNil) (sSeq (sAsg (gTupD [8,2]) (eCall F (aCons (eVar 0) (aCons (eVar 1) (aCons (eOp addD (eVar 2) (eC (.int 1))) (aCons (eOp subD (eVar 3) (eC (.int 1))) aNil)))))) (sSeq (sIf (bOf (eOp isND (eVar 8) (eC .non))) (sRet (eTup (aCons (eC .non) (aCons (eVar 2) aNil)))) sNil) (sAppend (eVar 6) (eVar 8))))
theorem der_mid {S N : Sto} {xs : List D} : der (S ++ .lst xs :: N) (.mu S.length) = .lst xs := by simp [der]
theorem mid_get {S N : Sto} {c : Cell} : (S ++ c :: N)[S.length]? = some c := by simp
theorem mid_set {S N : Sto} {c c' : Cell} : (S ++ c :: N).set S.length c' = S ++ c' :: N := by
  rw [List.set_append_right _ _ (Nat.le_refl _), Nat.sub_self]; rfl
theorem cut_p1 {α : Type} (x : List α) (p : Nat) : cutG x (some (p : Int)) (some ((p : Int) + 1)) = (x.drop p).take 1 := by
  have h := cut_mid x p (p + 1)
  rw [show ((p + 1 : Nat) : Int) = (p : Int) + 1 by omega, show p + 1 - p = 1 by omega] at h
  exact h
theorem cut_p12 {α : Type} (x : List α) (p : Nat) : cutG x (some ((p : Int) + 1)) (some ((p : Int) + 2)) = (x.drop (p + 1)).take 1 := by
  have h := cut_mid x (p + 1) (p + 2)
  rw [show ((p + 1 : Nat) : Int) = (p : Int) + 1 by omega, show ((p + 2 : Nat) : Int) = (p : Int) + 2 by omega, show p + 2 - (p + 1) = 1 by omega] at h
  exact h
/-- what a reading from the left at p gives -/
def TaRes (c : Nat) (fs : List Nat) (x : List Nat) (d p : Nat) (r : D) : Prop := match prsT c fs d (x.drop p) with
  | some (T, rest) => ∃ q : Nat, r = .tup [dT T, .int (q : Int)] ∧ x.drop q = rest ∧ q ≤ x.length
  | none => ∃ q : Nat, r = .tup [.non, .int (q : Int)]
section
variable {c : Nat} {fs x : List Nat} {S : Sto} {F : DF} {d : Nat} {v4 v5 v7 v8 : Option D}
theorem dT_notnon (T : Tm) : isNB (dT T) = false := by cases T <;> rfl
theorem drop_len {y : List Nat} {q a : Nat} (h : x.drop q = a :: y) : q + 1 ≤ x.length ∧ x.drop (q + 1) = y := by
  have h1 := congrArg List.length h
  simp at h1
  refine ⟨by omega, ?_⟩
  have := congrArg List.tail h
  simpa using this
theorem ta_bad {q t : Nat} {xs : List D} {N : Sto} (hx : x.length ≤ 1000000) (h : (x.drop q).take 1 ≠ [if t = 0 then 40 else 44]) :
    L_term_at_0 F [some (mD c fs), some (.str x), some (.int (q : Int)), some (.int ((d : Int) + 2)), v4, v5, some (.mu S.length), some (.int (t : Int)), v8] (S ++ .lst xs :: N) =
      some (.rt (.tup [.non, .int (q : Int)]), [some (mD c fs), some (.str x), some (.int (q : Int)), some (.int ((d : Int) + 2)), v4, v5, some (.mu S.length), some (.int (t : Int)), v8], S ++ .lst xs :: N) := by
  have hx2 : x.length ≤ 16777216 := by omega
  by_cases ht : t = 0
  · subst ht
    simp only [if_true] at h
    simp [L_term_at_0, slD, hx2, cut_p1, neD, eqD, eqB_int, eqB_str, sT, h, addD]
  · rw [if_neg ht] at h
    have ht2 : ¬ (t : Int) = 0 := by omega
    simp [L_term_at_0, slD, hx2, cut_p1, neD, eqD, eqB_int, eqB_str, sT, h, ht, ht2, addD]
theorem ta_go {q t : Nat} {xs : List D} {N N' : Sto} {r : D} (hx : x.length ≤ 1000000) (hl : xs.length ≤ 100) (h : (x.drop q).take 1 = [if t = 0 then 40 else 44])
    (hF : F [mD c fs, .str x, .int ((q + 1 : Nat) : Int), .int ((d : Int) + 1)] (S ++ .lst xs :: N) = some (.ok r, S ++ .lst xs :: N ++ N')) (hr : TaRes c fs x d (q + 1) r) :
    (∃ T rest q', prsT c fs d (x.drop (q + 1)) = some (T, rest) ∧ x.drop q' = rest ∧ q' ≤ x.length ∧ L_term_at_0 F [some (mD c fs), some (.str x), some (.int (q : Int)), some (.int ((d : Int) + 2)), v4, v5, some (.mu S.length), some (.int (t : Int)), v8] (S ++ .lst xs :: N) =
      some (.nx, [some (mD c fs), some (.str x), some (.int (q' : Nat)), some (.int ((d : Int) + 2)), v4, v5, some (.mu S.length), some (.int (t : Int)), some (dT T)], S ++ .lst (xs ++ [dT T]) :: (N ++ N'))) ∨
    (prsT c fs d (x.drop (q + 1)) = none ∧ ∃ (z : Nat) (e' : DEnv), L_term_at_0 F [some (mD c fs), some (.str x), some (.int (q : Int)), some (.int ((d : Int) + 2)), v4, v5, some (.mu S.length), some (.int (t : Int)), v8] (S ++ .lst xs :: N) =
      some (.rt (.tup [.non, .int (z : Int)]), e', S ++ .lst xs :: (N ++ N'))) := by
  have hx2 : x.length ≤ 16777216 := by omega
  have hq : ((q + 1 : Nat) : Int) = (q : Int) + 1 := by omega
  rw [hq] at hF
  have hd : (d : Int) + 2 - 1 = (d : Int) + 1 := by omega
  have hl2 : xs.length < 16777216 := by omega
  unfold TaRes at hr
  cases hp : prsT c fs d (x.drop (q + 1)) with
  | some Tr =>
    obtain ⟨T, rest⟩ := Tr
    rw [hp] at hr
    obtain ⟨q', rfl, h1, h2⟩ := hr
    refine .inl ⟨T, rest, q', rfl, h1, h2, ?_⟩
    have hn := dT_notnon T
    by_cases ht : t = 0
    · subst ht
      simp only [if_true] at h
      simp at hF
      simp [L_term_at_0, slD, hx2, cut_p1, neD, eqD, eqB_int, eqB_str, sT, h, intOp, addD, hd, hF, isND, isN_non, hn, sAppend, isLst, eVar, hl2]
    · rw [if_neg ht] at h
      have ht2 : ¬ (t : Int) = 0 := by omega
      simp at hF
      simp [L_term_at_0, slD, hx2, cut_p1, neD, eqD, eqB_int, eqB_str, sT, h, ht, ht2, intOp, addD, hd, hF, isND, isN_non, hn, sAppend, isLst, eVar, hl2]
  | none =>
    rw [hp] at hr
    obtain ⟨z, rfl⟩ := hr
    refine .inr ⟨rfl, z, [some (mD c fs), some (.str x), some (.int (z : Int)), some (.int ((d : Int) + 2)), v4, v5, some (.mu S.length), some (.int (t : Int)), some .non], ?_⟩
    by_cases ht : t = 0
    · subst ht
      simp only [if_true] at h
      simp at hF
      simp [L_term_at_0, slD, hx2, cut_p1, neD, eqD, eqB_int, eqB_str, sT, h, intOp, addD, hd, hF, isND, isN_non]
    · rw [if_neg ht] at h
      have ht2 : ¬ (t : Int) = 0 := by omega
      simp at hF
      simp [L_term_at_0, slD, hx2, cut_p1, neD, eqD, eqB_int, eqB_str, sT, h, ht, ht2, intOp, addD, hd, hF, isND, isN_non]
end
theorem lenD_tup {S : Sto} {xs : List D} : lenD S [.tup xs] = some (.int xs.length) := rfl
section
variable {c : Nat} {fs x : List Nat}
theorem ta_head (F : DF) (S : Sto) (p : Nat) (D : Int) (hx : x.length ≤ 1000000) (h : ∀ n : Nat, n ≤ 3 → ∀ b r, x.drop p = 99 :: b :: r → b = 48 + n → ¬ n < c)
    (h2 : D < 2 ∨ ∀ n : Nat, n < fs.length → n ≤ 3 → ∀ b r, x.drop p = 102 :: b :: r → b ≠ 48 + n) :
    denF 9 4 (B_term_at F) [mD c fs, .str x, .int (p : Int), .int D] S = some (.ok (.tup [.non, .int (p : Int)]), S) := by
  have hx2 : x.length ≤ 16777216 := by omega
  have hn1 := fun S => f_figure ((x.drop (p + 1)).take 1) 0 3 S (by simp; omega)
  cases hy : x.drop p with
  | nil =>
    have hy1 : x.drop (p + 1) = [] := by
      have := congrArg List.tail hy
      simpa using this
    rw [hy1] at hn1
    have e : figL (List.take 1 ([] : List Nat)) 0 3 = none := rfl
    rw [e] at hn1
    simp at hn1
    simp [B_term_at, mD, slD, hx2, addD, cut_p1, cut_p12, hy, hy1, intOp, hn1, eqD, neD, eqB_str, sT, isND, notND, isN_non]
  | cons a y1 =>
    have hy1 := (drop_len hy).2
    rw [hy1] at hn1
    by_cases ha : a = 99
    · subst ha
      cases hb : figL (y1.take 1) 0 3 with
      | none =>
        rw [hb] at hn1
        simp at hn1
        simp [B_term_at, mD, slD, hx2, addD, cut_p1, cut_p12, hy, hy1, intOp, hn1, eqD, neD, eqB_str, sT, isND, notND, isNB]
      | some i =>
        rw [hb] at hn1
        simp at hn1
        match y1, hy, hb with
        | [], hy, hb => cases hb
        | b :: r, hy, hb =>
          obtain ⟨n, n3, rfl, hbn⟩ := fig3_inv (a := b) (by simpa using hb)
          have hc := h n n3 b r hy hbn
          have hc2 : ¬ (n : Int) < (c : Int) := by omega
          simp at hn1
          simp [B_term_at, mD, slD, hx2, addD, cut_p1, cut_p12, hy, hy1, intOp, hn1, eqD, neD, eqB_str, sT, isND, notND, isNB, ixD, hc2]
    · by_cases hf : a = 102
      · subst hf
        cases hb : figL (y1.take 1) 0 3 with
        | none =>
          rw [hb] at hn1
          simp at hn1
          simp [B_term_at, mD, slD, hx2, addD, cut_p1, cut_p12, hy, hy1, intOp, hn1, eqD, neD, eqB_str, sT, isND, notND, isNB]
        | some i =>
          rw [hb] at hn1
          simp at hn1
          match y1, hy, hb with
          | [], hy, hb => cases hb
          | b :: r, hy, hb =>
            obtain ⟨n, n3, rfl, hbn⟩ := fig3_inv (a := b) (by simpa using hb)
            simp at hn1
            by_cases hn : n < fs.length
            · have hD : D < 2 := by
                rcases h2 with h2 | h2
                · exact h2
                · exact absurd hbn (h2 n hn n3 b r hy)
              have hn2 : ¬ (fs.length : Int) ≤ (n : Int) := by omega
              simp [B_term_at, mD, slD, hx2, addD, cut_p1, cut_p12, hy, hy1, intOp, hn1, eqD, neD, eqB_str, sT, isND, notND, isNB, ixD, lenD_tup, hn2, hD]
            · have hn2 : (fs.length : Int) ≤ (n : Int) := by omega
              simp [B_term_at, mD, slD, hx2, addD, cut_p1, cut_p12, hy, hy1, intOp, hn1, eqD, neD, eqB_str, sT, isND, notND, isNB, ixD, lenD_tup, hn2]
      · cases hb : figL (y1.take 1) 0 3 with
        | none =>
          rw [hb] at hn1
          simp at hn1
          simp [B_term_at, mD, slD, hx2, addD, cut_p1, cut_p12, hy, hy1, intOp, hn1, eqD, neD, eqB_str, sT, isND, notND, isNB, ha, hf]
        | some i =>
          rw [hb] at hn1
          simp at hn1
          simp [B_term_at, mD, slD, hx2, addD, cut_p1, cut_p12, hy, hy1, intOp, hn1, eqD, neD, eqB_str, sT, isND, notND, isNB, ha, hf]
theorem ta_c (F : DF) (S : Sto) (p n : Nat) (D : Int) (r : List Nat) (hx : x.length ≤ 1000000) (hn : n < c) (h3 : n ≤ 3) (hy : x.drop p = 99 :: (48 + n) :: r) :
    denF 9 4 (B_term_at F) [mD c fs, .str x, .int (p : Int), .int D] S = some (.ok (.tup [.int (n : Int), .int ((p + 2 : Nat) : Int)]), S) := by
  have hx2 : x.length ≤ 16777216 := by omega
  have hn1 := fun S => f_figure ((x.drop (p + 1)).take 1) 0 3 S (by simp; omega)
  have hy1 := (drop_len hy).2
  rw [hy1] at hn1
  simp only [List.take_succ_cons, List.take_zero, fig3 h3] at hn1
  have hc2 : (n : Int) < (c : Int) := by omega
  simp at hn1
  simp [B_term_at, mD, slD, hx2, addD, cut_p1, cut_p12, hy, hy1, intOp, hn1, eqD, neD, eqB_str, sT, isND, notND, isNB, ixD, hc2]
end
end L2.DL
-- part P11
set_option maxHeartbeats 4000000
/-! P11: term_at, read_term. -/
namespace L2.DL
open PySem PySem.Spec PyProof.Rows
section
variable {c : Nat} {fs x : List Nat}
/-- what stands behind the head f, n, the brackets' turns done by lp -/
theorem ta_f (F : DF) (S : Sto) (p n k : Nat) (dp : Int) (r : List Nat) (xs : List D) (N : Sto) (hx : x.length ≤ 1000000) (hn : n < fs.length) (h3 : n ≤ 3) (hk : fs[n]? = some k) (hk2 : k ≤ 2) (hD : ¬ dp < 2) (hy : x.drop p = 102 :: (48 + n) :: r) (res : D)
    (hq : (∃ e', forD (gNameD 7) (L_term_at_0 F) (rgL 0 k) [some (mD c fs), some (.str x), some (.int ((p + 2 : Nat) : Int)), some (.int dp), some (.str [102]), some (.int (n : Int)), some (.mu S.length), none, none] (S ++ .lst [.int (n : Int)] :: []) = some (.rt res, e', S ++ N)) ∨
      (∃ (q' : Nat) (e7 e8 : Option D) (N' : Sto), xs.length ≤ 100 ∧ N = .lst xs :: N' ∧ forD (gNameD 7) (L_term_at_0 F) (rgL 0 k) [some (mD c fs), some (.str x), some (.int ((p + 2 : Nat) : Int)), some (.int dp), some (.str [102]), some (.int (n : Int)), some (.mu S.length), none, none] (S ++ .lst [.int (n : Int)] :: []) =
        some (.nx, [some (mD c fs), some (.str x), some (.int (q' : Int)), some (.int dp), some (.str [102]), some (.int (n : Int)), some (.mu S.length), e7, e8], S ++ .lst xs :: N') ∧ res = if (x.drop q').take 1 = [41] then .tup [.tup xs, .int ((q' + 1 : Nat) : Int)] else .tup [.non, .int (q' : Int)])) :
    denF 9 4 (B_term_at F) [mD c fs, .str x, .int (p : Int), .int dp] S = some (.ok res, S ++ N) := by
  have hx2 : x.length ≤ 16777216 := by omega
  have hn1 := fun S => f_figure ((x.drop (p + 1)).take 1) 0 3 S (by simp; omega)
  have hy1 := (drop_len hy).2
  rw [hy1] at hn1
  simp only [List.take_succ_cons, List.take_zero, fig3 h3] at hn1
  have hn2 : ¬ (fs.length : Int) ≤ (n : Int) := by omega
  have e2 : (intsD fs)[n]? = some (.int (k : Int)) := by simp [intsD, hk]
  have hin : inRg (k : Int) = true := by
    rcases (show k = 0 ∨ k = 1 ∨ k = 2 by omega) with rfl | rfl | rfl <;> decide
  simp at hn1
  rcases hq with ⟨e', hfor⟩ | ⟨q', e7, e8, N', hxs, rfl, hfor, rfl⟩
  · simp only [L_term_at_0] at hfor
    simp [mD, sT] at hfor
    simp [B_term_at, mD, slD, hx2, addD, cut_p1, cut_p12, hy, hy1, intOp, hn1, eqD, neD, eqB_str, sT, isND, notND, isNB, ixD, lenD_tup, hn2, hD, atI_nat, e2, hin, hfor]
  · simp only [L_term_at_0] at hfor
    simp [mD, sT] at hfor
    by_cases h41 : (x.drop q').take 1 = [41]
    · simp [B_term_at, mD, slD, hx2, addD, cut_p1, cut_p12, hy, hy1, intOp, hn1, eqD, neD, eqB_str, sT, isND, notND, isNB, ixD, lenD_tup, hn2, hD, atI_nat, e2, hin, hfor, h41, tupDD, der_mid]
    · simp [B_term_at, mD, slD, hx2, addD, cut_p1, cut_p12, hy, hy1, intOp, hn1, eqD, neD, eqB_str, sT, isND, notND, isNB, ixD, lenD_tup, hn2, hD, atI_nat, e2, hin, hfor, h41]
def fin1 (n : Nat) (A : Tm) : Option (Tm × List Nat) → Option (Tm × List Nat)
  | some (B, 41 :: r3) => some (.f2 n A B, r3)
  | _ => none
def fin2 (c : Nat) (fs : List Nat) (d n : Nat) (A : Tm) (rest : List Nat) : Option (Tm × List Nat) := match rest with
  | 44 :: r2 => fin1 n A (prsT c fs d r2)
  | _ => none
theorem prs_two {d n : Nat} {A : Tm} {r' rest : List Nat} (h3 : n ≤ 3) (hka : fs[n]? = some 2) (e1 : prsT c fs d r' = some (A, rest)) : prsT c fs (d + 1) (102 :: (48 + n) :: 40 :: r') = fin2 c fs d n A rest := by
  simp only [prsT, fig3 h3, Int.toNat_natCast, hka, e1]
  cases rest with
  | nil => rfl
  | cons z r2 =>
    by_cases hz : z = 44
    · subst hz
      simp only [fin2]
      rcases prsT c fs d r2 with _ | ⟨B, r3⟩
      · rfl
      · cases r3 with
        | nil => rfl
        | cons w r4 =>
          by_cases hw : w = 41
          · subst hw; rfl
          · have h1 : fin1 n A (some (B, w :: r4)) = none := by
              unfold fin1
              split
              · rename_i e; cases e; exact absurd rfl hw
              · rfl
            rw [h1]
            split
            · rename_i e; cases e; exact absurd rfl hw
            · rfl
    · have h1 : fin2 c fs d n A (z :: r2) = none := by
        unfold fin2
        split
        · rename_i e; cases e; exact absurd rfl hz
        · rfl
      rw [h1]
      split
      · rename_i e; cases e; exact absurd rfl hz
      · rfl
theorem f_term_at (m : MOk c fs) (hx : x.length ≤ 1000000) : ∀ (d k p : Nat) (S : Sto), d ≤ k → ∃ r N, F_term_at (k + 1) [mD c fs, .str x, .int (p : Int), .int ((d : Int) + 1)] S = some (.ok r, S ++ N) ∧ TaRes c fs x d p r
  | d, k, p, S, hk => by
    show ∃ r N, denF 9 4 (B_term_at (F_term_at k)) [mD c fs, .str x, .int (p : Int), .int ((d : Int) + 1)] S = some (.ok r, S ++ N) ∧ TaRes c fs x d p r
    have hm4 := m.c4
    have hm3 := m.f3
    have bad : (∀ n : Nat, n ≤ 3 → ∀ b r, x.drop p = 99 :: b :: r → b = 48 + n → ¬ n < c) → ((d : Int) + 1 < 2 ∨ ∀ n : Nat, n < fs.length → n ≤ 3 → ∀ b r, x.drop p = 102 :: b :: r → b ≠ 48 + n) → prsT c fs d (x.drop p) = none →
        ∃ r N, denF 9 4 (B_term_at (F_term_at k)) [mD c fs, .str x, .int (p : Int), .int ((d : Int) + 1)] S = some (.ok r, S ++ N) ∧ TaRes c fs x d p r := fun h1 h2 h3 => by
      refine ⟨.tup [.non, .int (p : Int)], [], ?_, ?_⟩
      · rw [List.append_nil]
        exact ta_head _ S p _ hx h1 h2
      · unfold TaRes; rw [h3]; exact ⟨p, rfl⟩
    by_cases hC : ∃ (n : Nat) (r : List Nat), n < c ∧ x.drop p = 99 :: (48 + n) :: r
    · obtain ⟨n, r, hn, hy⟩ := hC
      refine ⟨.tup [.int (n : Int), .int ((p + 2 : Nat) : Int)], [], ?_, ?_⟩
      · rw [List.append_nil]
        exact ta_c _ S p n _ r hx hn (by omega) hy
      · have h3 : n ≤ 3 := by omega
        have e : prsT c fs d (x.drop p) = some (.c n, r) := by
          rw [hy]
          cases d <;> (simp only [prsT, fig3 h3]; rw [if_pos (by omega)]; rfl)
        unfold TaRes
        rw [e]
        obtain ⟨l1, l2⟩ := drop_len hy
        obtain ⟨l3, l4⟩ := drop_len l2
        exact ⟨p + 2, rfl, l4, by omega⟩
    · have hC' : ∀ n : Nat, n ≤ 3 → ∀ b r, x.drop p = 99 :: b :: r → b = 48 + n → ¬ n < c := fun n _ b r h e q => hC ⟨n, r, q, by rw [h, e]⟩
      by_cases hF : ∃ (n : Nat) (r : List Nat), n < fs.length ∧ x.drop p = 102 :: (48 + n) :: r
      · obtain ⟨n, r, hn, hy⟩ := hF
        cases d with
        | zero =>
          refine bad hC' (.inl (by decide)) ?_
          rw [hy]
          simp [prsT]
        | succ d =>
          have h3 : n ≤ 3 := by omega
          obtain ⟨kk, rfl⟩ : ∃ kk, k = kk + 1 := ⟨k - 1, by omega⟩
          obtain ⟨a, hka⟩ : ∃ a, fs[n]? = some a := ⟨fs[n], List.getElem?_eq_getElem hn⟩
          have har := m.fr a (List.mem_of_getElem? hka)
          have hdd : ((d + 1 : Nat) : Int) + 1 = (d : Int) + 2 := by omega
          rw [hdd]
          have hDn : ¬ ((d : Int) + 2 < 2) := by omega
          obtain ⟨l1, l2⟩ := drop_len hy
          obtain ⟨l3, l4⟩ := drop_len l2
          have l4' : x.drop (p + 2) = r := l4
          have hset : ∀ (o : Option D) (v : D), ([some (mD c fs), some (.str x), some (.int ((p + 2 : Nat) : Int)), some (.int ((d : Int) + 2)), some (.str [102]), some (.int (n : Int)), some (.mu S.length), o, none] : DEnv).set 7 (some v) = [some (mD c fs), some (.str x), some (.int ((p + 2 : Nat) : Int)), some (.int ((d : Int) + 2)), some (.str [102]), some (.int (n : Int)), some (.mu S.length), some v, none] := fun _ _ => rfl
          have hrg : rgL 0 a = .int ((0 : Nat) : Int) :: rgL 1 (a - 1) := by
            obtain ⟨a', rfl⟩ : ∃ a', a = a' + 1 := ⟨a - 1, by omega⟩
            rw [rgL_cons]; rfl
          by_cases h40 : (x.drop (p + 2)).take 1 = [40]
          · obtain ⟨r1, N1, hF1, hr1⟩ := f_term_at m hx d kk (p + 2 + 1) (S ++ .lst [.int (n : Int)] :: []) (by omega)
            have hgo := ta_go (v4 := some (.str [102])) (v5 := some (.int (n : Int))) (v8 := none) (t := 0) (xs := [.int (n : Int)]) (N := []) (N' := N1) hx (by simp) h40 hF1 hr1
            have hr40 : ∃ r', r = 40 :: r' := by
              rw [l4'] at h40
              cases r with
              | nil => cases h40
              | cons z r' => simp at h40; exact ⟨r', by rw [h40]⟩
            obtain ⟨r', rfl⟩ := hr40
            have l5 : x.drop (p + 2 + 1) = r' := (drop_len l4').2
            rcases hgo with ⟨A, rest, q', e1, e2, e3, hstep⟩ | ⟨e1, z, e', hstep⟩
            · rcases (show a = 1 ∨ a = 2 by omega) with rfl | rfl
              · refine ⟨if (x.drop q').take 1 = [41] then .tup [.tup [.int (n : Int), dT A], .int ((q' + 1 : Nat) : Int)] else .tup [.non, .int (q' : Int)], .lst ([.int (n : Int)] ++ [dT A]) :: ([] ++ N1), ?_, ?_⟩
                · refine ta_f _ S p n 1 _ (40 :: r') ([.int (n : Int)] ++ [dT A]) _ hx hn h3 hka (by omega) hDn hy _ (.inr ⟨q', some (.int ((0 : Nat) : Int)), some (dT A), [] ++ N1, by simp, rfl, ?_, rfl⟩)
                  rw [hrg, ev_for_cons, ev_gname, hset]
                  dsimp only
                  rw [hstep]
                  rfl
                · unfold TaRes
                  rw [hy]
                  rw [l5] at e1
                  by_cases h41 : (x.drop q').take 1 = [41]
                  · rw [if_pos h41]
                    obtain ⟨r2, hr2⟩ : ∃ r2, rest = 41 :: r2 := by
                      rw [e2] at h41
                      cases rest with
                      | nil => cases h41
                      | cons z r2 => simp at h41; exact ⟨r2, by rw [h41]⟩
                    subst hr2
                    have : prsT c fs (d + 1) (102 :: (48 + n) :: 40 :: r') = some (.f1 n A, r2) := by
                      simp only [prsT, fig3 h3, Int.toNat_natCast, hka, e1]
                    rw [this]
                    obtain ⟨m1, m2⟩ := drop_len e2
                    exact ⟨q' + 1, rfl, m2, m1⟩
                  · rw [if_neg h41]
                    have : prsT c fs (d + 1) (102 :: (48 + n) :: 40 :: r') = none := by
                      simp only [prsT, fig3 h3, Int.toNat_natCast, hka, e1]
                      rw [e2] at h41
                      cases rest with
                      | nil => rfl
                      | cons z r2 =>
                        have hz : z ≠ 41 := fun q => h41 (by rw [q]; rfl)
                        split
                        · rename_i e; cases e; exact absurd rfl hz
                        · rfl
                    rw [this]
                    exact ⟨q', rfl⟩
              · have hfirst : ∀ tl : List D, forD (gNameD 7) (L_term_at_0 (F_term_at (kk + 1))) (.int ((0 : Nat) : Int) :: tl) [some (mD c fs), some (.str x), some (.int ((p + 2 : Nat) : Int)), some (.int ((d : Int) + 2)), some (.str [102]), some (.int (n : Int)), some (.mu S.length), none, none] (S ++ .lst [.int (n : Int)] :: []) =
                    forD (gNameD 7) (L_term_at_0 (F_term_at (kk + 1))) tl [some (mD c fs), some (.str x), some (.int (q' : Int)), some (.int ((d : Int) + 2)), some (.str [102]), some (.int (n : Int)), some (.mu S.length), some (.int ((0 : Nat) : Int)), some (dT A)] (S ++ .lst ([.int (n : Int)] ++ [dT A]) :: ([] ++ N1)) := fun tl => by
                  rw [ev_for_cons, ev_gname, hset]
                  dsimp only
                  rw [hstep]
                have hrg2 : rgL 1 (2 - 1) = [.int ((1 : Nat) : Int)] := rfl
                have hset2 : ∀ (v : D), ([some (mD c fs), some (.str x), some (.int (q' : Int)), some (.int ((d : Int) + 2)), some (.str [102]), some (.int (n : Int)), some (.mu S.length), some (.int ((0 : Nat) : Int)), some (dT A)] : DEnv).set 7 (some v) = [some (mD c fs), some (.str x), some (.int (q' : Int)), some (.int ((d : Int) + 2)), some (.str [102]), some (.int (n : Int)), some (.mu S.length), some v, some (dT A)] := fun _ => rfl
                rw [l5] at e1
                have hpr := prs_two (c := c) h3 hka e1
                by_cases h44 : (x.drop q').take 1 = [44]
                · obtain ⟨r2, hr2⟩ : ∃ r2, rest = 44 :: r2 := by
                    rw [e2] at h44
                    cases rest with
                    | nil => cases h44
                    | cons z r2 => simp at h44; exact ⟨r2, by rw [h44]⟩
                  subst hr2
                  obtain ⟨m1, m2⟩ := drop_len e2
                  obtain ⟨s1, N2, hF2, hs1⟩ := f_term_at m hx d kk (q' + 1) (S ++ .lst ([.int (n : Int)] ++ [dT A]) :: ([] ++ N1)) (by omega)
                  have hgo2 := ta_go (v4 := some (.str [102])) (v5 := some (.int (n : Int))) (v8 := some (dT A)) (t := 1) (xs := [.int (n : Int)] ++ [dT A]) (N := [] ++ N1) (N' := N2) hx (by simp) h44 hF2 hs1
                  rcases hgo2 with ⟨B, rest2, q2, g1, g2, g3, hstep2⟩ | ⟨g1, z, e', hstep2⟩
                  · rw [m2] at g1
                    simp only [fin2, g1] at hpr
                    refine ⟨if (x.drop q2).take 1 = [41] then .tup [.tup [.int (n : Int), dT A, dT B], .int ((q2 + 1 : Nat) : Int)] else .tup [.non, .int (q2 : Int)], .lst ([.int (n : Int)] ++ [dT A] ++ [dT B]) :: ([] ++ N1 ++ N2), ?_, ?_⟩
                    · refine ta_f _ S p n 2 _ (40 :: r') ([.int (n : Int)] ++ [dT A] ++ [dT B]) _ hx hn h3 hka (by omega) hDn hy _ (.inr ⟨q2, some (.int ((1 : Nat) : Int)), some (dT B), [] ++ N1 ++ N2, by simp, rfl, ?_, rfl⟩)
                      rw [hrg, hfirst, hrg2, ev_for_cons, ev_gname, hset2]
                      dsimp only
                      rw [hstep2]
                      rfl
                    · unfold TaRes
                      rw [hy, hpr]
                      by_cases h41 : (x.drop q2).take 1 = [41]
                      · rw [if_pos h41]
                        obtain ⟨r3, hr3⟩ : ∃ r3, rest2 = 41 :: r3 := by
                          rw [g2] at h41
                          cases rest2 with
                          | nil => cases h41
                          | cons z r3 => simp at h41; exact ⟨r3, by rw [h41]⟩
                        subst hr3
                        obtain ⟨w1, w2⟩ := drop_len g2
                        exact ⟨q2 + 1, rfl, w2, w1⟩
                      · rw [if_neg h41]
                        rw [g2] at h41
                        cases rest2 with
                        | nil => exact ⟨q2, rfl⟩
                        | cons z r3 =>
                          have hz : z ≠ 41 := fun q => h41 (by rw [q]; rfl)
                          have : fin1 n A (some (B, z :: r3)) = none := by
                            unfold fin1
                            split
                            · rename_i e; cases e; exact absurd rfl hz
                            · rfl
                          rw [this]
                          exact ⟨q2, rfl⟩
                  · rw [m2] at g1
                    simp only [fin2, g1] at hpr
                    refine ⟨.tup [.non, .int (z : Int)], .lst ([.int (n : Int)] ++ [dT A]) :: ([] ++ N1 ++ N2), ?_, ?_⟩
                    · refine ta_f _ S p n 2 _ (40 :: r') [] _ hx hn h3 hka (by omega) hDn hy _ (.inl ⟨e', ?_⟩)
                      rw [hrg, hfirst, hrg2, ev_for_cons, ev_gname, hset2]
                      dsimp only
                      rw [hstep2]
                    · unfold TaRes
                      rw [hy, hpr]
                      exact ⟨z, rfl⟩
                · have hpr2 : prsT c fs (d + 1) (102 :: (48 + n) :: 40 :: r') = none := by
                    rw [hpr]
                    rw [e2] at h44
                    unfold fin2
                    split
                    · exact absurd rfl h44
                    · rfl
                  refine ⟨.tup [.non, .int (q' : Int)], .lst ([.int (n : Int)] ++ [dT A]) :: ([] ++ N1), ?_, ?_⟩
                  · refine ta_f _ S p n 2 _ (40 :: r') [] _ hx hn h3 hka (by omega) hDn hy _ (.inl ⟨[some (mD c fs), some (.str x), some (.int (q' : Int)), some (.int ((d : Int) + 2)), some (.str [102]), some (.int (n : Int)), some (.mu S.length), some (.int ((1 : Nat) : Int)), some (dT A)], ?_⟩)
                    rw [hrg, hfirst, hrg2, ev_for_cons, ev_gname, hset2]
                    dsimp only
                    rw [ta_bad hx (t := 1) h44]
                  · unfold TaRes
                    rw [hy, hpr2]
                    exact ⟨q', rfl⟩
            · refine ⟨.tup [.non, .int (z : Int)], .lst [.int (n : Int)] :: ([] ++ N1), ?_, ?_⟩
              · refine ta_f _ S p n a _ (40 :: r') [] _ hx hn h3 hka har.2 hDn hy _ (.inl ⟨e', ?_⟩)
                rw [hrg, ev_for_cons, ev_gname, hset]
                dsimp only
                rw [hstep]
              · unfold TaRes
                rw [hy]
                rw [l5] at e1
                have : prsT c fs (d + 1) (102 :: (48 + n) :: 40 :: r') = none := by
                  simp only [prsT, fig3 h3, Int.toNat_natCast, hka]
                  rcases (show a = 1 ∨ a = 2 by omega) with rfl | rfl <;> simp [e1]
                rw [this]
                exact ⟨z, rfl⟩
          · refine ⟨.tup [.non, .int ((p + 2 : Nat) : Int)], .lst [.int (n : Int)] :: [], ?_, ?_⟩
            · refine ta_f _ S p n a _ r [] _ hx hn h3 hka har.2 hDn hy _ (.inl ⟨[some (mD c fs), some (.str x), some (.int ((p + 2 : Nat) : Int)), some (.int ((d : Int) + 2)), some (.str [102]), some (.int (n : Int)), some (.mu S.length), some (.int ((0 : Nat) : Int)), none], ?_⟩)
              rw [hrg, ev_for_cons, ev_gname, hset]
              dsimp only
              rw [ta_bad hx (t := 0) h40]
            · unfold TaRes
              rw [hy]
              have : prsT c fs (d + 1) (102 :: (48 + n) :: r) = none := by
                rw [l4'] at h40
                cases r with
                | nil => simp [prsT]
                | cons z r' =>
                  have hz : z ≠ 40 := fun q => h40 (by rw [q]; rfl)
                  unfold prsT
                  split
                  · rename_i e; cases e
                  · rename_i e; cases e; exact absurd rfl hz
                  · rfl
              rw [this]
              exact ⟨_, rfl⟩
      · refine bad hC' (.inr fun n hn _ b r h e => hF ⟨n, r, hn, by rw [h, e]⟩) ?_
        cases hp : prsT c fs d (x.drop p) with
        | none => rfl
        | some Tr =>
          exfalso
          obtain ⟨T, rest⟩ := Tr
          obtain ⟨k1, k2, k3⟩ := prsT_inv d _ T rest hp
          cases T with
          | c i => exact hC ⟨i, rest, k1, by rw [← k3]; rfl⟩
          | f1 g A => exact hF ⟨g, _, (List.getElem?_eq_some_iff.mp k1.1).1, by rw [← k3]; rfl⟩
          | f2 g A B => exact hF ⟨g, _, (List.getElem?_eq_some_iff.mp k1.1).1, by rw [← k3]; rfl⟩
theorem f_read_term (m : MOk c fs) (hx : x.length ≤ 1000000) (S : Sto) : ∃ N, F_read_term [mD c fs, .str x] S = some ((match lawT c fs 7 x with
    | some T => .ok (dT T)
    | none => .error (.bad 0)), S ++ N) := by
  obtain ⟨r, N, h1, h2⟩ := f_term_at m hx 7 19 0 S (by omega)
  have hx2 : x.length ≤ 16777216 := by omega
  have e7 : ((7 : Nat) : Int) + 1 = 8 := rfl
  rw [e7] at h1
  simp only [Int.ofNat_zero] at h1
  have h1' : F_term_at 20 [mD c fs, .str x, .int 0, .int 8] S = some (.ok r, S ++ N) := h1
  have hnm := fun S => f_need_machine m S
  refine ⟨N, ?_⟩
  unfold TaRes at h2
  rw [List.drop_zero] at h2
  cases hp : prsT c fs 7 x with
  | none =>
    rw [hp] at h2
    obtain ⟨q, rfl⟩ := h2
    have hl : lawT c fs 7 x = none := by
      cases e : lawT c fs 7 x with
      | none => rfl
      | some T => rw [← prs_law m] at e; rw [hp] at e; cases e
    rw [hl]
    simp [F_read_term, B_read_term, isiD, kindOf, truD, hnm, h1', isND, isN_non]
  | some Tr =>
    obtain ⟨T, rest⟩ := Tr
    rw [hp] at h2
    obtain ⟨q, rfl, g1, g2⟩ := h2
    have hn := dT_notnon T
    by_cases hr : rest = []
    · subst hr
      have hq : q = x.length := by
        have := congrArg List.length g1
        simp at this; omega
      rw [(prs_law m 7 x T).mp hp]
      simp [F_read_term, B_read_term, isiD, kindOf, truD, hnm, h1', isND, isN_non, hn, neD, eqB_int, lenD, hx2, hq]
    · have hq : ¬ (q : Int) = (x.length : Int) := fun z => by
        have hq2 : q = x.length := by omega
        apply hr
        rw [← g1, hq2]
        simp
      have hl : lawT c fs 7 x = none := by
        cases e : lawT c fs 7 x with
        | none => rfl
        | some T' => rw [← prs_law m] at e; rw [hp] at e; cases e; exact absurd rfl hr
      rw [hl]
      simp [F_read_term, B_read_term, isiD, kindOf, truD, hnm, h1', isND, isN_non, hn, neD, eqB_int, lenD, hx2, hq]
end
end L2.DL
-- part P12
set_option maxHeartbeats 4000000
/-! P12: wishes read. -/
namespace L2.DL
open PySem PySem.Spec PyProof.Rows
def L_read_wishes_0 : SM := sSeq (sSet 5 (eM1 splitDD (eVar 4) (eC (sT " holds ")))) (sSeq (sSet 6 (eCall F_cell_of (aCons (eOp ixD (eVar 5) (eC (.int 0))) aNil))) (sSeq (sIf (bOr (bOf (eOp neD (eCl lenD (aCons (eVar 5) aNil)) (eC (.int 2)))) (bOr (bOf (eOp isND (eVar 6) (eC .non))) (bOr (bOf (eOp geD (eVar 6) (eOp ixD (eVar 0) (eC (.int 0))))) (bAnd (bTru (eVar 2)) (bOf (eOp leD (eVar 6) (eOp ixD (eOp ixD (eVar 2) (eC (.int (-1)))) (eC (.int 0))))))))) (sRaiseT (eVar 3)) sNil) (sSeq (sAsg (gTupD [7,8]) (eCall (F_term_at 20) (aCons (eVar 0) (aCons (eOp ixD (eVar 5) (eC (.int 1))) (aCons (eC (.int 0)) (aCons (eC (.int 8)) aNil)))))) (sSeq (sIf (bOr (bOf (eOp isND (eVar 7) (eC .non))) (bOf (eOp neD (eVar 8) (eCl lenD (aCons (eOp ixD (eVar 5) (eC (.int 1))) aNil))))) (sRaiseT (eVar 3)) sNil) (sAppend (eVar 2) (eTup (aCons (eVar 6) (aCons (eVar 7) aNil))))))))
def L__law_read_wishes_0 : SM := sSeq (sSet 5 (eM1 splitDD (eOp ixD (eVar 2) (eVar 4)) (eC (sT " holds ")))) (sSeq (sSet 6 (eCall (F__law_term 20) (aCons (eVar 0) (aCons (eOp ixD (eVar 5) (eC (.int 0))) (aCons (eC (.int 1)) aNil))))) (sSeq (sSet 7 (eIf (bOf (eOp eqD (eCl lenD (aCons (eVar 5) aNil)) (eC (.int 2)))) (eCall (F__law_term 20) (aCons (eVar 0) (aCons (eOp ixD (eVar 5) (eC (.int 1))) (aCons (eC (.int 8)) aNil)))) (eC .non))) (sSeq (sIf (bOr (bOf (eOp isND (eVar 6) (eC .non))) (bOr (bOf (eOp isND (eVar 7) (eC .non))) (bAnd (bOf (eOp neD (eVar 3) (eLst aNil))) (bOf (eOp leD (eVar 6) (eOp ixD (eOp ixD (eVar 3) (eC (.int (-1)))) (eC (.int 0)))))))) (sRet (eVar 4)) sNil) (sAppend (eVar 3) (eTup (aCons (eVar 6) (aCons (eVar 7) aNil)))))))
theorem isN_int {i : Int} : isNB (.int i) = false := rfl
theorem ev_try {env : DEnv} {S : Sto} {i : Nat} {fx : XM} : sTryT i fx env S = if i < env.length then (match fx env S with
  | some (.ok d, s) => some (.rt d, env, s)
  | some (.error (.bad n), s) => some (.rt (badV n), env, s)
  | some (.error .loss, s) => none
  | none => none) else none := by
  unfold sTryT
  split
  · cases fx env S with
    | none => rfl
    | some p =>
      obtain ⟨r, s⟩ := p
      cases r with
      | ok d => rfl
      | error x => cases x <;> rfl
  · rfl
theorem ev_forEX {env : DEnv} {S : Sto} {fx : XM} {g : D → DEnv → Option DEnv} {b : SM} : sForEX fx g b env S = match fx env S with
  | some (.ok (.lst ds), s) => forD g b (enumL 0 ds) env s
  | some (.ok _, s) => none
  | some (.error x, s) => some (.ex x, env, s)
  | none => none := by
  unfold sForEX
  cases fx env S with
  | none => rfl
  | some p =>
    obtain ⟨r, s⟩ := p
    cases r with
    | ok d => cases d <;> rfl
    | error x => rfl
abbrev BAD : List Nat := [98, 97, 100]
theorem badV0 : badV 0 = .str BAD := by
  unfold badV
  rw [if_pos rfl]
  have : (Str.ofString "bad").cps.toList = BAD := by decide +kernel
  rw [this]
def toldT : Option Tm → D
  | some T => dT T
  | none => .str BAD
section
variable {c : Nat} {fs : List Nat}
theorem f_told_term (m : MOk c fs) {x : List Nat} (hx : x.length ≤ 1000000) (S : Sto) : ∃ N, F__law_told_term [mD c fs, .str x] S = some (.ok (toldT (lawT c fs 7 x)), S ++ N) := by
  obtain ⟨N, h⟩ := f_read_term m hx S
  refine ⟨N, ?_⟩
  cases hl : lawT c fs 7 x with
  | none =>
    rw [hl] at h
    simp only at h
    simp [F__law_told_term, B__law_told_term, ev_try, h, toldT, badV0]
  | some T =>
    rw [hl] at h
    simp only at h
    simp [F__law_told_term, B__law_told_term, ev_try, h, toldT]
theorem f_told_non (m : MOk c fs) (S : Sto) : F__law_told_term [mD c fs, .non] S = some (.ok (.str BAD), S) := by
  have hnm := fun S => f_need_machine m S
  have h : F_read_term [mD c fs, .non] S = some (.error (.bad 0), S) := by
    simp [F_read_term, B_read_term, isiD, kindOf, truD, hnm]
  simp [F__law_told_term, B__law_told_term, ev_try, h, badV0]
theorem f_told_int (m : MOk c fs) (i : Int) (S : Sto) : F__law_told_term [mD c fs, .int i] S = some (.ok (.str BAD), S) := by
  have hnm := fun S => f_need_machine m S
  have h : F_read_term [mD c fs, .int i] S = some (.error (.bad 0), S) := by
    simp [F_read_term, B_read_term, isiD, kindOf, truD, hnm]
  simp [F__law_told_term, B__law_told_term, ev_try, h, badV0]
/-! ### wishes -/
abbrev HOLDS : List Nat := [32, 104, 111, 108, 100, 115, 32]
theorem cps_holds : (Str.ofString " holds ").cps.toList = HOLDS := by decide +kernel
abbrev Wi := Int × Tm
def wD (w : Wi) : D := .tup [.int w.1, dT w.2]
def wishOf (c : Nat) (fs x : List Nat) : Option Wi := match TL.spl HOLDS 0 [] x with
  | [a, b] => (match lawT c fs 0 a with
    | some (.c n) => (match lawT c fs 7 b with
      | some T => some ((n : Int), T)
      | none => none)
    | _ => none)
  | _ => none
def lateB (found : List Wi) (i : Int) : Bool := match found.getLast? with
  | some w => decide (i ≤ w.1)
  | none => false
def wStep (c : Nat) (fs : List Nat) (found : List Wi) (x : List Nat) : Option Wi := match wishOf c fs x with
  | some w => if lateB found w.1 = true then none else some w
  | none => none
def wLoop (c : Nat) (fs : List Nat) : Nat → List (List Nat) → List Wi → Except Int (List Wi)
  | _, [], found => .ok found
  | a, x :: r, found => match wStep c fs found x with
    | some w => wLoop c fs (a + 1) r (found ++ [w])
    | none => .error (a : Int)
theorem cel_law0 {p : List Nat} : lawT c fs 0 p = match celL p with
    | some i => cForm c i
    | none => none := rfl
theorem last_wD {found : List Wi} {w : Wi} (h : found.getLast? = some w) : atI (found.map wD) (-1) = some (wD w) := by
  rw [atI_last, List.getLast?_map, h]; rfl
theorem rw_step (m : MOk c fs) {S N : Sto} {found : List Wi} {x : List Nat} {a : Nat} {v1 v5 v6 v7 v8 : Option D} (hx : x.length ≤ 1000000) (hl : found.length < 16777216) :
    match wStep c fs found x with
    | some w => ∃ N' e5 e6 e7 e8, L_read_wishes_0 [some (mD c fs), v1, some (.mu S.length), some (.int (a : Int)), some (.str x), v5, v6, v7, v8] (S ++ .lst (found.map wD) :: N) =
        some (.nx, [some (mD c fs), v1, some (.mu S.length), some (.int (a : Int)), some (.str x), e5, e6, e7, e8], S ++ .lst ((found ++ [w]).map wD) :: N')
    | none => ∃ N' e', L_read_wishes_0 [some (mD c fs), v1, some (.mu S.length), some (.int (a : Int)), some (.str x), v5, v6, v7, v8] (S ++ .lst (found.map wD) :: N) =
        some (.ex (.bad (a : Int)), e', S ++ .lst (found.map wD) :: N') := by
  have hp := spl_part_len HOLDS x 0 []
  have hx2 : x.length + 2 ≤ 16777216 := by omega
  unfold wStep wishOf
  generalize hs : TL.spl HOLDS 0 [] x = ps at hp ⊢
  have hn := spl_ne HOLDS x 0 []
  rw [hs] at hn
  match ps, hp, hn with
  | [p], hp, _ =>
    have hpl : p.length ≤ 16777216 := by have := hp p (by simp); simp at this; omega
    have hca := fun S => f_cell_of p S hpl
    exact ⟨N, [some (mD c fs), v1, some (.mu S.length), some (.int (a : Int)), some (.str x), some (.lst [.str p]), some (oI (celL p)), v7, v8], by simp [L_read_wishes_0, sT, cps_holds, splitDD, okSep, hx2, hs, ixD, hca, lenD, neD, eqB_int]⟩
  | p :: q :: u :: r, hp, _ =>
    have hpl : p.length ≤ 16777216 := by have := hp p (by simp); simp at this; omega
    have hca := fun S => f_cell_of p S hpl
    have hl2 : ¬ ((r.length : Int) + 1 + 1 + 1 = 2) := by omega
    exact ⟨N, [some (mD c fs), v1, some (.mu S.length), some (.int (a : Int)), some (.str x), some (.lst ((p :: q :: u :: r).map .str)), some (oI (celL p)), v7, v8], by simp [L_read_wishes_0, sT, cps_holds, splitDD, okSep, hx2, hs, ixD, hca, lenD, neD, eqB_int, hl2]⟩
  | [p, q], hp, _ =>
    have hpl : p.length ≤ 16777216 := by have := hp p (by simp); simp at this; omega
    have hql : q.length ≤ 1000000 := by have := hp q (by simp); simp at this; omega
    have hql2 : q.length ≤ 16777216 := by omega
    have hca := fun S => f_cell_of p S hpl
    simp only
    rw [cel_law0]
    cases hc : celL p with
    | none =>
      rw [hc] at hca
      simp at hca
      exact ⟨N, [some (mD c fs), v1, some (.mu S.length), some (.int (a : Int)), some (.str x), some (.lst [.str p, .str q]), some .non, v7, v8], by simp [L_read_wishes_0, sT, cps_holds, splitDD, okSep, hx2, hs, ixD, hca, lenD, neD, eqB_int, isND, isN_non, isN_int]⟩
    | some i =>
      rw [hc] at hca
      simp at hca
      obtain ⟨n, n3, rfl, rfl⟩ := celL_iff.mp hc
      by_cases hnc : n < c
      · have hcf : cForm c (n : Int) = some (.c n) := by unfold cForm; rw [if_pos (by omega)]; simp
        have hci : ¬ (c : Int) ≤ (n : Int) := by omega
        simp only [hcf]
        obtain ⟨r, N1, h1, h2⟩ := f_term_at m hql 7 19 0 (S ++ .lst (found.map wD) :: N) (by omega)
        have h1' : F_term_at 20 [mD c fs, .str q, .int 0, .int 8] (S ++ .lst (found.map wD) :: N) = some (.ok r, S ++ .lst (found.map wD) :: N ++ N1) := h1
        simp at h1'
        unfold TaRes at h2
        rw [List.drop_zero] at h2
        cases hlate : lateB found (n : Int) with
        | true =>
          have hgoal : ∃ N' e', L_read_wishes_0 [some (mD c fs), v1, some (.mu S.length), some (.int (a : Int)), some (.str x), v5, v6, v7, v8] (S ++ .lst (found.map wD) :: N) = some (.ex (.bad (a : Int)), e', S ++ .lst (found.map wD) :: N') := by
            cases hg : found.getLast? with
            | none => simp [lateB, hg] at hlate
            | some w =>
              have hw : (n : Int) ≤ w.1 := by simpa [lateB, hg] using hlate
              have hat := last_wD hg
              have hne : found ≠ [] := fun z => by rw [z] at hg; cases hg
              exact ⟨N, [some (mD c fs), v1, some (.mu S.length), some (.int (a : Int)), some (.str x), some (.lst [.str [99, 48 + n], .str q]), some (.int (n : Int)), v7, v8], by simp [L_read_wishes_0, sT, cps_holds, splitDD, okSep, hx2, hs, ixD, hca, lenD, neD, eqB_int, isND, isN_non, isN_int, mD, intOp, hci, truD, der_mid, hne, hat, wD, hw]⟩
          cases lawT c fs 7 q with
          | none => exact hgoal
          | some T => simp only [hlate, if_true]; exact hgoal
        | false =>
          cases hp7 : prsT c fs 7 q with
          | none =>
            rw [hp7] at h2
            obtain ⟨z, rfl⟩ := h2
            have hl7 : lawT c fs 7 q = none := by
              cases e : lawT c fs 7 q with
              | none => rfl
              | some T => rw [← prs_law m] at e; rw [hp7] at e; cases e
            rw [hl7]
            refine ⟨N ++ N1, [some (mD c fs), v1, some (.mu S.length), some (.int (a : Int)), some (.str x), some (.lst [.str [99, 48 + n], .str q]), some (.int (n : Int)), some .non, some (.int (z : Int))], ?_⟩
            cases hg : found.getLast? with
            | none =>
              have hne : found = [] := by simpa using hg
              subst hne
              simp [mD] at h1'
              simp [L_read_wishes_0, sT, cps_holds, splitDD, okSep, hx2, hs, ixD, hca, lenD, neD, eqB_int, isND, isN_non, isN_int, mD, intOp, hci, truD, der_mid, h1', der]
            | some w =>
              have hw : ¬ (n : Int) ≤ w.1 := by simpa [lateB, hg] using hlate
              have hat := last_wD hg
              have hne : found ≠ [] := fun z => by rw [z] at hg; cases hg
              simp [mD] at h1'
              simp [L_read_wishes_0, sT, cps_holds, splitDD, okSep, hx2, hs, ixD, hca, lenD, neD, eqB_int, isND, isN_non, isN_int, mD, intOp, hci, truD, der_mid, hne, hat, wD, hw, h1']
          | some Tr =>
            obtain ⟨T, rest⟩ := Tr
            rw [hp7] at h2
            obtain ⟨z, rfl, g1, g2⟩ := h2
            have hnT := dT_notnon T
            by_cases hr : rest = []
            · subst hr
              have hq : z = q.length := by
                have := congrArg List.length g1
                simp at this; omega
              rw [(prs_law m 7 q T).mp hp7]
              simp only [hlate]
              refine ⟨N ++ N1, some (.lst [.str [99, 48 + n], .str q]), some (.int (n : Int)), some (dT T), some (.int (z : Int)), ?_⟩
              cases hg : found.getLast? with
              | none =>
                have hne : found = [] := by simpa using hg
                subst hne
                simp [mD] at h1'
                simp [L_read_wishes_0, sT, cps_holds, splitDD, okSep, hx2, hs, ixD, hca, lenD, neD, eqB_int, isND, isN_non, isN_int, mD, intOp, hci, truD, der_mid, h1', der, hnT, isN_non, hql2, hq, sAppend, isLst, eVar, wD]
              | some w =>
                have hw : ¬ (n : Int) ≤ w.1 := by simpa [lateB, hg] using hlate
                have hat := last_wD hg
                have hne : found ≠ [] := fun z => by rw [z] at hg; cases hg
                simp [mD] at h1'
                simp [L_read_wishes_0, sT, cps_holds, splitDD, okSep, hx2, hs, ixD, hca, lenD, neD, eqB_int, isND, isN_non, isN_int, mD, intOp, hci, truD, der_mid, hne, hat, wD, hw, h1', hnT, hql2, hq, sAppend, isLst, eVar, hl]
            · have hq : ¬ (z : Int) = (q.length : Int) := fun y => by
                have hq2 : z = q.length := by omega
                apply hr
                rw [← g1, hq2]
                simp
              have hl7 : lawT c fs 7 q = none := by
                cases e : lawT c fs 7 q with
                | none => rfl
                | some T' => rw [← prs_law m] at e; rw [hp7] at e; cases e; exact absurd rfl hr
              rw [hl7]
              refine ⟨N ++ N1, [some (mD c fs), v1, some (.mu S.length), some (.int (a : Int)), some (.str x), some (.lst [.str [99, 48 + n], .str q]), some (.int (n : Int)), some (dT T), some (.int (z : Int))], ?_⟩
              cases hg : found.getLast? with
              | none =>
                have hne : found = [] := by simpa using hg
                subst hne
                simp [mD] at h1'
                simp [L_read_wishes_0, sT, cps_holds, splitDD, okSep, hx2, hs, ixD, hca, lenD, neD, eqB_int, isND, isN_non, isN_int, mD, intOp, hci, truD, der_mid, h1', der, hnT, isN_non, hql2, hq]
              | some w =>
                have hw : ¬ (n : Int) ≤ w.1 := by simpa [lateB, hg] using hlate
                have hat := last_wD hg
                have hne : found ≠ [] := fun z => by rw [z] at hg; cases hg
                simp [mD] at h1'
                simp [L_read_wishes_0, sT, cps_holds, splitDD, okSep, hx2, hs, ixD, hca, lenD, neD, eqB_int, isND, isN_non, isN_int, mD, intOp, hci, truD, der_mid, hne, hat, wD, hw, h1', hnT, hql2, hq]
      · have hcf : cForm c (n : Int) = none := by unfold cForm; rw [if_neg (by omega)]
        have hci : (c : Int) ≤ (n : Int) := by omega
        simp only [hcf]
        exact ⟨N, [some (mD c fs), v1, some (.mu S.length), some (.int (a : Int)), some (.str x), some (.lst [.str [99, 48 + n], .str q]), some (.int (n : Int)), v7, v8], by simp [L_read_wishes_0, sT, cps_holds, splitDD, okSep, hx2, hs, ixD, hca, lenD, neD, eqB_int, isND, isN_non, isN_int, mD, intOp, hci]⟩
end
end L2.DL
-- part P13
set_option maxHeartbeats 4000000
/-! P13: wishes read: the loops. -/
namespace L2.DL
open PySem PySem.Spec PyProof.Rows
theorem toP_wD : ∀ ws : List Wi, (∀ w ∈ ws, dpT w.2 ≤ 60) → PyData.canLayAll0 (toPL (ws.map wD)) = true ∧ PyData.depthAll (toPL (ws.map wD)) ≤ 61
  | [], _ => by simp [toPL, PyData.canLayAll0, PyData.depthAll]
  | w :: ws, h => by
    obtain ⟨h1, h2⟩ := toP_wD ws fun w hw => h w (List.mem_cons_of_mem _ hw)
    obtain ⟨k1, k2⟩ := toP_term w.2
    have := h w List.mem_cons_self
    refine ⟨by simp [toPL, wD, toP, PyData.canLayAll0, PyData.canLay0, h1, k1], ?_⟩
    simp only [List.map_cons, wD, toPL, toP, PyData.depthAll, PyData.depth]
    omega
section
variable {c : Nat} {fs : List Nat}
theorem wd_eq {S N : Sto} {found : List Wi} (h : ∀ w ∈ found, dpT w.2 ≤ 60) : eqB (S ++ .lst (found.map wD) :: N) (.mu S.length) (.lst []) = some (decide (found = [])) := by
  obtain ⟨h1, h2⟩ := toP_wD found h
  have e1 : SeqAt.shaped (.list (toPL (found.map wD))) = true := by
    simp only [SeqAt.shaped, PyData.canLay0, h1, PyData.depth, Bool.true_and]
    exact decide_eq_true (by omega)
  have e2 : SeqAt.shaped (.list (toPL [])) = true := by decide
  simp only [eqB, der_mid, der_lst]
  rw [if_pos (by rw [e1, e2]; rfl)]
  cases found with
  | nil => rfl
  | cons w ws => rfl
theorem wish_dp {x : List Nat} {w : Wi} (h : wishOf c fs x = some w) : dpT w.2 ≤ 8 := by
  unfold wishOf at h
  split at h
  · split at h
    · split at h
      · rename_i T hT
        cases h
        exact (lawT_inv 7 _ _ hT).2.1
      · cases h
    · cases h
  · cases h
theorem wStep_dp {found : List Wi} {x : List Nat} {w : Wi} (h : wStep c fs found x = some w) : dpT w.2 ≤ 60 := by
  unfold wStep at h
  split at h
  · rename_i w' hw
    split at h
    · cases h
    · cases h
      have := wish_dp hw
      omega
  · cases h
theorem lw_step (m : MOk c fs) {S N : Sto} {found : List Wi} {x : List Nat} {Ls : List (List Nat)} {a : Nat} {v1 v5 v6 v7 : Option D} (hx : x.length ≤ 1000000) (hl : found.length < 16777216) (hdp : ∀ w ∈ found, dpT w.2 ≤ 60) (hxa : Ls[a]? = some x) :
    match wStep c fs found x with
    | some w => ∃ e5 e6 e7, L__law_read_wishes_0 [some (mD c fs), v1, some (.lst (Ls.map .str)), some (.mu S.length), some (.int (a : Int)), v5, v6, v7] (S ++ .lst (found.map wD) :: N) =
        some (.nx, [some (mD c fs), v1, some (.lst (Ls.map .str)), some (.mu S.length), some (.int (a : Int)), e5, e6, e7], S ++ .lst ((found ++ [w]).map wD) :: N)
    | none => ∃ e', L__law_read_wishes_0 [some (mD c fs), v1, some (.lst (Ls.map .str)), some (.mu S.length), some (.int (a : Int)), v5, v6, v7] (S ++ .lst (found.map wD) :: N) =
        some (.rt (.int (a : Int)), e', S ++ .lst (found.map wD) :: N) := by
  have hp := spl_part_len HOLDS x 0 []
  have hx2 : x.length + 2 ≤ 16777216 := by omega
  have hix : atI (Ls.map D.str) (a : Int) = some (.str x) := by rw [atI_nat, List.getElem?_map, hxa]; rfl
  have H1 : ∀ (p : List Nat) (S : Sto), p.length ≤ 1000000 → F__law_term 20 [mD c fs, .str p, .int 1] S = some (.ok (oT (lawT c fs 0 p)), S) := fun p S h => f_law_term m 0 19 p S (by omega) (by omega) h
  have H8 : ∀ (p : List Nat) (S : Sto), p.length ≤ 1000000 → F__law_term 20 [mD c fs, .str p, .int 8] S = some (.ok (oT (lawT c fs 7 p)), S) := fun p S h => f_law_term m 7 19 p S (by omega) (by omega) h
  have hwd := wd_eq (S := S) (N := N) hdp
  unfold wStep wishOf
  generalize hs : TL.spl HOLDS 0 [] x = ps at hp ⊢
  have hn := spl_ne HOLDS x 0 []
  rw [hs] at hn
  match ps, hp, hn with
  | [p], hp, _ =>
    have hpl : p.length ≤ 1000000 := by have := hp p (by simp); simp at this; omega
    have hca := fun S => H1 p S hpl
    cases hA : lawT c fs 0 p with
    | none =>
      rw [hA] at hca
      exact ⟨[some (mD c fs), v1, some (.lst (Ls.map .str)), some (.mu S.length), some (.int (a : Int)), some (.lst [.str p]), some .non, some .non], by simp [L__law_read_wishes_0, sT, cps_holds, splitDD, okSep, hx2, hs, ixD, hix, hca, oT, lenD, eqD, eqB_int, isND, isN_non]⟩
    | some T =>
      rw [hA] at hca
      have hnT := dT_notnon T
      exact ⟨[some (mD c fs), v1, some (.lst (Ls.map .str)), some (.mu S.length), some (.int (a : Int)), some (.lst [.str p]), some (dT T), some .non], by simp [L__law_read_wishes_0, sT, cps_holds, splitDD, okSep, hx2, hs, ixD, hix, hca, oT, lenD, eqD, eqB_int, isND, isN_non, hnT]⟩
  | p :: q :: u :: r, hp, _ =>
    have hpl : p.length ≤ 1000000 := by have := hp p (by simp); simp at this; omega
    have hca := fun S => H1 p S hpl
    have hl2 : ¬ ((r.length : Int) + 1 + 1 + 1 = 2) := by omega
    cases hA : lawT c fs 0 p with
    | none =>
      rw [hA] at hca
      exact ⟨[some (mD c fs), v1, some (.lst (Ls.map .str)), some (.mu S.length), some (.int (a : Int)), some (.lst ((p :: q :: u :: r).map .str)), some .non, some .non], by simp [L__law_read_wishes_0, sT, cps_holds, splitDD, okSep, hx2, hs, ixD, hix, hca, oT, lenD, eqD, eqB_int, isND, isN_non, hl2]⟩
    | some T =>
      rw [hA] at hca
      have hnT := dT_notnon T
      exact ⟨[some (mD c fs), v1, some (.lst (Ls.map .str)), some (.mu S.length), some (.int (a : Int)), some (.lst ((p :: q :: u :: r).map .str)), some (dT T), some .non], by simp [L__law_read_wishes_0, sT, cps_holds, splitDD, okSep, hx2, hs, ixD, hix, hca, oT, lenD, eqD, eqB_int, isND, isN_non, hnT, hl2]⟩
  | [p, q], hp, _ =>
    have hpl : p.length ≤ 1000000 := by have := hp p (by simp); simp at this; omega
    have hql : q.length ≤ 1000000 := by have := hp q (by simp); simp at this; omega
    have hca := fun S => H1 p S hpl
    have hcb := fun S => H8 q S hql
    simp only
    cases hA : lawT c fs 0 p with
    | none =>
      rw [hA] at hca
      exact ⟨[some (mD c fs), v1, some (.lst (Ls.map .str)), some (.mu S.length), some (.int (a : Int)), some (.lst [.str p, .str q]), some .non, some (oT (lawT c fs 7 q))], by simp [L__law_read_wishes_0, sT, cps_holds, splitDD, okSep, hx2, hs, ixD, hix, hca, hcb, oT, lenD, eqD, eqB_int, isND, isN_non]⟩
    | some U =>
      obtain ⟨n, hn, hc, rfl⟩ := law0_iff.mp hA
      rw [hA] at hca
      simp only
      cases hB : lawT c fs 7 q with
      | none =>
        rw [hB] at hcb
        exact ⟨[some (mD c fs), v1, some (.lst (Ls.map .str)), some (.mu S.length), some (.int (a : Int)), some (.lst [.str p, .str q]), some (.int (n : Int)), some .non], by simp [L__law_read_wishes_0, sT, cps_holds, splitDD, okSep, hx2, hs, ixD, hix, hca, hcb, oT, dT, lenD, eqD, eqB_int, isND, isN_non, isN_int]⟩
      | some T =>
        rw [hB] at hcb
        have hnT := dT_notnon T
        simp only
        cases hg : found.getLast? with
        | none =>
          have hne : found = [] := by simpa using hg
          subst hne
          simp at hwd
          simp only [lateB, hg]
          exact ⟨some (.lst [.str p, .str q]), some (.int (n : Int)), some (dT T), by simp [L__law_read_wishes_0, sT, cps_holds, splitDD, okSep, hx2, hs, ixD, hix, hca, hcb, oT, dT, lenD, eqD, neD, eqB_int, isND, isN_non, isN_int, hnT, hwd, sAppend, isLst, eVar, wD]⟩
        | some w =>
          have hat := last_wD hg
          have hne : found ≠ [] := fun z => by rw [z] at hg; cases hg
          rw [decide_eq_false hne] at hwd
          by_cases hw : (n : Int) ≤ w.1
          · have hlt : lateB found (n : Int) = true := by simp [lateB, hg, hw]
            simp only [hlt, if_true]
            exact ⟨[some (mD c fs), v1, some (.lst (Ls.map .str)), some (.mu S.length), some (.int (a : Int)), some (.lst [.str p, .str q]), some (.int (n : Int)), some (dT T)], by simp [L__law_read_wishes_0, sT, cps_holds, splitDD, okSep, hx2, hs, ixD, hix, hca, hcb, oT, dT, lenD, eqD, neD, eqB_int, isND, isN_non, isN_int, hnT, hwd, der_mid, hat, wD, intOp, hw]⟩
          · have hlt : lateB found (n : Int) = false := by simp [lateB, hg]; omega
            simp only [hlt]
            exact ⟨some (.lst [.str p, .str q]), some (.int (n : Int)), some (dT T), by simp [L__law_read_wishes_0, sT, cps_holds, splitDD, okSep, hx2, hs, ixD, hix, hca, hcb, oT, dT, lenD, eqD, neD, eqB_int, isND, isN_non, isN_int, hnT, hwd, der_mid, hat, wD, intOp, hw, sAppend, isLst, eVar, hl]⟩
theorem rw_loop (m : MOk c fs) {S : Sto} {v1 : Option D} : ∀ (r : List (List Nat)) (a : Nat) (found : List Wi) (N : Sto) (v3 v4 v5 v6 v7 v8 : Option D), (∀ x ∈ r, x.length ≤ 1000000) → found.length + r.length < 16777216 →
    ∃ e' N', forD (gTupD [3, 4]) L_read_wishes_0 (enumL a (r.map .str)) [some (mD c fs), v1, some (.mu S.length), v3, v4, v5, v6, v7, v8] (S ++ .lst (found.map wD) :: N) = some ((match wLoop c fs a r found with | .ok _ => .nx | .error n => .ex (.bad n)), e', S ++ N') ∧
      ∀ ws, wLoop c fs a r found = .ok ws → e'[2]? = some (some (.mu S.length)) ∧ ∃ N2, N' = .lst (ws.map wD) :: N2
  | [], a, found, N, v3, v4, v5, v6, v7, v8, _, _ => ⟨_, _, rfl, fun ws h => by simp only [wLoop] at h; cases h; exact ⟨rfl, N, rfl⟩⟩
  | x :: r, a, found, N, v3, v4, v5, v6, v7, v8, hx, hl => by
    simp only [List.length_cons] at hl
    have hs := rw_step m (S := S) (N := N) (found := found) (x := x) (a := a) (v1 := v1) (v5 := v5) (v6 := v6) (v7 := v7) (v8 := v8) (hx x List.mem_cons_self) (by omega)
    rw [List.map_cons, enumL, ev_for_cons, ev_gtup]
    simp only [List.length_cons, List.length_nil, if_true, setAll_cons, setAll_nil, List.set_cons_succ, List.set_cons_zero, wLoop]
    cases hw : wStep c fs found x with
    | none =>
      rw [hw] at hs
      obtain ⟨N', e', h⟩ := hs
      dsimp only
      rw [h]
      exact ⟨e', _, rfl, fun ws h => by cases h⟩
    | some w =>
      rw [hw] at hs
      obtain ⟨N', e5, e6, e7, e8, h⟩ := hs
      dsimp only
      rw [h]
      exact rw_loop m r (a + 1) (found ++ [w]) N' _ _ e5 e6 e7 e8 (fun x hx' => hx x (List.mem_cons_of_mem _ hx')) (by simp; omega)
theorem lw_loop (m : MOk c fs) {S N : Sto} {v1 : Option D} {Ls : List (List Nat)} : ∀ (r : List (List Nat)) (a : Nat) (found : List Wi) (v4 v5 v6 v7 : Option D), Ls.drop a = r → (∀ x ∈ Ls, x.length ≤ 1000000) → found.length + r.length < 16777216 → (∀ w ∈ found, dpT w.2 ≤ 60) →
    ∃ e' N', forD (gNameD 4) L__law_read_wishes_0 (rgL (a : Int) r.length) [some (mD c fs), v1, some (.lst (Ls.map .str)), some (.mu S.length), v4, v5, v6, v7] (S ++ .lst (found.map wD) :: N) = some ((match wLoop c fs a r found with | .ok _ => .nx | .error n => .rt (.int n)), e', S ++ N') ∧
      ∀ ws, wLoop c fs a r found = .ok ws → e'[3]? = some (some (.mu S.length)) ∧ ∃ N2, N' = .lst (ws.map wD) :: N2
  | [], a, found, v4, v5, v6, v7, _, _, _, _ => ⟨_, _, rfl, fun ws h => by simp only [wLoop] at h; cases h; exact ⟨rfl, N, rfl⟩⟩
  | x :: r, a, found, v4, v5, v6, v7, hd, hx, hl, hdp => by
    have hxa : Ls[a]? = some x := by
      have := congrArg (fun l => l[0]?) hd
      simpa using this
    have hd' : Ls.drop (a + 1) = r := by
      have := congrArg List.tail hd
      simpa using this
    simp only [List.length_cons] at hl
    have hs := lw_step m (S := S) (N := N) (found := found) (x := x) (Ls := Ls) (a := a) (v1 := v1) (v5 := v5) (v6 := v6) (v7 := v7) (hx x (List.mem_of_getElem? hxa)) (by omega) hdp hxa
    rw [List.length_cons, rgL_cons, ev_for_cons, ev_gname]
    simp only [List.set_cons_succ, List.set_cons_zero, wLoop]
    cases hw : wStep c fs found x with
    | none =>
      rw [hw] at hs
      obtain ⟨e', h⟩ := hs
      dsimp only
      rw [h]
      exact ⟨e', _, rfl, fun ws h => by cases h⟩
    | some w =>
      rw [hw] at hs
      obtain ⟨e5, e6, e7, h⟩ := hs
      dsimp only
      rw [h]
      have e : ((a : Int) + 1) = ((a + 1 : Nat) : Int) := by omega
      rw [e]
      exact lw_loop m r (a + 1) (found ++ [w]) _ e5 e6 e7 hd' hx (by simp; omega) (fun u hu => by
        rcases List.mem_append.mp hu with h | h
        · exact hdp u h
        · rw [List.mem_singleton.mp h]; exact wStep_dp hw)
end
end L2.DL
-- part P14
set_option maxHeartbeats 4000000
/-! P14: wishes read; what is alike to itself. -/
namespace L2.DL
open PySem PySem.Spec PyProof.Rows
section
variable {c : Nat} {fs : List Nat}
def wishesN (c : Nat) (fs x : List Nat) : Except Int (List Wi) := match linesN x with
  | .error n => .error n
  | .ok L => wLoop c fs 0 L []
def resW : Except Int (List Wi) → Except Ex D
  | .ok ws => .ok (.tup (ws.map wD))
  | .error n => .error (.bad n)
def resWL : Except Int (List Wi) → D
  | .ok ws => .tup (ws.map wD)
  | .error n => .int n
theorem lines_len {x : List Nat} {L : List (List Nat)} (h : linesN x = .ok L) : (∀ p ∈ L, p.length ≤ x.length) ∧ L.length ≤ x.length + 1 := by
  have hLs : L = TL.spl [10] 0 [] x.dropLast := by
    unfold linesN at h
    split at h
    · cases h
    · split at h
      · cases h; rfl
      · cases h
  constructor
  · intro p hp
    rw [hLs] at hp
    have := spl_part_len [10] x.dropLast 0 [] p hp
    simp at this; omega
  · rw [hLs]
    have := spl_len [10] x.dropLast 0 []
    simp at this; omega
theorem f_read_wishes (m : MOk c fs) (x : List Nat) (S : Sto) (hx : x.length ≤ 100000) : ∃ N, F_read_wishes [mD c fs, .str x] S = some (resW (wishesN c fs x), S ++ N) := by
  have hlines := fun S => f_lines_of x S (by omega)
  have hnm := fun S => f_need_machine m S
  unfold wishesN
  cases hL : linesN x with
  | error n =>
    rw [hL] at hlines
    exact ⟨[.lst []], by simp [F_read_wishes, B_read_wishes, hnm, ev_forEX, hlines, exL, resW]⟩
  | ok L =>
    rw [hL] at hlines
    obtain ⟨l1, l2⟩ := lines_len hL
    obtain ⟨e', N', hfor, hok⟩ := rw_loop m (S := S) (v1 := some (.str x)) L 0 [] [] none none none none none none (fun p hp => by have := l1 p hp; omega) (by simp; omega)
    simp only [L_read_wishes_0, List.map_nil] at hfor
    refine ⟨N', ?_⟩
    cases hw : wLoop c fs 0 L [] with
    | error n =>
      rw [hw] at hfor
      simp at hfor
      simp [F_read_wishes, B_read_wishes, hnm, ev_forEX, hlines, exL, resW, hfor, hw]
    | ok ws =>
      rw [hw] at hfor
      obtain ⟨h2, N2, rfl⟩ := hok ws hw
      have hv : ∀ S', eVar 2 e' S' = some (.mu S.length, S') := fun S' => by simp only [eVar, h2]
      simp at hfor
      simp [F_read_wishes, B_read_wishes, hnm, ev_forEX, hlines, exL, resW, hfor, hw, hv, tupDD, der_mid]
theorem f_law_read_wishes (m : MOk c fs) (x : List Nat) (S : Sto) (hx : x.length ≤ 100000) : ∃ N, F__law_read_wishes [mD c fs, .str x] S = some (.ok (resWL (wishesN c fs x)), S ++ N) := by
  have hlines := fun S => f_law_lines x S (by omega)
  unfold wishesN
  cases hL : linesN x with
  | error n =>
    rw [hL] at hlines
    exact ⟨[.lst []], by simp [F__law_read_wishes, B__law_read_wishes, hlines, exI, resWL, isiD, kindOf, truD]⟩
  | ok L =>
    rw [hL] at hlines
    obtain ⟨l1, l2⟩ := lines_len hL
    obtain ⟨e', N', hfor, hok⟩ := lw_loop m (S := S) (N := []) (v1 := some (.str x)) (Ls := L) L 0 [] none none none none rfl (fun p hp => by have := l1 p hp; omega) (by simp; omega) (by simp)
    simp only [L__law_read_wishes_0, List.map_nil] at hfor
    have hin : inRg (L.length : Int) = true := by simp [inRg]; omega
    refine ⟨N', ?_⟩
    cases hw : wLoop c fs 0 L [] with
    | error n =>
      rw [hw] at hfor
      simp at hfor
      simp [F__law_read_wishes, B__law_read_wishes, hlines, exI, resWL, isiD, kindOf, truD, lenD, hin, hfor, hw]
    | ok ws =>
      rw [hw] at hfor
      obtain ⟨h2, N2, rfl⟩ := hok ws hw
      have hv : ∀ S', eVar 3 e' S' = some (.mu S.length, S') := fun S' => by simp only [eVar, h2]
      simp at hfor
      simp [F__law_read_wishes, B__law_read_wishes, hlines, exI, resWL, isiD, kindOf, truD, lenD, hin, hfor, hw, hv, tupDD, der_mid]
/-! ### values that are no text -/
theorem f_lines_non (S : Sto) : F_lines_of [.non] S = some (.error (.bad 0), S) := by simp [F_lines_of, B_lines_of, isiD, kindOf, truD]
theorem f_lines_int (i : Int) (S : Sto) : F_lines_of [.int i] S = some (.error (.bad 0), S) := by simp [F_lines_of, B_lines_of, isiD, kindOf, truD]
theorem f_ll_non (S : Sto) : F__law_lines [.non] S = some (.ok (.int 0), S) := by simp [F__law_lines, B__law_lines, isiD, kindOf, truD]
theorem f_ll_int (i : Int) (S : Sto) : F__law_lines [.int i] S = some (.ok (.int 0), S) := by simp [F__law_lines, B__law_lines, isiD, kindOf, truD]
/-- a value that the readers refuse at once -/
def NoText (v : D) : Prop := v = .non ∨ ∃ i, v = .int i
theorem f_lines_no {v : D} (h : NoText v) (S : Sto) : F_lines_of [v] S = some (.error (.bad 0), S) := by
  rcases h with rfl | ⟨i, rfl⟩
  · exact f_lines_non S
  · exact f_lines_int i S
theorem f_ll_no {v : D} (h : NoText v) (S : Sto) : F__law_lines [v] S = some (.ok (.int 0), S) := by
  rcases h with rfl | ⟨i, rfl⟩
  · exact f_ll_non S
  · exact f_ll_int i S
theorem f_rp_no {v : D} (h : NoText v) (S : Sto) : F_read_program [v] S = some (.error (.bad 0), S) := by
  have := fun S => f_lines_no h S
  simp [F_read_program, B_read_program, ev_setx, this]
theorem f_lr_no {v : D} (h : NoText v) (S : Sto) : F__law_read [v] S = some (.ok (.int 0), S) := by
  have := fun S => f_ll_no h S
  simp [F__law_read, B__law_read, this, isiD, kindOf, truD]
theorem f_rw_no (m : MOk c fs) {v : D} (h : NoText v) (S : Sto) : ∃ N, F_read_wishes [mD c fs, v] S = some (.error (.bad 0), S ++ N) := by
  have := fun S => f_lines_no h S
  have hnm := fun S => f_need_machine m S
  exact ⟨[.lst []], by simp [F_read_wishes, B_read_wishes, hnm, ev_forEX, this]⟩
theorem f_lw_no {v : D} (h : NoText v) (M : D) (S : Sto) : ∃ N, F__law_read_wishes [M, v] S = some (.ok (.int 0), S ++ N) := by
  have := fun S => f_ll_no h S
  exact ⟨[.lst []], by simp [F__law_read_wishes, B__law_read_wishes, this, isiD, kindOf, truD]⟩
end
/-! ### alike -/
def Nic : Nat → D → Prop
  | 0, d => (match d with
    | .non => True
    | .int _ => True
    | .str _ => True
    | _ => False)
  | k + 1, d => (match d with
    | .non => True
    | .int _ => True
    | .str _ => True
    | .tup xs => xs.length ≤ 1000000 ∧ ∀ x ∈ xs, Nic k x
    | .lst xs => xs.length ≤ 1000000 ∧ ∀ x ∈ xs, Nic k x
    | _ => False)
theorem al_int (F : DF) (i : Int) (S : Sto) : denF 3 2 (B__law_alike F) [.int i, .int i] S = some (.ok (.bl true), S) := by
  simp [B__law_alike, isi2D, isiD, kindOf, truD, isND, isNB, eqD, eqB]
theorem al_str (F : DF) (x : List Nat) (S : Sto) : denF 3 2 (B__law_alike F) [.str x, .str x] S = some (.ok (.bl true), S) := by
  simp [B__law_alike, isi2D, isiD, kindOf, truD, isND, isNB, eqD, eqB]
theorem al_non (F : DF) (S : Sto) : denF 3 2 (B__law_alike F) [.non, .non] S = some (.ok (.bl true), S) := by
  simp [B__law_alike, isi2D, isiD, kindOf, truD, isND, isNB, eqD, eqB]
theorem al_comp (F : DF) {xs : List D} {t : D} (ht : t = .tup xs ∨ t = .lst xs) (h : ∀ x ∈ xs, ∀ S, F [x, x] S = some (.ok (.bl true), S)) (S : Sto) (env : DEnv) (he : env.length = 3) (e0 : env[0]? = some (some t)) (e1 : env[1]? = some (some t)) :
    compD (gNameD 2) (bNot (bTru (eCall F (aCons (eOp ixD (eVar 0) (eVar 2)) (aCons (eOp ixD (eVar 1) (eVar 2)) aNil))))) (eVar 2) [2] (rgL 0 xs.length) env S = some ([], S) := by
  have e : ([] : List D) = ((rgL 0 xs.length).filter fun _ => false).map id := by simp
  rw [e]
  refine comp_filt fun d hd => ?_
  unfold rgL at hd
  obtain ⟨i, hi, rfl⟩ := List.mem_map.mp hd
  have hi' : i < xs.length := List.mem_range.mp hi
  have hx := h _ (List.getElem_mem hi')
  have hat : atI xs ((0 : Int) + (i : Int)) = some xs[i] := by rw [Int.zero_add, atI_nat, List.getElem?_eq_getElem hi']
  match env, he, e0, e1 with
  | [a0, a1, a2], _, e0, e1 =>
    have q0 : a0 = some t := by simpa using e0
    have q1 : a1 = some t := by simpa using e1
    subst q0 q1
    refine ⟨_, rfl, ?_, fun z => by cases z⟩
    rcases ht with rfl | rfl
    · simp at hat
      simp [wipeD, ixD, hat, hx, truD]
    · simp at hat
      simp [wipeD, ixD, hat, hx, truD]
theorem f_alike : ∀ (k : Nat) (d : D) (S : Sto), Nic k d → F__law_alike (k + 1) [d, d] S = some (.ok (.bl true), S)
  | 0, d, S, h => by
    show denF 3 2 (B__law_alike _) [d, d] S = _
    match d, h with
    | .non, _ => exact al_non _ S
    | .int i, _ => exact al_int _ i S
    | .str x, _ => exact al_str _ x S
  | k + 1, d, S, h => by
    show denF 3 2 (B__law_alike (F__law_alike (k + 1))) [d, d] S = _
    match d, h with
    | .non, _ => exact al_non _ S
    | .int i, _ => exact al_int _ i S
    | .str x, _ => exact al_str _ x S
    | .tup xs, h =>
      have hc := fun S => al_comp (F__law_alike (k + 1)) (t := .tup xs) (.inl rfl) (fun x hx S => f_alike k x S (h.2 x hx)) S
      have hl := h.1
      have hin : inRg (xs.length : Int) = true := by simp [inRg]; omega
      have q : ∀ S, eqB S (.lst []) (.lst []) = some true := fun S => lst_eq (ws := []) (vs := []) (by simp) (by simp)
      have qb : ∀ S (b b' : Bool), eqB S (.bl b) (.bl b') = some (b == b') := fun _ _ _ => rfl
      simp [B__law_alike, isi2D, isiD, kindOf, truD, neD, eqD, qb, eqB_int, lenD, hin, hc, q]
    | .lst xs, h =>
      have hc := fun S => al_comp (F__law_alike (k + 1)) (t := .lst xs) (.inr rfl) (fun x hx S => f_alike k x S (h.2 x hx)) S
      have hl := h.1
      have hin : inRg (xs.length : Int) = true := by simp [inRg]; omega
      have q : ∀ S, eqB S (.lst []) (.lst []) = some true := fun S => lst_eq (ws := []) (vs := []) (by simp) (by simp)
      have qb : ∀ S (b b' : Bool), eqB S (.bl b) (.bl b') = some (b == b') := fun _ _ _ => rfl
      simp [B__law_alike, isi2D, isiD, kindOf, truD, neD, eqD, qb, eqB_int, lenD, hin, hc, q]
theorem Nic.mono : ∀ {k : Nat} {d : D}, Nic k d → Nic (k + 1) d
  | 0, d, h => by cases d <;> first | exact trivial | exact h.elim
  | k + 1, d, h => by
    cases d <;> first | exact trivial | exact ⟨h.1, fun x hx => Nic.mono (h.2 x hx)⟩ | exact h.elim
theorem Nic.le {k j : Nat} (h : k ≤ j) {d : D} (n : Nic k d) : Nic j d := by
  induction h with
  | refl => exact n
  | step _ ih => exact ih.mono
end L2.DL
-- part P15
set_option maxHeartbeats 4000000
/-! P15: the row. -/
namespace L2.DL
open PySem PySem.Spec PyProof.Rows
def Rw (ns : List Int) (S : Sto) : Prop := ∃ i s r tl, S = .lst [.scr ns, .int i, .int s, .int r] :: tl ∧ 0 ≤ i
theorem Rw.app {ns : List Int} {S : Sto} (h : Rw ns S) (N : Sto) : Rw ns (S ++ N) := by
  obtain ⟨i, s, r, tl, rfl, hi⟩ := h
  exact ⟨i, s, r, tl ++ N, rfl, hi⟩
theorem fmod_nat (a : Int) {m : Nat} (hm : 1 ≤ m) : ∃ r : Nat, r < m ∧ a.fmod (m : Int) = (r : Int) := by
  have h1 := Int.fmod_nonneg_of_pos a (show (0 : Int) < (m : Int) by omega)
  have h2 := Int.fmod_lt_of_pos a (show (0 : Int) < (m : Int) by omega)
  exact ⟨(a.fmod (m : Int)).toNat, by omega, by omega⟩
theorem ix43 : ixN 4 3 = some 3 := by decide
theorem ix42 : ixN 4 2 = some 2 := by decide
theorem ix41 : ixN 4 1 = some 1 := by decide
theorem f_taken {ns : List Int} {S : Sto} {m : Nat} (h : Rw ns S) (hm : 1 ≤ m) (hm2 : m < 1000000000) : ∃ (r : Nat) (S' : Sto), F__law_taken [.mu 0, .int (m : Int)] S = some (.ok (.int (r : Int)), S') ∧ r < m ∧ Rw ns S' := by
  obtain ⟨i, s, r, tl, rfl, hi⟩ := h
  have hm0 : ¬ (m : Int) = 0 := by omega
  have hmn : ¬ m = 0 := by omega
  have hmb : m < 1073741824 := by omega
  by_cases hr : 0 < r
  · obtain ⟨q, q1, q2⟩ := fmod_nat r hm
    refine ⟨q, .lst [.scr ns, .int i, .int s, .int (r.fdiv (m : Int))] :: tl, ?_, q1, i, s, _, tl, rfl, hi⟩
    simp [F__law_taken, B__law_taken, ixD, der, intOp, intDD, hr, q2, sSetIx, ix43, hmn, hmb]
  · by_cases hl : (ns.length : Int) < i + 1
    · obtain ⟨q, q1, q2⟩ := fmod_nat (((s * 48271 + 11).fmod 2147483647).fdiv 7) hm
      refine ⟨q, .lst [.scr ns, .int (i + 1), .int ((s * 48271 + 11).fmod 2147483647), .int r] :: tl, ?_, q1, _, _, _, tl, rfl, by omega⟩
      simp [F__law_taken, B__law_taken, ixD, der, intOp, intDD, addD, lenD, hr, hl, q2, sSetIx, ix43, ix42, ix41, hmn, hmb]
    · obtain ⟨n, rfl⟩ := Int.eq_ofNat_of_zero_le hi
      have hn : n < ns.length := by omega
      have hat : atI ns (n : Int) = some ns[n] := by rw [atI_nat, List.getElem?_eq_getElem hn]
      generalize ns[n] = v at hat
      obtain ⟨q, q1, q2⟩ := fmod_nat v hm
      by_cases hv : (10 : Int) ^ 18 ≤ v
      · refine ⟨q, .lst [.scr ns, .int ((n : Int) + 1), .int ((s * 48271 + v + 11).fmod 2147483647), .int (v.fdiv (m : Int))] :: tl, ?_, q1, _, _, _, tl, rfl, by omega⟩
        simp at hv
        simp [F__law_taken, B__law_taken, ixD, der, intOp, intDD, addD, lenD, hr, hl, q2, sSetIx, ix43, ix42, ix41, hmn, hmb, hat, hv]
      · refine ⟨q, .lst [.scr ns, .int ((n : Int) + 1), .int ((s * 48271 + v + 11).fmod 2147483647), .int r] :: tl, ?_, q1, _, _, _, tl, rfl, by omega⟩
        simp at hv
        have hv' : ¬ (1000000000000000000 : Int) ≤ v := by omega
        simp [F__law_taken, B__law_taken, ixD, der, intOp, intDD, addD, lenD, hr, hl, q2, sSetIx, ix43, ix42, ix41, hmn, hmb, hat, hv']
theorem f_pick {ns : List Int} {S : Sto} {xs : List D} (h : Rw ns S) (hx : xs ≠ []) (hl : xs.length < 1000000000) : ∃ d ∈ xs, ∃ S', F__law_pick [.mu 0, .lst xs] S = some (.ok d, S') ∧ Rw ns S' := by
  have hl1 : 1 ≤ xs.length := Nat.pos_of_ne_zero fun z => hx (List.eq_nil_of_length_eq_zero z)
  obtain ⟨r, S', h1, h2, h3⟩ := f_taken h hl1 hl
  refine ⟨xs[r], List.getElem_mem h2, S', ?_, h3⟩
  have hat : atI xs (r : Int) = some xs[r] := by rw [atI_nat, List.getElem?_eq_getElem h2]
  simp [F__law_pick, B__law_pick, lenD, h1, ixD, hat]
/-- a comprehension whose parts may turn the row -/
theorem comp_row {I : Sto → Prop} {R : D → Prop} {g : D → DEnv → Option DEnv} {t : BM} {fe : EM} {vs : List Nat} {env : DEnv} : ∀ {ds : List D} {S : Sto}, I S → (∀ d ∈ ds, ∀ S, I S → ∃ e b S1, g d (wipeD env vs) = some e ∧ t e S = some (b, S1) ∧ I S1 ∧ (b = true → ∃ y S2, fe e S1 = some (y, S2) ∧ I S2 ∧ R y)) →
    ∃ ys S', compD g t fe vs ds env S = some (ys, S') ∧ I S' ∧ (∀ y ∈ ys, R y) ∧ ys.length ≤ ds.length
  | [], S, hI, _ => ⟨[], S, rfl, hI, by simp, by simp⟩
  | d :: ds, S, hI, h => by
    obtain ⟨e, b, S1, h1, h2, h3, h4⟩ := h d List.mem_cons_self S hI
    cases b with
    | true =>
      obtain ⟨y, S2, h5, h6, h7⟩ := h4 rfl
      obtain ⟨ys, S', k1, k2, k3, k4⟩ := comp_row h6 fun d hd => h d (List.mem_cons_of_mem _ hd)
      refine ⟨y :: ys, S', by simp [compD, h1, h2, h5, k1], k2, fun z hz => ?_, by simp; omega⟩
      rcases List.mem_cons.mp hz with e | e
      · rw [e]; exact h7
      · exact k3 z e
    | false =>
      obtain ⟨ys, S', k1, k2, k3, k4⟩ := comp_row h3 fun d hd => h d (List.mem_cons_of_mem _ hd)
      exact ⟨ys, S', by simp [compD, h1, h2, k1], k2, k3, by simp; omega⟩
/-- the same when nothing is left out -/
theorem comp_rowN {I : Sto → Prop} {R : D → Prop} {g : D → DEnv → Option DEnv} {fe : EM} {vs : List Nat} {env : DEnv} : ∀ {ds : List D} {S : Sto}, I S → (∀ d ∈ ds, ∀ S, I S → ∃ e y S2, g d (wipeD env vs) = some e ∧ fe e S = some (y, S2) ∧ I S2 ∧ R y) →
    ∃ ys S', compD g bYes fe vs ds env S = some (ys, S') ∧ I S' ∧ (∀ y ∈ ys, R y) ∧ ys.length = ds.length
  | [], S, hI, _ => ⟨[], S, rfl, hI, by simp, rfl⟩
  | d :: ds, S, hI, h => by
    obtain ⟨e, y, S2, h1, h5, h6, h7⟩ := h d List.mem_cons_self S hI
    obtain ⟨ys, S', k1, k2, k3, k4⟩ := comp_rowN h6 fun d hd => h d (List.mem_cons_of_mem _ hd)
    refine ⟨y :: ys, S', by simp [compD, h1, bYes, h5, k1], k2, fun z hz => ?_, by simp; omega⟩
    rcases List.mem_cons.mp hz with e | e
    · rw [e]; exact h7
    · exact k3 z e
/-- ints below a bound -/
theorem nats_of {p : Nat → Prop} : ∀ {ys : List D}, (∀ y ∈ ys, ∃ n : Nat, y = .int (n : Int) ∧ p n) → ∃ l : List Nat, ys = intsD l ∧ (∀ n ∈ l, p n) ∧ l.length = ys.length
  | [], _ => ⟨[], rfl, by simp, rfl⟩
  | y :: ys, h => by
    obtain ⟨n, rfl, hn⟩ := h y List.mem_cons_self
    obtain ⟨l, h1, h2, h3⟩ := nats_of fun y hy => h y (List.mem_cons_of_mem _ hy)
    exact ⟨n :: l, by rw [h1]; rfl, fun k hk => by
      rcases List.mem_cons.mp hk with e | e
      · rw [e]; exact hn
      · exact h2 k e, by simp [h3]⟩
structure MLaw (c : Nat) (fs : List Nat) : Prop where
  c1 : 1 ≤ c
  c3 : c ≤ 3
  f1 : 1 ≤ fs.length
  f2 : fs.length ≤ 2
  fr : ∀ r ∈ fs, 1 ≤ r ∧ r ≤ 2
theorem MLaw.ok {c : Nat} {fs : List Nat} (m : MLaw c fs) : MOk c fs := ⟨m.c1, by have := m.c3; omega, m.f1, by have := m.f2; omega, m.fr⟩
theorem rgL_len (lo : Int) (n : Nat) : (rgL lo n).length = n := by simp [rgL]
theorem f_machine {ns : List Int} {S : Sto} (h : Rw ns S) : ∃ c fs S', F__law_machine [.mu 0] S = some (.ok (mD c fs), S') ∧ MLaw c fs ∧ Rw ns S' := by
  obtain ⟨r1, S1, a1, a2, a3⟩ := f_taken (m := 3) h (by omega) (by omega)
  obtain ⟨r2, S2, b1, b2, b3⟩ := f_taken (m := 2) a3 (by omega) (by omega)
  obtain ⟨ys, S3, c1, c2, c3, c4⟩ := comp_rowN (I := Rw ns) (R := fun y => ∃ n : Nat, y = .int (n : Int) ∧ 1 ≤ n ∧ n ≤ 2) (g := gNameD 1) (fe := eOp addD (eC (.int 1)) (eCall F__law_taken (aCons (eVar 0) (aCons (eC (.int 2)) aNil)))) (vs := [1]) (env := [some (.mu 0), none]) (ds := rgL 0 (1 + r2)) b3 fun d hd S hS => by
    obtain ⟨r, S', k1, k2, k3⟩ := f_taken (m := 2) hS (by omega) (by omega)
    simp at k1
    exact ⟨_, .int (((1 + r : Nat)) : Int), S', rfl, by simp [wipeD, k1, addD], k3, 1 + r, rfl, by omega, by omega⟩
  obtain ⟨l, l1, l2, l3⟩ := nats_of c3
  subst l1
  simp at a1 b1
  have hin : inRg ((1 : Int) + (r2 : Int)) = true := by simp [inRg]; omega
  have hto : ((1 : Int) + (r2 : Int)).toNat = 1 + r2 := by omega
  have hll : l.length = 1 + r2 := by rw [l3, c4, rgL_len]
  have hl4 : l.length ≤ 16777216 := by omega
  refine ⟨1 + r1, l, S3, ?_, ⟨by omega, by omega, by omega, by omega, l2⟩, c2⟩
  simp [F__law_machine, B__law_machine, a1, b1, addD, hin, hto, c1, tupDD, mD, hl4]
end L2.DL
-- part P16
set_option maxHeartbeats 4000000
/-! P16: lines, programs that the law draws. -/
namespace L2.DL
open PySem PySem.Spec PyProof.Rows
def L__law_program_0 : SM := sSeq (sSet 5 (eCall F__law_line (aCons (eVar 0) (aCons (eVar 1) aNil)))) (sSet 3 (eOp addD (eVar 3) (eIf (bOf (eOp eqD (eCall F__law_taken (aCons (eVar 0) (aCons (eC (.int 3)) aNil))) (eC (.int 0)))) (eTup (aCons (eVar 5) (aCons (eVar 5) aNil))) (eTup (aCons (eVar 5) aNil)))))
abbrev NL := Nat × Option Nat × List Nat
def toLn (l : NL) : Ln := ((l.1 : Int), l.2.1.map (fun (g : Nat) => (g : Int)), l.2.2.map fun (s : Nat) => some (s : Int))
def nlD (l : NL) : D := lnD (toLn l)
structure NOk (c : Nat) (fs : List Nat) (l : NL) : Prop where
  cell : l.1 < c
  srcs : ∀ s ∈ l.2.2, s < c
  none_ : l.2.1 = none → ∃ s, l.2.2 = [s] ∧ s ≠ l.1
  some_ : ∀ g, l.2.1 = some g → fs[g]? = some l.2.2.length
theorem srcs_D (l : List Nat) : (l.map fun (s : Nat) => some (s : Int)).map oI = intsD l := by
  simp [intsD, oI]
theorem NOk.line {c : Nat} {fs : List Nat} {l : NL} (h : NOk c fs l) : lineOk c fs (toLn l).1 (toLn l).2.1 (toLn l).2.2 = true := by
  obtain ⟨cell, fn, srcs⟩ := l
  have h1 := h.cell
  have hall : (srcs.map fun (s : Nat) => some (s : Int)).all (srcOk c) = true := by
    rw [List.all_eq_true]
    intro o ho
    obtain ⟨s, hs, rfl⟩ := List.mem_map.mp ho
    have := h.srcs s hs
    simp [srcOk]; omega
  simp only at h1
  have q1 : (0 : Int) ≤ (cell : Int) := by omega
  have q2 : (cell : Int) ≤ (c : Int) - 1 := by omega
  rw [lineOk_eq]
  simp only [toLn, hall, q1, q2, decide_true, Bool.true_and]
  cases fn with
  | none =>
    obtain ⟨s, hs, hne⟩ := h.none_ rfl
    simp only at hs
    subst hs
    simp only at hne
    have : ¬ (s : Int) = (cell : Int) := by omega
    simp [this]
  | some g =>
    have hg := h.some_ g rfl
    simp only at hg
    have hgl := (List.getElem?_eq_some_iff.mp hg).1
    simp only [Option.map_some, Int.toNat_natCast, hg, List.length_map, decide_true, Bool.and_true]
    simp; omega
/-- a for with an invariant -/
theorem for_inv {J : Nat → DEnv → Sto → Prop} {g : D → DEnv → Option DEnv} {b : SM} : ∀ (ds : List D) (k : Nat) (env : DEnv) (S : Sto), J k env S →
    (∀ (i : Nat) (d : D) (env : DEnv) (S : Sto), ds[i]? = some d → J (k + i) env S → ∃ e1 env2 S2, g d env = some e1 ∧ b e1 S = some (.nx, env2, S2) ∧ J (k + i + 1) env2 S2) →
    ∃ env' S', forD g b ds env S = some (.nx, env', S') ∧ J (k + ds.length) env' S'
  | [], k, env, S, hJ, _ => ⟨env, S, rfl, hJ⟩
  | d :: ds, k, env, S, hJ, h => by
    obtain ⟨e1, env2, S2, h1, h2, h3⟩ := h 0 d env S rfl hJ
    obtain ⟨env', S', k1, k2⟩ := for_inv ds (k + 1) env2 S2 h3 fun i d env S hd hJ => by
      have e : k + 1 + i = k + (i + 1) := by omega
      rw [e] at hJ ⊢
      exact h (i + 1) d env S (by simpa using hd) hJ
    refine ⟨env', S', ?_, ?_⟩
    · rw [ev_for_cons, h1]
      dsimp only
      rw [h2]
      exact k1
    · have e : k + (d :: ds).length = k + 1 + ds.length := by simp; omega
      rw [e]; exact k2
def neInt (a : Nat) : D → Bool
  | .int i => !(i == (a : Int))
  | _ => false
section
variable {c : Nat} {fs : List Nat}
theorem others {a : Nat} (hc1 : 1 < c) (hc : c ≤ 3) : (∀ d ∈ (rgL 0 c).filter (neInt a), ∃ s : Nat, d = .int (s : Int) ∧ s < c ∧ s ≠ a) ∧ (rgL 0 c).filter (neInt a) ≠ [] ∧ ((rgL 0 c).filter (neInt a)).length ≤ 3 := by
  refine ⟨fun d hd => ?_, fun z => ?_, ?_⟩
  · obtain ⟨h1, h2⟩ := List.mem_filter.mp hd
    unfold rgL at h1
    obtain ⟨i, hi, rfl⟩ := List.mem_map.mp h1
    refine ⟨i, by simp, List.mem_range.mp hi, fun z => ?_⟩
    subst z
    simp [neInt] at h2
  · rw [List.filter_eq_nil_iff] at z
    obtain ⟨b, hb, hba⟩ : ∃ b : Nat, b < c ∧ b ≠ a := by
      by_cases ha : a = 0
      · exact ⟨1, by omega, by omega⟩
      · exact ⟨0, by omega, fun q => ha q.symm⟩
    refine z (.int (b : Int)) ?_ ?_
    · unfold rgL
      exact List.mem_map.mpr ⟨b, List.mem_range.mpr hb, by simp⟩
    · simp [neInt]; omega
  · have := List.length_filter_le (neInt a) (rgL 0 c)
    rw [rgL_len] at this
    omega
theorem comp_oth {a : Nat} (S : Sto) (env : DEnv) (he : env.length = 8) (e4 : env[4]? = some (some (.int (a : Int)))) : compD (gNameD 5) (bOf (eOp neD (eVar 5) (eVar 4))) (eVar 5) [5] (rgL 0 c) env S = some ((rgL 0 c).filter (neInt a), S) := by
  have e : (rgL 0 c).filter (neInt a) = ((rgL 0 c).filter (neInt a)).map id := by simp
  rw [e]
  refine comp_filt fun d hd => ?_
  unfold rgL at hd
  obtain ⟨i, hi, rfl⟩ := List.mem_map.mp hd
  match env, he, e4 with
  | [x0, x1, x2, x3, x4, x5, x6, x7], _, e4 =>
    have q4 : x4 = some (.int (a : Int)) := by simpa using e4
    subst q4
    exact ⟨_, rfl, by simp [wipeD, neD, eqB_int, neInt], fun _ => by simp [wipeD]⟩
theorem line_second (m : MLaw c fs) {ns : List Int} : ∀ S : Sto, Rw ns S → ∃ (g a : Nat) (l : List Nat) (S1 S2 S3 : Sto), F__law_taken [.mu 0, .int (fs.length : Int)] S = some (.ok (.int (g : Int)), S1) ∧ F__law_taken [.mu 0, .int (c : Int)] S1 = some (.ok (.int (a : Int)), S2) ∧
      g < fs.length ∧ a < c ∧ (∀ env : DEnv, env.length = 8 → env[0]? = some (some (.mu 0)) → env[2]? = some (some (.int (c : Int))) → compD (gNameD 7) bYes (eCall F__law_taken (aCons (eVar 0) (aCons (eVar 2) aNil))) [7] (rgL 0 (fs[g]?.getD 0)) env S2 = some (intsD l, S3)) ∧ (∀ s ∈ l, s < c) ∧ l.length = fs[g]?.getD 0 ∧ Rw ns S3 := by
  have hc1 := m.c1
  have hc3 := m.c3
  intro S h
  obtain ⟨g, S1, a1, a2, a3⟩ := f_taken (m := fs.length) h m.f1 (by have := m.f2; omega)
  obtain ⟨a, S2, b1, b2, b3⟩ := f_taken (m := c) a3 hc1 (by omega)
  obtain ⟨ys, S3, c1, c2, c3, c4⟩ := comp_rowN (I := Rw ns) (R := fun y => ∃ n : Nat, y = .int (n : Int) ∧ n < c) (g := gNameD 7) (fe := eCall F__law_taken (aCons (eVar 0) (aCons (eVar 2) aNil))) (vs := [7]) (env := [some (.mu 0), some (mD c fs), some (.int (c : Int)), some (.tup (intsD fs)), none, none, some (.int (g : Int)), none]) (ds := rgL 0 (fs[g]?.getD 0)) b3 fun d hd S hS => by
    obtain ⟨r, S', k1, k2, k3⟩ := f_taken (m := c) hS hc1 (by omega)
    exact ⟨_, .int (r : Int), S', rfl, by simp [wipeD, k1], k3, r, rfl, k2⟩
  obtain ⟨l, l1, l2, l3⟩ := nats_of c3
  subst l1
  refine ⟨g, a, l, S1, S2, S3, a1, b1, a2, b2, fun env he e0 e2 => ?_, l2, by rw [l3, c4, rgL_len], c2⟩
  have hsame : ∀ (ds : List D) (S : Sto) (env env' : DEnv), env.length = 8 → env'.length = 8 → env[0]? = env'[0]? → env[2]? = env'[2]? → compD (gNameD 7) bYes (eCall F__law_taken (aCons (eVar 0) (aCons (eVar 2) aNil))) [7] ds env S = compD (gNameD 7) bYes (eCall F__law_taken (aCons (eVar 0) (aCons (eVar 2) aNil))) [7] ds env' S := by
    intro ds
    induction ds with
    | nil => intros; rfl
    | cons d ds ih =>
      intro S env env' h8 h8' h0 h2
      match env, env', h8, h8' with
      | [x0, x1, x2, x3, x4, x5, x6, x7], [y0, y1, y2, y3, y4, y5, y6, y7], _, _ =>
        have q0 : x0 = y0 := by simpa using h0
        have q2 : x2 = y2 := by simpa using h2
        subst q0 q2
        have ih' := fun S => ih S [x0, x1, x2, x3, x4, x5, x6, x7] [x0, y1, x2, y3, y4, y5, y6, y7] rfl rfl rfl rfl
        have hev : ∀ (S : Sto) (z1 z3 z4 z5 z6 z7 : Option D), eCall F__law_taken (aCons (eVar 0) (aCons (eVar 2) aNil)) [x0, z1, x2, z3, z4, z5, z6, z7] S = eCall F__law_taken (aCons (eVar 0) (aCons (eVar 2) aNil)) [x0, none, x2, none, none, none, none, none] S := fun S z1 z3 z4 z5 z6 z7 => by
          cases x0 <;> cases x2 <;> simp [eCall, aCons, eVar]
        simp only [compD, wipeD, gNameD, List.set_cons_succ, List.set_cons_zero, Option.bind_some, bYes, if_true]
        rw [hev S x1 x3 x4 x5 x6, hev S y1 y3 y4 y5 y6]
        simp only [ih']
  rw [← c1]
  exact hsame _ _ _ _ he rfl (by rw [e0]; rfl) (by rw [e2]; rfl)
theorem line_fun {S0 S T1 T2 T3 : Sto} {g a kk : Nat} {l : List Nat} (hkk : kk ≤ 2) (hg2 : (intsD fs)[g]? = some (.int (kk : Int)))
    (hc : (¬ 1 < (c : Int) ∧ S0 = S) ∨ (1 < (c : Int) ∧ ∃ r : Nat, r ≠ 0 ∧ F__law_taken [.mu 0, .int 4] S0 = some (.ok (.int (r : Int)), S)))
    (t1 : F__law_taken [.mu 0, .int (fs.length : Int)] S = some (.ok (.int ((g : Nat) : Int)), T1)) (t2 : F__law_taken [.mu 0, .int (c : Int)] T1 = some (.ok (.int ((a : Nat) : Int)), T2))
    (t4 : ∀ env : DEnv, env.length = 8 → env[0]? = some (some (.mu 0)) → env[2]? = some (some (.int (c : Int))) → compD (gNameD 7) bYes (eCall F__law_taken (aCons (eVar 0) (aCons (eVar 2) aNil))) [7] (rgL 0 kk) env T2 = some (intsD l, T3)) (t5 : l.length = kk) :
    F__law_line [.mu 0, mD c fs] S0 = some (.ok (nlD (a, some g, l)), T3) := by
  have hin : inRg (kk : Int) = true := by simp [inRg]; omega
  have hll : l.length ≤ 16777216 := by omega
  rcases hc with ⟨hc, rfl⟩ | ⟨hc, r, hr, a1⟩
  · simp [F__law_line, B__law_line, mD, intOp, hc, eqD, eqB_int, lenD_tup, t1, t2, ixD, atI_nat, hg2, hin, t4, hll, tupDD, nlD, lnD, lineD, toLn, -List.map_map, srcs_D]
  · simp [F__law_line, B__law_line, mD, intOp, hc, a1, eqD, eqB_int, hr, lenD_tup, t1, t2, ixD, atI_nat, hg2, hin, t4, hll, tupDD, nlD, lnD, lineD, toLn, -List.map_map, srcs_D]
theorem ev_pickE {F : DF} {E : EM} {env : DEnv} {S2 S3 : Sto} {zs : List D} {d : D} (h0 : eVar 0 env S2 = some (.mu 0, S2)) (h2 : E env S2 = some (.lst zs, S2)) (c1 : F [.mu 0, .lst zs] S2 = some (.ok d, S3)) : eCall F (aCons (eVar 0) (aCons E aNil)) env S2 = some (d, S3) := by
  simp only [ev_call, ev_acons, h0, h2, ev_anil, c1]
theorem ev_compR {env : DEnv} {S : Sto} {n : Nat} {i : Nat} {g : D → DEnv → Option DEnv} {t : BM} {fe : EM} {vs : List Nat} {zs : List D} (h2 : eVar i env S = some (.int (n : Int), S)) (hin : inRg (n : Int) = true) (hc : compD g t fe vs (rgL 0 n) env S = some (zs, S)) (hzl : zs.length ≤ 16777216) :
    eComp (rg1 (aCons (eVar i) aNil)) g t fe vs env S = some (.lst zs, S) := by
  simp only [ev_comp, ev_rg1, ev_acons, h2, ev_anil, hin, if_true, Int.toNat_natCast, hc, hzl]
theorem ev_tup31 {e1 e2 e3 : EM} {env : DEnv} {S S' : Sto} {a b x : D} (h1 : e1 env S = some (a, S)) (h2 : e2 env S = some (b, S)) (h3 : e3 env S = some (x, S')) : sRet (eTup (aCons e1 (aCons e2 (aCons (eTup (aCons e3 aNil)) aNil)))) env S = some (.rt (.tup [a, b, .tup [x]]), env, S') := by
  simp [h1, h2, h3]
theorem line_h1 {S1 S2 : Sto} {a : Nat} (b1 : F__law_taken [.mu 0, .int (c : Int)] S1 = some (.ok (.int (a : Int)), S2)) : sSet 4 (eCall F__law_taken (aCons (eVar 0) (aCons (eVar 2) aNil))) [some (.mu 0), some (mD c fs), some (.int (c : Int)), some (.tup (intsD fs)), none, none, none, none] S1 = some (.nx, [some (.mu 0), some (mD c fs), some (.int (c : Int)), some (.tup (intsD fs)), some (.int (a : Int)), none, none, none], S2) := by
  simp only [ev_set, ev_call, ev_acons, ev_var0, ev_var, ev_anil, b1, List.set_cons_succ, List.set_cons_zero]
theorem line_C {S0 S1 : Sto} (hc : 1 < (c : Int)) (a1 : F__law_taken [.mu 0, .int 4] S0 = some (.ok (.int 0), S1)) : bAnd (bOf (eOp gtD (eVar 2) (eC (.int 1)))) (bOf (eOp eqD (eCall F__law_taken (aCons (eVar 0) (aCons (eC (.int 4)) aNil))) (eC (.int 0)))) [some (.mu 0), some (mD c fs), some (.int (c : Int)), some (.tup (intsD fs)), none, none, none, none] S0 = some (true, S1) := by
  simp [intOp, hc, a1, eqD, eqB_int]
theorem line_T {S1 S2 S3 : Sto} {a s : Nat} {zs : List D} (hin : inRg (c : Int) = true) (b1 : F__law_taken [.mu 0, .int (c : Int)] S1 = some (.ok (.int (a : Int)), S2)) (hcf : compD (gNameD 5) (bOf (eOp neD (eVar 5) (eVar 4))) (eVar 5) [5] (rgL 0 c) [some (.mu 0), some (mD c fs), some (.int (c : Int)), some (.tup (intsD fs)), some (.int (a : Int)), none, none, none] S2 = some (zs, S2)) (hzl : zs.length ≤ 16777216)
    (c1 : F__law_pick [.mu 0, .lst zs] S2 = some (.ok (.int (s : Int)), S3)) : sSeq (sSet 4 (eCall F__law_taken (aCons (eVar 0) (aCons (eVar 2) aNil)))) (sRet (eTup (aCons (eVar 4) (aCons (eC .non) (aCons (eTup (aCons (eCall F__law_pick (aCons (eVar 0) (aCons (eComp (rg1 (aCons (eVar 2) aNil)) (gNameD 5) (bOf (eOp neD (eVar 5) (eVar 4))) (eVar 5) [5]) aNil))) aNil)) aNil))))) [some (.mu 0), some (mD c fs), some (.int (c : Int)), some (.tup (intsD fs)), none, none, none, none] S1 = some (.rt (.tup [.int (a : Int), .non, .tup [.int (s : Int)]]), [some (.mu 0), some (mD c fs), some (.int (c : Int)), some (.tup (intsD fs)), some (.int (a : Int)), none, none, none], S3) := by
  simp only [ev_seq, line_h1 b1]
  exact ev_tup31 rfl rfl (ev_pickE rfl (ev_compR rfl hin hcf hzl) c1)
theorem line_move {S0 S1 S2 S3 : Sto} {a s : Nat} (hc1 : 1 < c) (hc3 : c ≤ 3) (a1 : F__law_taken [.mu 0, .int 4] S0 = some (.ok (.int 0), S1)) (b1 : F__law_taken [.mu 0, .int (c : Int)] S1 = some (.ok (.int (a : Int)), S2))
    (c1 : F__law_pick [.mu 0, .lst ((rgL 0 c).filter (neInt a))] S2 = some (.ok (.int (s : Int)), S3)) : F__law_line [.mu 0, mD c fs] S0 = some (.ok (nlD (a, none, [s])), S3) := by
  have hlen := (others (a := a) (c := c) hc1 hc3).2.2
  have hin : inRg (c : Int) = true := by simp [inRg]; omega
  have hT := line_T (fs := fs) hin b1 (comp_oth (c := c) (a := a) S2 _ rfl rfl) (by omega) c1
  have hC := line_C (c := c) (fs := fs) (by omega) a1
  have hA : sAsg (gTupD [2,3]) (eVar 1) [some (.mu 0), some (mD c fs), none, none, none, none, none, none] S0 = some (.nx, [some (.mu 0), some (mD c fs), some (.int (c : Int)), some (.tup (intsD fs)), none, none, none, none], S0) := rfl
  have hD : nlD (a, none, [s]) = .tup [.int (a : Int), .non, .tup [.int (s : Int)]] := rfl
  rw [hD]
  unfold F__law_line B__law_line
  simp only [ev_denF, List.length_cons, List.length_nil, startD_eq, List.map_cons, List.map_nil, List.replicate, List.cons_append, List.nil_append, if_true, ev_seq, ev_if, hA, hC]
  rw [← ev_seq, hT]
theorem f_law_line (m : MLaw c fs) {ns : List Int} {S : Sto} (h : Rw ns S) : ∃ l S', F__law_line [.mu 0, mD c fs] S = some (.ok (nlD l), S') ∧ NOk c fs l ∧ Rw ns S' := by
  have hc1 := m.c1
  have hc3 := m.c3
  have fin : ∀ S1, Rw ns S1 → ((¬ 1 < (c : Int) ∧ S = S1) ∨ (1 < (c : Int) ∧ ∃ r : Nat, r ≠ 0 ∧ F__law_taken [.mu 0, .int 4] S = some (.ok (.int (r : Int)), S1))) → ∃ l S', F__law_line [.mu 0, mD c fs] S = some (.ok (nlD l), S') ∧ NOk c fs l ∧ Rw ns S' := fun S1 hS hor => by
    obtain ⟨g, a, l, T1, T2, T3, h1, h2, h3, h4, h5, h6, h7, h8⟩ := line_second m S1 hS
    have hm := m.fr fs[g] (List.getElem_mem h3)
    have e : fs[g]?.getD 0 = fs[g] := by rw [List.getElem?_eq_getElem h3]; rfl
    rw [e] at h5 h7
    refine ⟨(a, some g, l), T3, line_fun hm.2 (by simp [intsD, h3]) hor h1 h2 h5 h7, ⟨h4, h6, fun z => (by cases z), fun g' hg => ?_⟩, h8⟩
    cases hg
    rw [List.getElem?_eq_getElem h3, h7]
  by_cases hc : 1 < (c : Int)
  · obtain ⟨r, S1, a1, a2, a3⟩ := f_taken (m := 4) h (by omega) (by omega)
    have a1 : F__law_taken [.mu 0, .int 4] S = some (.ok (.int (r : Int)), S1) := by simpa using a1
    by_cases hr : r = 0
    · subst hr
      have a1 : F__law_taken [.mu 0, .int 4] S = some (.ok (.int 0), S1) := by simpa using a1
      obtain ⟨a, S2, b1, b2, b3⟩ := f_taken (m := c) a3 hc1 (by omega)
      obtain ⟨hmem, hne, hlen⟩ := others (a := a) (c := c) (by omega) hc3
      obtain ⟨d, hd, S3, c1, c2⟩ := f_pick b3 hne (by omega)
      obtain ⟨s, rfl, s1, s2⟩ := hmem d hd
      exact ⟨(a, none, [s]), S3, line_move (by omega) hc3 a1 b1 c1, ⟨b2, fun t ht => by rw [List.mem_singleton.mp ht]; exact s1, fun _ => ⟨s, rfl, s2⟩, fun g hg => by cases hg⟩, c2⟩
    · exact fin S1 a3 (.inr ⟨hc, r, hr, a1⟩)
  · exact fin S h (.inl ⟨hc, rfl⟩)
end
end L2.DL
-- part P17
set_option maxHeartbeats 4000000
/-! P17: programs that the law draws. -/
namespace L2.DL
open PySem PySem.Spec PyProof.Rows
section
variable {c : Nat} {fs : List Nat}
@[simp] theorem cut_to6 {α : Type} (x : List α) : cutG x none (some 6) = x.take 6 := cut_to x 6
theorem lp_step (m : MLaw c fs) {ns : List Int} {S : Sto} (h : Rw ns S) (ls : List NL) (hl : ∀ l ∈ ls, NOk c fs l) (hn : ls.length ≤ 1000) (v4 v5 : Option D) :
    ∃ (ls' : List NL) (v5' : Option D) (S' : Sto), L__law_program_0 [some (.mu 0), some (mD c fs), some (.int 6), some (.tup (ls.map nlD)), v4, v5] S = some (.nx, [some (.mu 0), some (mD c fs), some (.int 6), some (.tup (ls'.map nlD)), v4, v5'], S') ∧ (∀ l ∈ ls', NOk c fs l) ∧ ls'.length ≤ ls.length + 2 ∧ Rw ns S' := by
  obtain ⟨l, S1, a1, a2, a3⟩ := f_law_line m h
  obtain ⟨r, S2, b1, b2, b3⟩ := f_taken (m := 3) a3 (by omega) (by omega)
  have b1 : F__law_taken [.mu 0, .int 3] S1 = some (.ok (.int (r : Int)), S2) := b1
  by_cases hr : r = 0
  · subst hr
    have hz : ls.length + 1 + 1 ≤ 16777216 := by omega
    refine ⟨ls ++ [l, l], some (nlD l), S2, ?_, fun x hx => ?_, by simp, b3⟩
    · simp [L__law_program_0, a1, b1, eqD, eqB_int, addD, hz]
    · rcases List.mem_append.mp hx with q | q
      · exact hl x q
      · simp at q; rw [q]; exact a2
  · have hr' : ¬ (r : Int) = 0 := by omega
    have hz : ls.length + 1 ≤ 16777216 := by omega
    refine ⟨ls ++ [l], some (nlD l), S2, ?_, fun x hx => ?_, by simp, b3⟩
    · simp [L__law_program_0, a1, b1, eqD, eqB_int, addD, hz, hr]
    · rcases List.mem_append.mp hx with q | q
      · exact hl x q
      · simp at q; rw [q]; exact a2
theorem f_law_program (m : MLaw c fs) {ns : List Int} {S : Sto} (h : Rw ns S) : ∃ (ls : List NL) (S' : Sto), F__law_program [.mu 0, mD c fs, .int 6] S = some (.ok (.tup (ls.map nlD)), S') ∧ (∀ l ∈ ls, NOk c fs l) ∧ ls.length ≤ 6 ∧ Rw ns S' := by
  obtain ⟨r, S1, a1, a2, a3⟩ := f_taken (m := 7) h (by omega) (by omega)
  have a1 : F__law_taken [.mu 0, .int 7] S = some (.ok (.int (r : Int)), S1) := a1
  obtain ⟨env', S2, b1, b2⟩ := for_inv (J := fun k env S => ∃ (ls : List NL) (v4 v5 : Option D), env = [some (.mu 0), some (mD c fs), some (.int 6), some (.tup (ls.map nlD)), v4, v5] ∧ (∀ l ∈ ls, NOk c fs l) ∧ ls.length ≤ 2 * k ∧ k ≤ 400 ∧ Rw ns S) (g := gNameD 4) (b := L__law_program_0) (rgL 0 r) 0 [some (.mu 0), some (mD c fs), some (.int 6), some (.tup []), none, none] S1 ⟨[], none, none, rfl, by simp, by simp, by omega, a3⟩ (fun i d env S hd ⟨ls, v4, v5, he, h1, h2, h3, h4⟩ => by
    subst he
    have hi : i < r := by
      have := (List.getElem?_eq_some_iff.mp hd).1
      rwa [rgL_len] at this
    obtain ⟨ls', v5', S', k1, k2, k3, k4⟩ := lp_step m h4 ls h1 (by omega) (some d) v5
    exact ⟨_, _, S', rfl, k1, ls', some d, v5', rfl, k2, by omega, by omega, k4⟩)
  obtain ⟨ls, v4, v5, rfl, h1, h2, h3, h4⟩ := b2
  have hin : inRg (r : Int) = true := by simp [inRg]; omega
  refine ⟨ls.take 6, S2, ?_, fun l hl => h1 l (List.mem_of_mem_take hl), by simp; omega, h4⟩
  simp only [L__law_program_0] at b1
  have e7 : (6 : Int) + 1 = 7 := rfl
  simp [F__law_program, B__law_program, addD, a1, hin, b1, slD, List.map_take]
end
end L2.DL
-- part PH
set_option maxHeartbeats 4000000
/-! PH: helpers. -/
namespace L2.DL
open PySem PySem.Spec PyProof.Rows
/-! ### comprehensions that map -/
theorem eVar_set {env : DEnv} {i : Nat} {d : D} {S : Sto} (hi : i < env.length) : eVar i (env.set i (some d)) S = some (d, S) := by
  unfold eVar
  rw [List.getElem?_set_self hi]
theorem comp_val {α : Type} {g h : α → D} {fe : EM} {i : Nat} {env : DEnv} {S : Sto} : ∀ {xs : List α}, (∀ a ∈ xs, fe (env.set i (some (g a))) S = some (h a, S)) → compD (gNameD i) bYes fe [i] (xs.map g) env S = some (xs.map h, S)
  | [], _ => rfl
  | a :: xs, H => by
    have h1 := H a List.mem_cons_self
    have ih := comp_val (xs := xs) fun b hb => H b (List.mem_cons_of_mem _ hb)
    simp only [List.map_cons, compD, wipeD, gNameD, List.set_set, Option.bind_some, bYes, if_true, h1, ih, Option.map_some]
theorem ev_compV {α : Type} {src : AM} {g h : α → D} {fe : EM} {i : Nat} {env : DEnv} {S S' : Sto} {xs : List α} (hs : src env S = some (xs.map g, S')) (H : ∀ a ∈ xs, fe (env.set i (some (g a))) S' = some (h a, S')) (hl : xs.length ≤ 16777216) :
    eComp src (gNameD i) bYes fe [i] env S = some (.lst (xs.map h), S') := by
  rw [ev_comp, hs]
  simp only [comp_val H, List.length_map, hl, if_true]
theorem sum_le {k : Nat} : ∀ {ys : List (List Nat)}, (∀ y ∈ ys, y.length ≤ k) → (ys.map (·.length)).sum ≤ ys.length * k
  | [], _ => by simp
  | y :: ys, h => by
    have h1 := h y List.mem_cons_self
    have ih := sum_le (ys := ys) fun z hz => h z (List.mem_cons_of_mem _ hz)
    simp only [List.map_cons, List.sum_cons, List.length_cons, Nat.succ_mul]
    omega
theorem ev_join {sep : List Nat} {fs fe : EM} {env : DEnv} {S S' : Sto} {ys : List (List Nat)} {k : Nat} (h0 : fs env S = some (.str sep, S)) (h1 : fe env S = some (.lst (ys.map .str), S')) (hk : ∀ y ∈ ys, y.length ≤ k) (hb : ys.length * (k + sep.length) ≤ 16777216) : eM1 joinDD fs fe env S = some (.str (TL.joinL sep ys), S') := by
  have hs := sum_le hk
  rw [Nat.mul_add] at hb
  have hb2 : (ys.map (·.length)).sum + ys.length * sep.length ≤ 16777216 := by omega
  rw [ev_m1, h0]
  simp only [h1, joinDD, der_lst, strsOf_map, Option.bind_some, hb2, if_true]
theorem joinL_len {sep : List Nat} {k : Nat} : ∀ {ys : List (List Nat)}, (∀ y ∈ ys, y.length ≤ k) → (TL.joinL sep ys).length ≤ ys.length * (k + sep.length)
  | [], _ => by simp [TL.joinL]
  | [p], h => by
    have := h p List.mem_cons_self
    simp [TL.joinL]; omega
  | p :: q :: r, h => by
    have h1 := h p List.mem_cons_self
    have ih := joinL_len (sep := sep) (ys := q :: r) fun y hy => h y (List.mem_cons_of_mem _ hy)
    simp only [TL.joinL, List.length_append, List.length_cons, Nat.succ_mul] at ih ⊢
    omega
section
variable {env : DEnv} {S : Sto}
theorem seq_nx {f g : SM} {e : DEnv} {s : Sto} {r : Option (Out × DEnv × Sto)} (h : f env S = some (.nx, e, s)) (h2 : g e s = r) : sSeq f g env S = r := by
  rw [ev_seq, h]; exact h2
theorem set_nx {fe : EM} {i : Nat} {d : D} {s : Sto} (h : fe env S = some (d, s)) : sSet i fe env S = some (.nx, env.set i (some d), s) := by
  rw [ev_set, h]
theorem seq_rt {f g : SM} {e : DEnv} {s : Sto} {d : D} (h : f env S = some (.rt d, e, s)) : sSeq f g env S = some (.rt d, e, s) := by
  rw [ev_seq, h]
theorem seq_ex {f g : SM} {e : DEnv} {s : Sto} {x : Ex} (h : f env S = some (.ex x, e, s)) : sSeq f g env S = some (.ex x, e, s) := by
  rw [ev_seq, h]
theorem if_t {fb : BM} {f g : SM} {s : Sto} (h : fb env S = some (true, s)) : sIf fb f g env S = f env s := by
  rw [ev_if, h]; rfl
theorem if_f {fb : BM} {f g : SM} {s : Sto} (h : fb env S = some (false, s)) : sIf fb f g env S = g env s := by
  rw [ev_if, h]; rfl
theorem ret_rt {fe : EM} {d : D} {s : Sto} (h : fe env S = some (d, s)) : sRet fe env S = some (.rt d, env, s) := by
  rw [ev_ret, h]
theorem den_rt {nN n : Nat} {B : SM} {ds : List D} {e : DEnv} {s : Sto} {d : D} (hl : ds.length = n) (hB : B (startD nN ds) S = some (.rt d, e, s)) : denF nN n B ds S = some (.ok d, s) := by
  rw [ev_denF, if_pos hl, hB]
theorem den_nx {nN n : Nat} {B : SM} {ds : List D} {e : DEnv} {s : Sto} (hl : ds.length = n) (hB : B (startD nN ds) S = some (.nx, e, s)) : denF nN n B ds S = some (.ok .non, s) := by
  rw [ev_denF, if_pos hl, hB]
theorem den_ex {nN n : Nat} {B : SM} {ds : List D} {e : DEnv} {s : Sto} {x : Ex} (hl : ds.length = n) (hB : B (startD nN ds) S = some (.ex x, e, s)) : denF nN n B ds S = some (.error x, s) := by
  rw [ev_denF, if_pos hl, hB]
theorem call_ok {F : DF} {fa : AM} {as : List D} {s s2 : Sto} {d : D} (h : fa env S = some (as, s)) (hF : F as s = some (.ok d, s2)) : eCall F fa env S = some (d, s2) := by
  rw [ev_call, h]; simp only [hF]
theorem acons_ok {fe : EM} {fa : AM} {a : D} {r : List D} {s s2 : Sto} (h : fe env S = some (a, s)) (h2 : fa env s = some (r, s2)) : aCons fe fa env S = some (a :: r, s2) := by
  rw [ev_acons, h]; simp only [h2]
theorem anil_ok : aNil env S = some ([], S) := rfl
theorem cl_ok {h : Sto → List D → Option D} {fa : AM} {as : List D} {z : D} {s : Sto} (h1 : fa env S = some (as, s)) (h2 : h s as = some z) : eCl h fa env S = some (z, s) := by
  rw [ev_cl, h1]; simp only [h2]
theorem cl_1 {h : Sto → List D → Option D} {fe : EM} {a : D} {z : D} {s : Sto} (h1 : fe env S = some (a, s)) (h2 : h s [a] = some z) : eCl h (aCons fe aNil) env S = some (z, s) := cl_ok (acons_ok h1 rfl) h2
theorem op_ok {h : Sto → D → D → Option D} {f g : EM} {a b z : D} {s s2 : Sto} (h1 : f env S = some (a, s)) (h2 : g env s = some (b, s2)) (h3 : h s2 a b = some z) : eOp h f g env S = some (z, s2) := by
  rw [ev_op, h1]; simp only [h2, h3]
theorem ix_tup {f g : EM} {xs : List D} {d : D} {k : Nat} {s s2 : Sto} (h1 : f env S = some (.tup xs, s)) (h2 : g env s = some (.int (k : Int), s2)) (h3 : xs[k]? = some d) : eOp ixD f g env S = some (d, s2) := op_ok h1 h2 (by simp only [ixD, der_tup, atI_nat, h3])
theorem eif_t {fb : BM} {f g : EM} {s : Sto} (h : fb env S = some (true, s)) : eIf fb f g env S = f env s := by
  rw [ev_eif, h]; rfl
theorem eif_f {fb : BM} {f g : EM} {s : Sto} (h : fb env S = some (false, s)) : eIf fb f g env S = g env s := by
  rw [ev_eif, h]; rfl
theorem bof_ok {fe : EM} {b : Bool} {s : Sto} (h : fe env S = some (.bl b, s)) : bOf fe env S = some (b, s) := by
  rw [ev_bof, h]
theorem par_ok {fa : AM} {is : List Nat} {ds : List D} {s : Sto} (h : fa env S = some (ds, s)) (hl : ds.length = is.length) : sPar is fa env S = some (.nx, setAll env is ds, s) := by
  rw [ev_par, h]; simp only [hl, if_true]
theorem tuprg_ok {fe : EM} {n : Nat} {s : Sto} (h : fe env S = some (.int (n : Int), s)) (hn : n ≤ 16777216) : eTupRg fe env S = some (.tup (rgL 0 n), s) := by
  have hc' : (0 : Int) ≤ (n : Int) ∧ (n : Int) ≤ 16777216 := by omega
  rw [ev_tuprg, h]; simp only [hc', and_self, if_true, Int.toNat_natCast]
theorem rg1_ok {fe : EM} {n : Nat} {s : Sto} (h : fe env S = some (.int (n : Int), s)) (hn : n ≤ 16777216) : rg1 (aCons fe aNil) env S = some (rgL 0 n, s) := by
  have hin : inRg (n : Int) = true := by simp [inRg]; omega
  rw [ev_rg1, acons_ok h rfl]; simp only [hin, if_true, Int.toNat_natCast]
theorem for_ok {src : AM} {g : D → DEnv → Option DEnv} {b : SM} {ds : List D} {s : Sto} {r : Option (Out × DEnv × Sto)} (h : src env S = some (ds, s)) (h2 : forD g b ds env s = r) : sFor src g b env S = r := by
  rw [ev_for, h]; exact h2
theorem tru_bl {fe : EM} {b : Bool} {s : Sto} (h : fe env S = some (.bl b, s)) : bTru fe env S = some (b, s) := by
  rw [ev_tru, h]; simp only [truD, der_bl]
theorem not_b {fb : BM} {b : Bool} {s : Sto} (h : fb env S = some (b, s)) : bNot fb env S = some (!b, s) := by
  rw [ev_not, h]
end
def gD : Option Nat → D
  | none => .non
  | some g => .int (g : Int)
theorem nlD_eq (l : NL) : nlD l = .tup [.int (l.1 : Int), gD l.2.1, .tup (intsD l.2.2)] := by
  obtain ⟨a, fn, srcs⟩ := l
  unfold nlD lnD lineD toLn
  simp only [srcs_D]
  cases fn <;> rfl
theorem ev_addT {f g : EM} {env : DEnv} {S S1 S2 : Sto} {A B : List D} (h1 : f env S = some (.tup A, S1)) (h2 : g env S1 = some (.tup B, S2)) (hb : A.length + B.length ≤ 16777216) : eOp addD f g env S = some (.tup (A ++ B), S2) := by
  rw [ev_op, h1]
  simp only [h2, addD, der_tup, hb, if_true]
theorem ev_addS {f g : EM} {env : DEnv} {S S1 S2 : Sto} {A B : List Nat} (h1 : f env S = some (.str A, S1)) (h2 : g env S1 = some (.str B, S2)) (hb : A.length + B.length ≤ 16777216) : eOp addD f g env S = some (.str (A ++ B), S2) := by
  rw [ev_op, h1]
  simp only [h2, addD, der_str, hb, if_true]
end L2.DL
-- part P18
set_option maxHeartbeats 4000000
/-! P18: lines written. -/
namespace L2.DL
open PySem PySem.Spec PyProof.Rows
section
variable {c : Nat} {fs : List Nat}
def lnText : NL → List Nat
  | (a, none, s :: _) => [99, 48 + a, 32, 61, 32, 99, 48 + s]
  | (a, some g, [s]) => [99, 48 + a, 32, 61, 32, 102, 48 + g, 40, 99, 48 + s, 41]
  | (a, some g, s :: t :: _) => [99, 48 + a, 32, 61, 32, 102, 48 + g, 40, 99, 48 + s, 44, 99, 48 + t, 41]
  | _ => []
theorem NOk.forms (m : MOk c fs) {l : NL} (h : NOk c fs l) : (∃ a s, l = (a, none, [s]) ∧ a < c ∧ s < c ∧ s ≠ a) ∨ (∃ a g s, l = (a, some g, [s]) ∧ a < c ∧ g < fs.length ∧ s < c ∧ fs[g]? = some 1) ∨
    (∃ a g s t, l = (a, some g, [s, t]) ∧ a < c ∧ g < fs.length ∧ s < c ∧ t < c ∧ fs[g]? = some 2) := by
  obtain ⟨a, fn, srcs⟩ := l
  have h1 := h.cell
  have h2 := h.srcs
  simp only at h1 h2
  cases fn with
  | none =>
    obtain ⟨s, hs, hne⟩ := h.none_ rfl
    simp only at hs hne
    subst hs
    exact .inl ⟨a, s, rfl, h1, h2 s (by simp), hne⟩
  | some g =>
    have hg := h.some_ g rfl
    simp only at hg
    have hgl := (List.getElem?_eq_some_iff.mp hg).1
    have hr := m.fr _ (List.mem_of_getElem? hg)
    match srcs, h2, hg, hr with
    | [s], h2, hg, _ => exact .inr (.inl ⟨a, g, s, rfl, h1, hgl, h2 s (by simp), hg⟩)
    | [s, t], h2, hg, _ => exact .inr (.inr ⟨a, g, s, t, rfl, h1, hgl, h2 s (by simp), h2 t (by simp), hg⟩)
    | [], _, _, hr => simp at hr
    | _ :: _ :: _ :: _, _, _, hr => simp at hr
theorem cps_eqc : (Str.ofString " = c").cps.toList = [32, 61, 32, 99] := by decide +kernel
theorem cps_eqf : (Str.ofString " = f").cps.toList = [32, 61, 32, 102] := by decide +kernel
theorem str_dig (S : Sto) {n : Nat} (h : n < 10) : strDD S [.int (n : Int)] = some (.str [48 + n]) := by
  unfold strDD
  simp only
  rw [if_pos (by omega), Int.toNat_natCast, TL.numL_lt h]
theorem cps_c_ (env : DEnv) (S : Sto) : eC (sT "c") env S = some (.str [99], S) := by simp [sT]
theorem lnText_c {S : Sto} {env : DEnv} {a s : Nat} {srcs : List Nat} {x0 x2 x4 : Option D} (ha : a < 10) (hs : s < 10) : eOp addD (eOp addD (eOp addD (eC (sT "c")) (eCl strDD (aCons (eVar 1) aNil))) (eC (sT " = c"))) (eCl strDD (aCons (eOp ixD (eVar 3) (eC (.int 0))) aNil)) [x0, some (.int (a : Int)), x2, some (.tup (intsD (s :: srcs))), x4] S = some (.str [99, 48 + a, 32, 61, 32, 99, 48 + s], S) := by
  have h1 : eCl strDD (aCons (eVar 1) aNil) [x0, some (.int (a : Int)), x2, some (.tup (intsD (s :: srcs))), x4] S = some (.str [48 + a], S) := by
    exact cl_1 rfl (str_dig S ha)
  have h2 : eCl strDD (aCons (eOp ixD (eVar 3) (eC (.int 0))) aNil) [x0, some (.int (a : Int)), x2, some (.tup (intsD (s :: srcs))), x4] S = some (.str [48 + s], S) := by
    exact cl_1 (ix_tup (k := 0) rfl rfl rfl) (str_dig S hs)
  have h3 : eC (sT " = c") [x0, some (.int (a : Int)), x2, some (.tup (intsD (s :: srcs))), x4] S = some (.str [32, 61, 32, 99], S) := by simp [sT, cps_eqc]
  exact ev_addS (ev_addS (ev_addS (cps_c_ _ _) h1 (by simp)) h3 (by simp)) h2 (by simp)
theorem lnText_f {S : Sto} {a g : Nat} {srcs : List Nat} {x0 : Option D} (ha : a < 10) (hg : g < 10) (hs : ∀ s ∈ srcs, s < 10) (hl : srcs.length ≤ 2) : eOp addD (eOp addD (eOp addD (eOp addD (eOp addD (eOp addD (eC (sT "c")) (eCl strDD (aCons (eVar 1) aNil))) (eC (sT " = f"))) (eCl strDD (aCons (eVar 2) aNil))) (eC (sT "("))) (eM1 joinDD (eC (sT ",")) (eComp (tupOf (eVar 3)) (gNameD 4) bYes (eOp addD (eC (sT "c")) (eCl strDD (aCons (eVar 4) aNil))) [4]))) (eC (sT ")"))
    [x0, some (.int (a : Int)), some (.int (g : Int)), some (.tup (intsD srcs)), none] S = some (.str ([99, 48 + a, 32, 61, 32, 102, 48 + g, 40] ++ TL.joinL [44] (srcs.map fun s => [99, 48 + s]) ++ [41]), S) := by
  have h1 : eCl strDD (aCons (eVar 1) aNil) [x0, some (.int (a : Int)), some (.int (g : Int)), some (.tup (intsD srcs)), none] S = some (.str [48 + a], S) := by
    exact cl_1 rfl (str_dig S ha)
  have h2 : eCl strDD (aCons (eVar 2) aNil) [x0, some (.int (a : Int)), some (.int (g : Int)), some (.tup (intsD srcs)), none] S = some (.str [48 + g], S) := by
    exact cl_1 rfl (str_dig S hg)
  have h3 : eC (sT " = f") [x0, some (.int (a : Int)), some (.int (g : Int)), some (.tup (intsD srcs)), none] S = some (.str [32, 61, 32, 102], S) := by simp [sT, cps_eqf]
  have h4 : eC (sT "(") [x0, some (.int (a : Int)), some (.int (g : Int)), some (.tup (intsD srcs)), none] S = some (.str [40], S) := by simp [sT]
  have h5 : eC (sT ")") [x0, some (.int (a : Int)), some (.int (g : Int)), some (.tup (intsD srcs)), none] S = some (.str [41], S) := by simp [sT]
  have h6 : eComp (tupOf (eVar 3)) (gNameD 4) bYes (eOp addD (eC (sT "c")) (eCl strDD (aCons (eVar 4) aNil))) [4] [x0, some (.int (a : Int)), some (.int (g : Int)), some (.tup (intsD srcs)), none] S = some (.lst (srcs.map fun s => .str [99, 48 + s]), S) := by
    refine ev_compV (g := fun (s : Nat) => D.int (s : Int)) (by rw [ev_tupOf]; rfl) (fun s hss => ?_) (by omega)
    have q : eCl strDD (aCons (eVar 4) aNil) [x0, some (.int (a : Int)), some (.int (g : Int)), some (.tup (intsD srcs)), some (.int (s : Int))] S = some (.str [48 + s], S) := by
      exact cl_1 rfl (str_dig S (hs s hss))
    exact ev_addS (cps_c_ _ _) q (by simp)
  have e : (srcs.map fun s => D.str [99, 48 + s]) = (srcs.map fun s => [99, 48 + s]).map D.str := by simp
  rw [e] at h6
  have hk : ∀ y ∈ srcs.map fun s => [99, 48 + s], y.length ≤ 2 := fun y hy => by
    obtain ⟨p, hp, rfl⟩ := List.mem_map.mp hy
    simp
  have h7 := ev_join (sep := [44]) (fs := eC (sT ",")) (k := 2) (by simp [sT]) h6 hk (by simp; omega)
  have hj := joinL_len (sep := [44]) hk
  simp only [List.length_map, List.length_cons, List.length_nil] at hj
  exact ev_addS (ev_addS (ev_addS (ev_addS (ev_addS (ev_addS (cps_c_ _ _) h1 (by simp)) h3 (by simp)) h2 (by simp)) h4 (by simp)) h7 (by simp; omega)) h5 (by simp; omega)
theorem f_line_text (m : MOk c fs) {l : NL} (h : NOk c fs l) (S : Sto) : F_line_text [nlD l] S = some (.ok (.str (lnText l)), S) := by
  have hc := m.c4
  have hf := m.f3
  have hasg : sAsg (gTupD [1,2,3]) (eVar 0) [some (nlD l), none, none, none, none] S = some (.nx, [some (nlD l), some (.int (l.1 : Int)), some (gD l.2.1), some (.tup (intsD l.2.2)), none], S) := by
    rw [ev_asg]
    simp only [ev_var0, ev_var]
    rw [nlD_eq l]
    rfl
  have fin : ∀ (e2 : DEnv), B_line_text [some (nlD l), none, none, none, none] S = some (.rt (.str (lnText l)), e2, S) → F_line_text [nlD l] S = some (.ok (.str (lnText l)), S) := fun e2 hB => den_rt rfl hB
  rcases h.forms m with ⟨a, s, rfl, h1, h2, h3⟩ | ⟨a, g, s, rfl, h1, h2, h3, h4⟩ | ⟨a, g, s, t, rfl, h1, h2, h3, h4, h5⟩
  · refine fin _ (seq_nx hasg (seq_rt ((if_t ?_).trans (ret_rt (lnText_c (env := []) (show a < 10 by omega) (show s < 10 by omega))))))
    simp [gD, isND, isNB]
  · refine fin _ (seq_nx hasg (seq_nx ((if_f (s := S) ?_).trans rfl) (ret_rt (lnText_f (show a < 10 by omega) (show g < 10 by omega) (fun x hx => ?_) (by simp)))))
    · simp [gD, isND, isNB]
    · have := h.srcs x hx; omega
  · refine fin _ (seq_nx hasg (seq_nx ((if_f (s := S) ?_).trans rfl) (ret_rt (lnText_f (show a < 10 by omega) (show g < 10 by omega) (fun x hx => ?_) (by simp)))))
    · simp [gD, isND, isNB]
    · have := h.srcs x hx; omega
theorem f_law_line_text (m : MOk c fs) {l : NL} (h : NOk c fs l) (S : Sto) : F__law_line_text [nlD l] S = some (.ok (.str (lnText l)), S) := f_line_text m h S
theorem NOk.back (m : MOk c fs) {l : NL} (h : NOk c fs l) : lineOf c fs (lnText l) = some (toLn l) := by
  have hc := m.c4
  have hf := m.f3
  have hok := h.line
  rcases h.forms m with ⟨a, s, rfl, h1, h2, h3⟩ | ⟨a, g, s, rfl, h1, h2, h3, h4⟩ | ⟨a, g, s, t, rfl, h1, h2, h3, h4, h5⟩
  · have e : TL.spl [32, 61, 32] 0 [] ([99, 48 + a] ++ ([32, 61, 32] ++ [99, 48 + s])) = [[99, 48 + a], [99, 48 + s]] := by
      rw [TL.spl_part1 (by simp; omega), TL.spl_last1 (by simp; omega)]; rfl
    have e' : TL.spl [32, 61, 32] 0 [] (lnText (a, none, [s])) = [[99, 48 + a], [99, 48 + s]] := e
    simp only [toLn, Option.map_none, List.map_cons, List.map_nil] at hok ⊢
    simp only [lineOf, e', celL_num (show a ≤ 3 by omega), rightOf, celL_num (show s ≤ 3 by omega), ifOk, hok, if_true]
  · have e : TL.spl [32, 61, 32] 0 [] ([99, 48 + a] ++ ([32, 61, 32] ++ [102, 48 + g, 40, 99, 48 + s, 41])) = [[99, 48 + a], [102, 48 + g, 40, 99, 48 + s, 41]] := by
      rw [TL.spl_part1 (by simp; omega), TL.spl_last1 (by simp; omega)]; rfl
    have e' : TL.spl [32, 61, 32] 0 [] (lnText (a, some g, [s])) = [[99, 48 + a], [102, 48 + g, 40, 99, 48 + s, 41]] := e
    have e2 : TL.spl [44] 0 [] [99, 48 + s] = [[99, 48 + s]] := by
      rw [TL.spl_last1 (by simp; omega)]; rfl
    have e3 : figL [48 + g] 0 2 = some (g : Int) := fig2_iff.mpr ⟨g, by omega, rfl, rfl⟩
    simp only [toLn, Option.map_some, List.map_cons, List.map_nil] at hok ⊢
    have e4 : [99, 48 + s, 41].getLast? = some 41 := rfl
    have e5 : [99, 48 + s, 41].dropLast = [99, 48 + s] := rfl
    simp only [lineOf, e', celL_num (show a ≤ 3 by omega), rightOf, cel_f, funOf, e3, e4, e5, e2, if_true, List.map_cons, List.map_nil, celL_num (show s ≤ 3 by omega), ifOk, hok]
  · have e : TL.spl [32, 61, 32] 0 [] ([99, 48 + a] ++ ([32, 61, 32] ++ [102, 48 + g, 40, 99, 48 + s, 44, 99, 48 + t, 41])) = [[99, 48 + a], [102, 48 + g, 40, 99, 48 + s, 44, 99, 48 + t, 41]] := by
      rw [TL.spl_part1 (by simp; omega), TL.spl_last1 (by simp; omega)]; rfl
    have e' : TL.spl [32, 61, 32] 0 [] (lnText (a, some g, [s, t])) = [[99, 48 + a], [102, 48 + g, 40, 99, 48 + s, 44, 99, 48 + t, 41]] := e
    have e2 : TL.spl [44] 0 [] ([99, 48 + s] ++ ([44] ++ [99, 48 + t])) = [[99, 48 + s], [99, 48 + t]] := by
      rw [TL.spl_part1 (by simp; omega), TL.spl_last1 (by simp; omega)]; rfl
    have e2' : TL.spl [44] 0 [] [99, 48 + s, 44, 99, 48 + t] = [[99, 48 + s], [99, 48 + t]] := e2
    have e3 : figL [48 + g] 0 2 = some (g : Int) := fig2_iff.mpr ⟨g, by omega, rfl, rfl⟩
    simp only [toLn, Option.map_some, List.map_cons, List.map_nil] at hok ⊢
    have e4 : [99, 48 + s, 44, 99, 48 + t, 41].getLast? = some 41 := rfl
    have e5 : [99, 48 + s, 44, 99, 48 + t, 41].dropLast = [99, 48 + s, 44, 99, 48 + t] := rfl
    simp only [lineOf, e', celL_num (show a ≤ 3 by omega), rightOf, cel_f, funOf, e3, e4, e5, e2', if_true, List.map_cons, List.map_nil, celL_num (show s ≤ 3 by omega), celL_num (show t ≤ 3 by omega), ifOk, hok]
/-- no line's text has a line's end in it, nor strange signs -/
theorem NOk.plain (m : MOk c fs) {l : NL} (h : NOk c fs l) : (∀ x ∈ lnText l, 32 ≤ x ∧ x < 128) ∧ (lnText l).length ≤ 14 ∧ lnText l ≠ [] := by
  have hc := m.c4
  have hf := m.f3
  rcases h.forms m with ⟨a, s, rfl, h1, h2, h3⟩ | ⟨a, g, s, rfl, h1, h2, h3, h4⟩ | ⟨a, g, s, t, rfl, h1, h2, h3, h4, h5⟩ <;>
  · refine ⟨fun x hx => ?_, by simp [lnText], by simp [lnText]⟩
    simp [lnText] at hx
    omega
end
end L2.DL
-- part P19
set_option maxHeartbeats 4000000
/-! P19: the text of a program. -/
namespace L2.DL
open PySem PySem.Spec PyProof.Rows
/-! ### a text of lines -/
def txt (Ls : List (List Nat)) : List Nat := (Ls.map (· ++ [10])).flatten
theorem joinL_nil : ∀ Ls : List (List Nat), TL.joinL [] Ls = Ls.flatten
  | [] => rfl
  | [p] => by simp [TL.joinL]
  | p :: q :: r => by simp [TL.joinL, joinL_nil (q :: r)]
theorem txt_join : ∀ (Ls : List (List Nat)), Ls ≠ [] → txt Ls = TL.joinL [10] Ls ++ [10]
  | [], h => absurd rfl h
  | [p], _ => by simp [txt, TL.joinL]
  | p :: q :: r, _ => by
    have ih := txt_join (q :: r) (by simp)
    unfold txt at ih ⊢
    rw [List.map_cons, List.flatten_cons, ih, TL.joinL]
    simp
theorem lines_txt {Ls : List (List Nat)} (h : Ls ≠ []) (hp : ∀ p ∈ Ls, 10 ∉ p) : linesN (txt Ls) = .ok Ls := by
  rw [txt_join Ls h]
  unfold linesN
  rw [if_neg (by simp), if_pos (by simp), List.dropLast_concat, TL.spl_join h hp]
theorem ev_txt {fe : EM} {i : Nat} {env : DEnv} {S S' : Sto} {Ls : List (List Nat)} (hi : i < env.length) (he : fe env S = some (.lst (Ls.map .str), S')) (hL : ∀ p ∈ Ls, p.length ≤ 10000) (hn : Ls.length ≤ 1000) :
    eM1 joinDD (eC (sT "")) (eComp (lstOf fe) (gNameD i) bYes (eOp addD (eVar i) (eC (sT "\n"))) [i]) env S = some (.str (txt Ls), S') := by
  have h1 : eComp (lstOf fe) (gNameD i) bYes (eOp addD (eVar i) (eC (sT "\n"))) [i] env S = some (.lst (Ls.map fun p => .str (p ++ [10])), S') := by
    refine ev_compV (g := D.str) (by rw [ev_lstOf, he]) (fun p hp => ?_) (by omega)
    have hb : p.length + 1 ≤ 16777216 := by have := hL p hp; omega
    simp [eVar_set hi, sT, addD, hb]
  have e : (Ls.map fun p => D.str (p ++ [10])) = (Ls.map (· ++ [10])).map D.str := by simp
  rw [e] at h1
  have h2 := ev_join (sep := []) (fs := eC (sT "")) (k := 10001) (by simp [sT]) h1 (fun y hy => by
    obtain ⟨p, hp, rfl⟩ := List.mem_map.mp hy
    have := hL p hp
    simp; omega) (by simp; omega)
  rw [joinL_nil] at h2
  exact h2
def cellsLine (c : Nat) : List Nat := [99, 101, 108, 108, 115, 32, 48 + c]
def funsLine (fs : List Nat) : List Nat := FUNS ++ ([32] ++ TL.joinL [32] (fs.map fun r => [48 + r]))
theorem cps_cells_ : (Str.ofString "cells ").cps.toList = [99, 101, 108, 108, 115, 32] := by decide +kernel
theorem cps_funs_ : (Str.ofString "functions ").cps.toList = [102, 117, 110, 99, 116, 105, 111, 110, 115, 32] := by decide +kernel
theorem join1_len : ∀ l : List Nat, (TL.joinL [32] (l.map fun r => [48 + r])).length ≤ 2 * l.length
  | [] => by simp [TL.joinL]
  | [a] => by simp [TL.joinL]
  | a :: b :: r => by
    have := join1_len (b :: r)
    simp [TL.joinL] at this ⊢
    omega
theorem join1_mem : ∀ (l : List Nat) (x : Nat), x ∈ TL.joinL [32] (l.map fun r => [48 + r]) → x = 32 ∨ ∃ r ∈ l, x = 48 + r
  | [], x, h => by simp [TL.joinL] at h
  | [a], x, h => by simp [TL.joinL] at h; exact .inr ⟨a, by simp, h⟩
  | a :: b :: r, x, h => by
    have ih := join1_mem (b :: r) x
    simp only [List.map_cons, TL.joinL] at h ih
    rcases List.mem_append.mp h with h | h
    · exact .inr ⟨a, by simp, by simpa using h⟩
    · rcases List.mem_append.mp h with h | h
      · exact .inl (by simpa using h)
      · rcases ih h with e | ⟨k, hk, e⟩
        · exact .inl e
        · exact .inr ⟨k, List.mem_cons_of_mem _ hk, e⟩
section
variable {c : Nat} {fs : List Nat}
theorem ev_cells {fe : EM} {env : DEnv} {S : Sto} (m : MOk c fs) (he : fe env S = some (.int (c : Int), S)) : eOp addD (eC (sT "cells ")) (eCl strDD (aCons fe aNil)) env S = some (.str (cellsLine c), S) := by
  exact ev_addS (A := [99, 101, 108, 108, 115, 32]) (by simp [sT, cps_cells_]) (cl_1 he (str_dig S (show c < 10 by have := m.c4; omega))) (by simp)
theorem ev_funs {fe : EM} {i : Nat} {env : DEnv} {S : Sto} (m : MOk c fs) (hi : i < env.length) (he : fe env S = some (.tup (intsD fs), S)) : eOp addD (eC (sT "functions ")) (eM1 joinDD (eC (sT " ")) (eComp (tupOf fe) (gNameD i) bYes (eCl strDD (aCons (eVar i) aNil)) [i])) env S = some (.str (funsLine fs), S) := by
  have hf := m.f3
  have h1 : eComp (tupOf fe) (gNameD i) bYes (eCl strDD (aCons (eVar i) aNil)) [i] env S = some (.lst (fs.map fun r => .str [48 + r]), S) := by
    refine ev_compV (g := fun (r : Nat) => D.int (r : Int)) (by rw [ev_tupOf, he]; rfl) (fun r hr => ?_) (by omega)
    exact cl_1 (eVar_set hi) (str_dig S (show r < 10 by have := m.fr r hr; omega))
  have e : (fs.map fun r => D.str [48 + r]) = (fs.map fun r => [48 + r]).map D.str := by simp
  rw [e] at h1
  have h2 := ev_join (sep := [32]) (fs := eC (sT " ")) (k := 1) (by simp [sT]) h1 (fun y hy => by
    obtain ⟨r, hr, rfl⟩ := List.mem_map.mp hy
    simp) (by simp; omega)
  have hj := join1_len fs
  have hb : 10 + (TL.joinL [32] (fs.map fun r => [48 + r])).length ≤ 16777216 := by omega
  exact ev_addS (A := [102, 117, 110, 99, 116, 105, 111, 110, 115, 32]) (by simp [sT, cps_funs_]) h2 hb
theorem ev_lineTexts {F : DF} {fe : EM} {i : Nat} {env : DEnv} {S : Sto} {ls : List NL} (hi : i < env.length) (he : fe env S = some (.tup (ls.map nlD), S)) (hF : ∀ l ∈ ls, ∀ S, F [nlD l] S = some (.ok (.str (lnText l)), S)) (hl : ls.length ≤ 1000) :
    eComp (tupOf fe) (gNameD i) bYes (eCall F (aCons (eVar i) aNil)) [i] env S = some (.lst ((ls.map lnText).map .str), S) := by
  have h := ev_compV (src := tupOf fe) (fe := eCall F (aCons (eVar i) aNil)) (i := i) (env := env) (S := S) (S' := S) (xs := ls) (g := nlD) (h := fun l => .str (lnText l)) (by rw [ev_tupOf, he]) (fun l hl => by
    simp [eVar_set hi, hF l hl]) (by omega)
  rw [h]
  simp
theorem f_need_program (m : MOk c fs) {ls : List NL} (h : ∀ l ∈ ls, NOk c fs l) (hl : ls.length ≤ 60) (S : Sto) : F_need_program [mD c fs, .tup (ls.map nlD)] S = some (.ok .non, S) := by
  obtain ⟨env', S', h1, ⟨e1, e2⟩⟩ := for_inv (J := fun _ env S' => (∃ v2 v3, env = [some (mD c fs), some (.tup (ls.map nlD)), v2, v3]) ∧ S' = S) (g := gTupD [2, 3]) (b := sIf (bNot (bTru (eCall F_is_line (aCons (eVar 0) (aCons (eVar 3) aNil))))) sNever sNil) (enumL 0 (ls.map nlD)) 0 [some (mD c fs), some (.tup (ls.map nlD)), none, none] S ⟨⟨none, none, rfl⟩, rfl⟩
    (fun i d env S1 hd ⟨⟨v2, v3, he⟩, hS⟩ => by
      subst he hS
      rw [enumL_get, List.getElem?_map] at hd
      cases hg : ls[i]? with
      | none => rw [hg] at hd; cases hd
      | some l =>
        rw [hg] at hd
        simp only [Option.map_some, Option.some.injEq] at hd
        subst hd
        have hok := (h l (List.mem_of_getElem? hg)).line
        have hF := f_is_line (c := c) (fs := fs) (toLn l).1 (toLn l).2.1 (toLn l).2.2 S1
        rw [hok] at hF
        have hF' : F_is_line [mD c fs, nlD l] S1 = some (.ok (.bl true), S1) := hF
        exact ⟨_, [some (mD c fs), some (.tup (ls.map nlD)), some (.int ((0 + i : Nat) : Int)), some (nlD l)], S1, rfl, by simp [hF', truD], ⟨_, _, rfl⟩, rfl⟩)
  obtain ⟨v2, v3, rfl⟩ := e1
  subst e2
  have hl' : ¬ (60 : Int) < (ls.length : Int) := by omega
  have hen : ∀ (env : DEnv) (S : Sto), enT (aCons (eVar 1) aNil) (some (mD c fs) :: some (.tup (ls.map nlD)) :: env) S = some (enumL 0 (ls.map nlD), S) := fun env S => rfl
  simp [F_need_program, B_need_program, isiD, kindOf, truD, lenD, intOp, hl', hen, h1]
def progL (c : Nat) (fs : List Nat) (ls : List NL) : List (List Nat) := [cellsLine c, funsLine fs] ++ ls.map lnText
theorem progL_ok (m : MOk c fs) {ls : List NL} (h : ∀ l ∈ ls, NOk c fs l) : ∀ p ∈ progL c fs ls, p.length ≤ 20 ∧ ∀ x ∈ p, 32 ≤ x ∧ x < 128 := by
  intro p hp
  have hc := m.c4
  have hf := m.f3
  simp only [progL, List.cons_append, List.nil_append, List.mem_cons, List.mem_map] at hp
  rcases hp with rfl | rfl | ⟨l, hl, rfl⟩
  · refine ⟨by simp [cellsLine], fun x hx => ?_⟩
    simp [cellsLine] at hx
    omega
  · have hj := join1_len fs
    refine ⟨by simp [funsLine, FUNS]; omega, fun x hx => ?_⟩
    simp only [funsLine, List.mem_append] at hx
    rcases hx with hx | hx | hx
    · simp [FUNS] at hx; omega
    · simp at hx; omega
    · rcases join1_mem fs x hx with e | ⟨r, hr, e⟩
      · omega
      · have := m.fr r hr; omega
  · obtain ⟨h1, h2, h3⟩ := (h l hl).plain m
    exact ⟨by omega, h1⟩
theorem f_written (m : MOk c fs) {ls : List NL} (h : ∀ l ∈ ls, NOk c fs l) (hl : ls.length ≤ 60) (S : Sto) : F_written [mD c fs, .tup (ls.map nlD)] S = some (.ok (.str (txt (progL c fs ls))), S) := by
  have h1 := fun S => f_need_machine m S
  have h2 := fun S => f_need_program m h hl S
  have hp := progL_ok m h
  have k1 := ev_cells (fe := eOp ixD (eVar 0) (eC (.int 0))) (env := [some (mD c fs), some (.tup (ls.map nlD)), none, none, none]) (S := S) m (by simp [mD, ixD])
  have k2 := ev_funs (fe := eOp ixD (eVar 0) (eC (.int 1))) (i := 3) (env := [some (mD c fs), some (.tup (ls.map nlD)), none, none, none]) (S := S) m (by simp) (by simp [mD, ixD])
  have k3 := ev_lineTexts (F := F_line_text) (fe := eVar 1) (i := 4) (env := [some (mD c fs), some (.tup (ls.map nlD)), some (.lst [.str (cellsLine c), .str (funsLine fs)]), none, none]) (S := S) (by simp) (by simp) (fun l hl S => f_line_text m (h l hl) S) (by omega)
  have k4 := ev_txt (fe := eOp addD (eVar 2) (eComp (tupOf (eVar 1)) (gNameD 4) bYes (eCall F_line_text (aCons (eVar 4) aNil)) [4])) (i := 4) (env := [some (mD c fs), some (.tup (ls.map nlD)), some (.lst [.str (cellsLine c), .str (funsLine fs)]), none, none]) (S := S) (S' := S) (Ls := progL c fs ls) (by simp) (by
    have hb : 2 + ls.length ≤ 16777216 := by omega
    exact op_ok rfl k3 (by simp [addD, progL]; omega)) (fun p hp' => by have := (hp p hp').1; omega) (by simp [progL]; omega)
  unfold F_written B_written
  simp only [ev_denF, List.length_cons, List.length_nil, startD_eq, List.map_cons, List.map_nil, List.replicate, List.cons_append, List.nil_append, if_true, ev_seq, ev_expr, ev_call, ev_acons, ev_anil, ev_var0, ev_var, h1, h2, ev_set, ev_lst, k1, k2, ev_ret, List.set_cons_succ, List.set_cons_zero, List.length, Nat.reduceSub, Nat.reduceLeDiff, k4]
end
end L2.DL
-- part P20
set_option maxHeartbeats 4000000
/-! P20: a program's text is read back; what is read is alike. -/
namespace L2.DL
open PySem PySem.Spec PyProof.Rows
section
variable {c : Nat} {fs : List Nat}
theorem cells_back (m : MOk c fs) : cellsN (cellsLine c) = some (c : Int) := by
  have hc := m.c4
  have h1 := m.c1
  have e : TL.spl [32] 0 [] (CELLS ++ ([32] ++ [48 + c])) = [CELLS, [48 + c]] := by
    rw [TL.spl_part1 (by simp [CELLS]), TL.spl_last1 (by simp; omega)]; rfl
  have e' : TL.spl [32] 0 [] (cellsLine c) = [CELLS, [48 + c]] := e
  have e3 : figL [48 + c] 1 4 = some (c : Int) := (fig_iff (lo := 1) (hi := 4) (by omega)).mpr ⟨c, h1, hc, rfl, rfl⟩
  simp only [cellsN, e', if_true, e3]
theorem words_back (m : MOk c fs) : TL.spl [32] 0 [] (funsLine fs) = FUNS :: fs.map fun r => [48 + r] := by
  have hf := m.f1
  unfold funsLine
  rw [TL.spl_part1 (by simp [FUNS]), TL.spl_join (by intro z; rw [List.map_eq_nil_iff] at z; rw [z] at hf; simp at hf) (fun p hp => ?_)]
  · rfl
  · obtain ⟨r, hr, rfl⟩ := List.mem_map.mp hp
    simp; omega
theorem fig_r {r : Nat} (h : 1 ≤ r ∧ r ≤ 2) : figL [48 + r] 1 2 = some (r : Int) := (fig_iff (lo := 1) (hi := 2) (by omega)).mpr ⟨r, h.1, h.2, rfl, rfl⟩
theorem reads_back (m : MOk c fs) : readsN (FUNS :: fs.map fun r => [48 + r]) = some fs := by
  have hf := m.f1
  have hf3 := m.f3
  have hr := m.fr
  have h1 : ((fs.map fun r => [48 + r]).all fun w => (figL w 1 2).isSome) = true := by
    rw [List.all_map, List.all_eq_true]
    intro r h
    simp only [Function.comp, fig_r (hr r h)]
    rfl
  have h2 : ((fs.map fun r => [48 + r]).map fun w => ((figL w 1 2).getD 0).toNat) = fs := by
    rw [List.map_map]
    have e : ∀ r ∈ fs, ((fun w => ((figL w 1 2).getD 0).toNat) ∘ fun r => [48 + r]) r = id r := fun r h => by
      simp only [Function.comp, fig_r (hr r h)]
      simp
    rw [List.map_congr_left e, List.map_id]
  unfold readsN
  simp only [List.length_map, hf, hf3, h1, h2, and_self, if_true]
theorem loop_back (m : MOk c fs) : ∀ (ls : List NL) (a : Nat) (prog : List Ln), (∀ l ∈ ls, NOk c fs l) → prog.length + ls.length ≤ 60 → loopN c fs a (ls.map lnText) prog = .ok (prog ++ ls.map toLn)
  | [], a, prog, _, _ => by simp [loopN]
  | l :: ls, a, prog, h, hl => by
    have h1 := (h l List.mem_cons_self).back m
    simp only [List.length_cons] at hl
    have h2 : ¬ prog.length = 60 := by omega
    rw [List.map_cons, loopN, h1]
    simp only [h2, if_false]
    rw [loop_back m ls (a + 1) (prog ++ [toLn l]) (fun k hk => h k (List.mem_cons_of_mem _ hk)) (by simp; omega)]
    simp
theorem read_back (m : MOk c fs) {ls : List NL} (h : ∀ l ∈ ls, NOk c fs l) (hl : ls.length ≤ 60) : readN (txt (progL c fs ls)) = .ok ((c, fs), ls.map toLn) := by
  have hp := progL_ok m h
  have h1 : linesN (txt (progL c fs ls)) = .ok (progL c fs ls) := lines_txt (by simp [progL]) fun p hp' z => by
    have := (hp p hp').2 10 z
    omega
  have h2 := loop_back m ls 2 [] h (by simpa using hl)
  unfold readN
  rw [h1]
  simp only [progL, List.cons_append, List.nil_append, headN, wordsN, cells_back m, words_back m, reads_back m, Int.toNat_natCast, List.drop_succ_cons, List.drop_zero, h2]
theorem txt_len {k : Nat} : ∀ {Ls : List (List Nat)}, (∀ p ∈ Ls, p.length ≤ k) → (txt Ls).length ≤ Ls.length * (k + 1)
  | [], _ => by simp [txt]
  | p :: Ls, h => by
    have h1 := h p List.mem_cons_self
    have ih := txt_len (Ls := Ls) fun q hq => h q (List.mem_cons_of_mem _ hq)
    unfold txt at ih ⊢
    simp only [List.map_cons, List.flatten_cons, List.length_append, List.length_cons, List.length_nil, Nat.succ_mul]
    omega
theorem txt_okC : ∀ {Ls : List (List Nat)}, (∀ p ∈ Ls, okC p) → okC (txt Ls) := by
  intro Ls h x hx
  unfold txt at hx
  obtain ⟨q, hq, hxq⟩ := List.mem_flatten.mp hx
  obtain ⟨p, hp, rfl⟩ := List.mem_map.mp hq
  rcases List.mem_append.mp hxq with z | z
  · exact h p hp x z
  · simp at z; omega
/-! ### what is read, told -/
theorem ifOk_inv {l l' : Ln} (h : ifOk c fs l = some l') : lineOk c fs l'.1 l'.2.1 l'.2.2 = true := by
  unfold ifOk at h
  split at h
  · rename_i q
    cases h
    exact q
  · cases h
theorem lineOf_ok {x : List Nat} {l : Ln} (h : lineOf c fs x = some l) : lineOk c fs l.1 l.2.1 l.2.2 = true := by
  unfold lineOf at h
  split at h
  · split at h
    · unfold rightOf at h
      split at h
      · exact ifOk_inv h
      · unfold funOf at h
        split at h
        · split at h
          · split at h
            · exact ifOk_inv h
            · cases h
          · cases h
        · cases h
    · cases h
  · cases h
theorem lineOf_len (m : MOk c fs) {x : List Nat} {l : Ln} (h : lineOf c fs x = some l) : l.2.2.length ≤ 2 := by
  have h1 := lineOf_ok h
  obtain ⟨a, fn, srcs⟩ := l
  rw [lineOk_eq] at h1
  simp only [Bool.and_eq_true] at h1
  obtain ⟨_, h2⟩ := h1
  cases fn with
  | none => simp at h2; simp; omega
  | some g =>
    simp at h2
    have := m.fr _ (List.mem_of_getElem? h2.2)
    simp; omega
theorem loop_len (m : MOk c fs) : ∀ (r : List (List Nat)) (a : Nat) (prog q : List Ln), (∀ l ∈ prog, l.2.2.length ≤ 2) → prog.length ≤ 60 → loopN c fs a r prog = .ok q → (∀ l ∈ q, l.2.2.length ≤ 2) ∧ q.length ≤ 60
  | [], a, prog, q, h, hl, e => by simp only [loopN] at e; cases e; exact ⟨h, hl⟩
  | x :: r, a, prog, q, h, hl, e => by
    rw [loopN] at e
    cases hx : lineOf c fs x with
    | none => rw [hx] at e; cases e
    | some l =>
      rw [hx] at e
      simp only at e
      split at e
      · cases e
      · rename_i h60
        refine loop_len m r (a + 1) (prog ++ [l]) q (fun k hk => ?_) (by simp; omega) e
        rcases List.mem_append.mp hk with z | z
        · exact h k z
        · rw [List.mem_singleton.mp z]; exact lineOf_len m hx
theorem nic_intsD {l : List Nat} (h : l.length ≤ 1000000) : Nic 1 (.tup (intsD l)) := ⟨by simpa using h, fun x hx => by
  unfold intsD at hx
  obtain ⟨r, _, rfl⟩ := List.mem_map.mp hx
  trivial⟩
theorem nic_mD (h : fs.length ≤ 1000000) : Nic 2 (mD c fs) := ⟨by simp, fun x hx => by
  simp only [List.mem_cons, List.not_mem_nil, or_false] at hx
  rcases hx with rfl | rfl
  · trivial
  · exact nic_intsD h⟩
theorem nic_oI (o : Option Int) (k : Nat) : Nic k (oI o) := by cases o <;> cases k <;> trivial
theorem nic_lnD {l : Ln} (h : l.2.2.length ≤ 2) : Nic 2 (lnD l) := ⟨by simp, fun x hx => by
  simp only [List.mem_cons, List.not_mem_nil, or_false] at hx
  rcases hx with rfl | rfl | rfl
  · trivial
  · exact nic_oI _ _
  · refine ⟨by simp; omega, fun y hy => ?_⟩
    obtain ⟨o, _, rfl⟩ := List.mem_map.mp hy
    exact nic_oI _ _⟩
theorem nic_prog {ls : List Ln} (hf : fs.length ≤ 3) (h : ∀ l ∈ ls, l.2.2.length ≤ 2) (hl : ls.length ≤ 60) : Nic 4 (.tup [mD c fs, .tup (ls.map lnD)]) := ⟨by simp, fun x hx => by
  simp only [List.mem_cons, List.not_mem_nil, or_false] at hx
  rcases hx with rfl | rfl
  · exact (nic_mD (by omega)).mono
  · refine ⟨by simp; omega, fun y hy => ?_⟩
    obtain ⟨l, hl, rfl⟩ := List.mem_map.mp hy
    exact nic_lnD (h l hl)⟩
theorem nic_read (x : List Nat) : Nic 4 (resLR (readN x)) := by
  unfold readN
  split
  · trivial
  · split
    · trivial
    · rename_i m hm
      split
      · trivial
      · rename_i p hp
        have hk := head_ok hm
        obtain ⟨h1, h2⟩ := loop_len hk _ _ _ _ (by simp) (by simp) hp
        exact nic_prog hk.f3 h1 h2
def toldD : Except Ex D → D
  | .ok d => d
  | .error (.bad n) => .int n
  | .error .loss => lossV
theorem ev_toldD {fx : XM} {env : DEnv} {S S' : Sto} {r : Except Ex D} (h : fx env S = some (r, S')) : eTold fx env S = some (toldD r, S') := by
  rw [ev_told, h]
  cases r with
  | ok d => rfl
  | error e => cases e <;> rfl
/-- a value that a bent text may be -/
def Bv (v : D) : Prop := NoText v ∨ ∃ x, v = .str x ∧ x.length ≤ 100000 ∧ okC x
theorem read_told {v : D} (h : Bv v) (S : Sto) : ∃ d N1, (∃ r, F_read_program [v] S = some (r, S ++ N1) ∧ toldD r = d) ∧ Nic 4 d ∧ ∀ S2, ∃ N2, F__law_read [v] S2 = some (.ok d, S2 ++ N2) := by
  rcases h with h | ⟨x, rfl, hx, hc⟩
  · exact ⟨.int 0, [], ⟨_, by rw [List.append_nil]; exact f_rp_no h S, rfl⟩, trivial, fun S2 => ⟨[], by rw [List.append_nil]; exact f_lr_no h S2⟩⟩
  · obtain ⟨N1, h1⟩ := f_read_program x S hx hc
    refine ⟨resLR (readN x), N1, ⟨_, h1, ?_⟩, nic_read x, fun S2 => f_law_read x S2 hx hc⟩
    cases readN x <;> rfl
end
end L2.DL
-- part P21
set_option maxHeartbeats 4000000
/-! P21: bent texts. -/
namespace L2.DL
open PySem PySem.Spec PyProof.Rows
def QL (k : Nat) (L : List (List Nat)) : Prop := ∀ p ∈ L, p.length ≤ k ∧ okC p
theorem QL.app {k : Nat} {A B : List (List Nat)} (a : QL k A) (b : QL k B) : QL k (A ++ B) := fun p hp => by
  rcases List.mem_append.mp hp with z | z
  · exact a p z
  · exact b p z
theorem QL.take {k : Nat} {A : List (List Nat)} (a : QL k A) (n : Nat) : QL k (A.take n) := fun p hp => a p (List.mem_of_mem_take hp)
theorem QL.drop {k : Nat} {A : List (List Nat)} (a : QL k A) (n : Nat) : QL k (A.drop n) := fun p hp => a p (List.mem_of_mem_drop hp)
theorem QL.le {k j : Nat} {A : List (List Nat)} (a : QL k A) (h : k ≤ j) : QL j A := fun p hp => ⟨Nat.le_trans (a p hp).1 h, (a p hp).2⟩
section
variable {f g : EM} {env : DEnv} {S S1 S2 : Sto} {A B : List (List Nat)} {k : Nat}
theorem ev_addL (h1 : f env S = some (.lst (A.map .str), S1)) (h2 : g env S1 = some (.lst (B.map .str), S2)) (hb : A.length + B.length ≤ 16777216) : eOp addD f g env S = some (.lst ((A ++ B).map .str), S2) := by
  rw [ev_op, h1]
  simp only [h2, addD, der_lst, List.length_map, hb, if_true, List.map_append]
theorem ev_slto (h1 : f env S = some (.lst (A.map .str), S)) (h2 : g env S = some (.int (k : Int), S)) : eSl slD f oNone (oSome g) env S = some (.lst ((A.take k).map .str), S) := by
  rw [ev_sl, h1]
  simp only [ev_onone, ev_osome, h2, slD, der_lst, cut_to, List.map_take]
theorem ev_slfrom (h1 : f env S = some (.lst (A.map .str), S)) (h2 : g env S = some (.int (k : Int), S)) : eSl slD f (oSome g) oNone env S = some (.lst ((A.drop k).map .str), S) := by
  rw [ev_sl, h1]
  simp only [ev_onone, ev_osome, h2, slD, der_lst, cut_from, List.map_drop]
theorem ev_slone {g2 : EM} (h1 : f env S = some (.lst (A.map .str), S)) (h2 : g env S = some (.int (k : Int), S)) (h3 : g2 env S = some (.int ((k + 1 : Nat) : Int), S)) : eSl slD f (oSome g) (oSome g2) env S = some (.lst (((A.drop k).take 1).map .str), S) := by
  rw [ev_sl, h1]
  have e : k + 1 - k = 1 := by omega
  simp only [ev_osome, h2, h3, slD, der_lst, cut_mid, List.map_take, List.map_drop, e]
theorem ev_inc (h2 : g env S = some (.int (k : Int), S)) : eOp addD g (eC (.int 1)) env S = some (.int ((k + 1 : Nat) : Int), S) := by
  rw [ev_op, h2]
  simp [addD]
end
theorem strs_of {p : List Nat → Prop} : ∀ {ys : List D}, (∀ y ∈ ys, ∃ x, y = .str x ∧ p x) → ∃ L : List (List Nat), ys = L.map .str ∧ (∀ x ∈ L, p x) ∧ L.length = ys.length
  | [], _ => ⟨[], rfl, by simp, rfl⟩
  | y :: ys, h => by
    obtain ⟨n, rfl, hn⟩ := h y List.mem_cons_self
    obtain ⟨l, h1, h2, h3⟩ := strs_of fun y hy => h y (List.mem_cons_of_mem _ hy)
    exact ⟨n :: l, by rw [h1]; rfl, fun k hk => by
      rcases List.mem_cons.mp hk with e | e
      · rw [e]; exact hn
      · exact h2 k e, by simp [h3]⟩
theorem okC_app {a b : List Nat} (h : okC a) (h' : okC b) : okC (a ++ b) := fun c hc => by
  rcases List.mem_append.mp hc with z | z
  · exact h c z
  · exact h' c z
theorem cps_0 : (Str.ofString "0").cps.toList = [48] := by decide +kernel
theorem cps_x : (Str.ofString "x").cps.toList = [120] := by decide +kernel
section
variable {ns : List Int} {L more : List (List Nat)} {k kd : Nat} {env : DEnv} {S : Sto}
theorem ev_pick {E : EM} {xs : List D} (h0 : eVar 0 env S = some (.mu 0, S)) (h : Rw ns S) (hE : E env S = some (.lst xs, S)) (hx : xs ≠ []) (hl : xs.length ≤ 100000) : ∃ d ∈ xs, ∃ S', eCall F__law_pick (aCons (eVar 0) (aCons E aNil)) env S = some (d, S') ∧ Rw ns S' := by
  obtain ⟨d, hd, S', h1, h2⟩ := f_pick h hx (by omega)
  exact ⟨d, hd, S', ev_pickE h0 hE h1, h2⟩
theorem bent_ins (hL : QL 5000 L) (hl : L.length ≤ 100) (hM : QL 5000 more) (hm : more ≠ []) (hml : more.length ≤ 100) (h : Rw ns S) (h0 : ∀ S, eVar 0 env S = some (.mu 0, S)) (h1 : ∀ S, eVar 1 env S = some (.lst (L.map .str), S)) (h2 : ∀ S, eVar 2 env S = some (.lst (more.map .str), S)) (h3 : ∀ S, eVar 3 env S = some (.int (k : Int), S)) :
    ∃ L' S', eOp addD (eOp addD (eSl slD (eVar 1) oNone (oSome (eVar 3))) (eLst (aCons (eCall F__law_pick (aCons (eVar 0) (aCons (eVar 2) aNil))) aNil))) (eSl slD (eVar 1) (oSome (eVar 3)) oNone) env S = some (.lst (L'.map .str), S') ∧ QL 5000 L' ∧ L'.length ≤ L.length + 1 ∧ Rw ns S' := by
  obtain ⟨d, hd, S', p1, p2⟩ := ev_pick (xs := more.map .str) (h0 S) h (h2 S) (by intro z; exact hm (List.map_eq_nil_iff.mp z)) (by simp; omega)
  obtain ⟨q, hq, rfl⟩ := List.mem_map.mp hd
  have e1 : eLst (aCons (eCall F__law_pick (aCons (eVar 0) (aCons (eVar 2) aNil))) aNil) env S = some (.lst ([q].map .str), S') := by
    rw [ev_lst, ev_acons, p1]; simp
  refine ⟨L.take k ++ [q] ++ L.drop k, S', ev_addL (ev_addL (ev_slto (h1 S) (h3 S)) e1 (by simp; omega)) (ev_slfrom (h1 S') (h3 S')) (by simp; omega), ((hL.take k).app fun p hp => ?_).app (hL.drop k), by simp; omega, p2⟩
  rw [List.mem_singleton.mp hp]; exact hM q hq
theorem bent_del (hL : QL 5000 L) (hl : L.length ≤ 100) (h1 : ∀ S, eVar 1 env S = some (.lst (L.map .str), S)) (h3 : ∀ S, eVar 3 env S = some (.int (k : Int), S)) :
    ∃ L', eOp addD (eSl slD (eVar 1) oNone (oSome (eVar 3))) (eSl slD (eVar 1) (oSome (eOp addD (eVar 3) (eC (.int 1)))) oNone) env S = some (.lst (L'.map .str), S) ∧ QL 5000 L' ∧ L'.length ≤ L.length + 1 :=
  ⟨L.take k ++ L.drop (k + 1), ev_addL (ev_slto (h1 S) (h3 S)) (ev_slfrom (h1 S) (ev_inc (h3 S))) (by simp; omega), (hL.take k).app (hL.drop (k + 1)), by simp; omega⟩
theorem bent_some (hL : QL 5000 L) (hl : L.length ≤ 100) (h : Rw ns S) (h7 : env.length = 9) (h0 : env[0]? = some (some (.mu 0))) (h1 : env[1]? = some (some (.lst (L.map .str)))) (h3 : env[3]? = some (some (.int (k : Int)))) :
    ∃ L' S', eComp (lstOf (eSl slD (eVar 1) (oSome (eVar 3)) (oSome (eOp addD (eVar 3) (eC (.int 1)))))) (gNameD 7) bYes (eOp addD (eVar 7) (eCall F__law_pick (aCons (eVar 0) (aCons (eLst (aCons (eC (sT " ")) (aCons (eC (sT "0")) (aCons (eC (sT ")")) (aCons (eC (sT "x")) aNil))))) aNil)))) [7] env S = some (.lst (L'.map .str), S') ∧ QL 5001 L' ∧ L'.length ≤ 1 ∧ Rw ns S' := by
  have e1 : ∀ S, eVar 1 env S = some (.lst (L.map .str), S) := fun S => by simp only [eVar, h1]
  have e3 : ∀ S, eVar 3 env S = some (.int (k : Int), S) := fun S => by simp only [eVar, h3]
  have hs := ev_slone (e1 S) (e3 S) (ev_inc (e3 S))
  obtain ⟨ys, S', c1, c2, c3, c4⟩ := comp_rowN (I := Rw ns) (R := fun y => ∃ x, y = .str x ∧ x.length ≤ 5001 ∧ okC x) (g := gNameD 7) (fe := eOp addD (eVar 7) (eCall F__law_pick (aCons (eVar 0) (aCons (eLst (aCons (eC (sT " ")) (aCons (eC (sT "0")) (aCons (eC (sT ")")) (aCons (eC (sT "x")) aNil))))) aNil)))) (vs := [7]) (env := env) (ds := ((L.drop k).take 1).map D.str) h fun d hd S hS => by
    obtain ⟨p, hp, rfl⟩ := List.mem_map.mp hd
    obtain ⟨p1, p2⟩ := hL.drop k |>.take 1 p hp
    have a0 : eVar 0 ((wipeD env [7]).set 7 (some (.str p))) S = some (.mu 0, S) := by
      simp only [wipeD, List.set_set, eVar]
      rw [List.getElem?_set_ne (by decide), h0]
    have a7 : eVar 7 ((wipeD env [7]).set 7 (some (.str p))) S = some (.str p, S) := eVar_set (by simp [wipeD, h7])
    obtain ⟨d, hd, S', q1, q2⟩ := ev_pick (xs := [[32], [48], [41], [120]].map .str) (E := eLst (aCons (eC (sT " ")) (aCons (eC (sT "0")) (aCons (eC (sT ")")) (aCons (eC (sT "x")) aNil))))) a0 hS (by simp [sT, cps_0, cps_x]) (by simp) (by simp)
    obtain ⟨w, hw, rfl⟩ := List.mem_map.mp hd
    have hw2 : w.length = 1 ∧ okC w := by
      simp only [List.mem_cons, List.not_mem_nil, or_false] at hw
      rcases hw with rfl | rfl | rfl | rfl <;> exact ⟨rfl, fun c hc => by simp at hc; omega⟩
    have hb : p.length + w.length ≤ 16777216 := by omega
    refine ⟨_, .str (p ++ w), S', rfl, ?_, q2, p ++ w, rfl, by simp; omega, okC_app p2 hw2.2⟩
    rw [ev_op, a7]
    simp only [q1, addD, der_str, hb, if_true]
  obtain ⟨L', rfl, l2, l3⟩ := strs_of c3
  have hlen : (L'.map D.str).length ≤ 1 := by rw [c4]; simp; omega
  have hlen2 : (L'.map D.str).length ≤ 16777216 := by omega
  refine ⟨L', S', ?_, l2, by simpa using hlen, c2⟩
  rw [ev_comp, ev_lstOf, hs]
  simp only [c1, hlen2, if_true]
theorem bent_put {A : List (List Nat)} (hL : QL 5000 L) (hl : L.length ≤ 100) (hA : QL 5001 A) (hAl : A.length ≤ 1) (h1 : ∀ S, eVar 1 env S = some (.lst (L.map .str), S)) (h3 : ∀ S, eVar 3 env S = some (.int (k : Int), S)) (h6 : ∀ S, eVar 6 env S = some (.lst (A.map .str), S)) :
    ∃ L', eOp addD (eOp addD (eSl slD (eVar 1) oNone (oSome (eVar 3))) (eVar 6)) (eSl slD (eVar 1) (oSome (eOp addD (eVar 3) (eC (.int 1)))) oNone) env S = some (.lst (L'.map .str), S) ∧ QL 5001 L' ∧ L'.length ≤ L.length + 1 :=
  ⟨L.take k ++ A ++ L.drop (k + 1), ev_addL (ev_addL (ev_slto (h1 S) (h3 S)) (h6 S) (by simp; omega)) (ev_slfrom (h1 S) (ev_inc (h3 S))) (by simp; omega), (((hL.take k).le (by omega)).app hA).app ((hL.drop (k + 1)).le (by omega)), by simp; omega⟩
theorem bent_fin {x : List Nat} (h : Rw ns S) (hx : x.length ≤ 100000) (hc : okC x) (h0 : ∀ S, eVar 0 env S = some (.mu 0, S)) (h8 : ∀ S, eVar 8 env S = some (.str x, S)) :
    ∃ v S', sRet (eCall F__law_pick (aCons (eVar 0) (aCons (eLst (aCons (eVar 8) (aCons (eVar 8) (aCons (eVar 8) (aCons (eVar 8) (aCons (eSl slD (eVar 8) oNone (oSome (eC (.int (-1))))) (aCons (eC .non) (aCons (eC (sT "")) (aCons (eC (.int 3)) (aCons (eC (sT "\n")) aNil)))))))))) aNil))) env S = some (.rt v, env, S') ∧ Bv v ∧ Rw ns S' := by
  have hb : x.length ≤ 16777216 := by omega
  have hE : eLst (aCons (eVar 8) (aCons (eVar 8) (aCons (eVar 8) (aCons (eVar 8) (aCons (eSl slD (eVar 8) oNone (oSome (eC (.int (-1))))) (aCons (eC .non) (aCons (eC (sT "")) (aCons (eC (.int 3)) (aCons (eC (sT "\n")) aNil))))))))) env S = some (.lst [.str x, .str x, .str x, .str x, .str x.dropLast, .non, .str [], .int 3, .str [10]], S) := by
    simp [h8, sT, slD, hb]
  obtain ⟨d, hd, S', p1, p2⟩ := ev_pick (h0 S) h hE (by simp) (by simp)
  refine ⟨d, S', by rw [ev_ret, p1], ?_, p2⟩
  simp only [List.mem_cons, List.not_mem_nil, or_false] at hd
  rcases hd with rfl | rfl | rfl | rfl | rfl | rfl | rfl | rfl | rfl
  · exact .inr ⟨x, rfl, hx, hc⟩
  · exact .inr ⟨x, rfl, hx, hc⟩
  · exact .inr ⟨x, rfl, hx, hc⟩
  · exact .inr ⟨x, rfl, hx, hc⟩
  · exact .inr ⟨x.dropLast, rfl, by simp; omega, fun c h => hc c (List.dropLast_subset x h)⟩
  · exact .inl (.inl rfl)
  · exact .inr ⟨[], rfl, by simp, fun c h => by cases h⟩
  · exact .inl (.inr ⟨3, rfl⟩)
  · exact .inr ⟨[10], rfl, by simp, fun c h => by simp at h; omega⟩
theorem f_bent (hL : QL 5000 L) (hl : L.length ≤ 15) (hM : QL 5000 more) (hm : more ≠ []) (hml : more.length ≤ 100) (h : Rw ns S) : ∃ v S', F__law_bent [.mu 0, .lst (L.map .str), .lst (more.map .str)] S = some (.ok v, S') ∧ Bv v ∧ Rw ns S' := by
  obtain ⟨k, S1, a1, a2, a3⟩ := f_taken (m := L.length + 1) h (by omega) (by omega)
  obtain ⟨kd, S2, b1, b2, b3⟩ := f_taken (m := 6) a3 (by omega) (by omega)
  have b1 : F__law_taken [.mu 0, .int 6] S1 = some (.ok (.int (kd : Int)), S2) := b1
  have hA : ∃ A S3, eIf (bOf (eOp ltD (eVar 4) (eC (.int 3)))) (eOp addD (eOp addD (eSl slD (eVar 1) oNone (oSome (eVar 3))) (eLst (aCons (eCall F__law_pick (aCons (eVar 0) (aCons (eVar 2) aNil))) aNil))) (eSl slD (eVar 1) (oSome (eVar 3)) oNone)) (eOp addD (eSl slD (eVar 1) oNone (oSome (eVar 3))) (eSl slD (eVar 1) (oSome (eOp addD (eVar 3) (eC (.int 1)))) oNone))
      [some (.mu 0), some (.lst (L.map .str)), some (.lst (more.map .str)), some (.int (k : Int)), some (.int (kd : Int)), none, none, none, none] S2 = some (.lst (A.map .str), S3) ∧ QL 5000 A ∧ A.length ≤ L.length + 1 ∧ Rw ns S3 := by
    by_cases h3 : (kd : Int) < 3
    · obtain ⟨A, S3, q1, q2, q3, q4⟩ := bent_ins (env := [some (.mu 0), some (.lst (L.map .str)), some (.lst (more.map .str)), some (.int (k : Int)), some (.int (kd : Int)), none, none, none, none]) (k := k) hL (by omega) hM hm hml b3 (fun _ => rfl) (fun _ => rfl) (fun _ => rfl) (fun _ => rfl)
      refine ⟨A, S3, ?_, q2, q3, q4⟩
      exact (eif_t (bof_ok (op_ok (a := .int (kd : Int)) (b := .int 3) rfl rfl (by simp [intOp, h3])))).trans q1
    · obtain ⟨A, q1, q2, q3⟩ := bent_del (env := [some (.mu 0), some (.lst (L.map .str)), some (.lst (more.map .str)), some (.int (k : Int)), some (.int (kd : Int)), none, none, none, none]) (S := S2) (k := k) hL (by omega) (fun _ => rfl) (fun _ => rfl)
      refine ⟨A, S2, ?_, q2, q3, b3⟩
      exact (eif_f (bof_ok (op_ok (a := .int (kd : Int)) (b := .int 3) rfl rfl (by simp [intOp]; omega)))).trans q1
  obtain ⟨A, S3, hA1, hA2, hA3, hA4⟩ := hA
  obtain ⟨B, S4, hB1, hB2, hB3, hB4⟩ := bent_some (env := [some (.mu 0), some (.lst (L.map .str)), some (.lst (more.map .str)), some (.int (k : Int)), some (.int (kd : Int)), some (.lst (A.map .str)), none, none, none]) (k := k) hL (by omega) hA4 rfl rfl rfl rfl
  have hC : ∃ C, eIf (bOf (eOp eqD (eVar 4) (eC (.int 5)))) (eOp addD (eOp addD (eSl slD (eVar 1) oNone (oSome (eVar 3))) (eVar 6)) (eSl slD (eVar 1) (oSome (eOp addD (eVar 3) (eC (.int 1)))) oNone)) (eVar 5)
      [some (.mu 0), some (.lst (L.map .str)), some (.lst (more.map .str)), some (.int (k : Int)), some (.int (kd : Int)), some (.lst (A.map .str)), some (.lst (B.map .str)), none, none] S4 = some (.lst (C.map .str), S4) ∧ QL 5001 C ∧ C.length ≤ L.length + 1 := by
    by_cases h5 : (kd : Int) = 5
    · obtain ⟨C, q1, q2, q3⟩ := bent_put (env := [some (.mu 0), some (.lst (L.map .str)), some (.lst (more.map .str)), some (.int (k : Int)), some (.int (kd : Int)), some (.lst (A.map .str)), some (.lst (B.map .str)), none, none]) (S := S4) (k := k) hL (by omega) hB2 hB3 (fun _ => rfl) (fun _ => rfl) (fun _ => rfl)
      refine ⟨C, ?_, q2, q3⟩
      exact (eif_t (bof_ok (op_ok (a := .int (kd : Int)) (b := .int 5) rfl rfl (by simp [eqD, eqB_int, h5])))).trans q1
    · refine ⟨A, ?_, hA2.le (by omega), hA3⟩
      exact (eif_f (bof_ok (op_ok (a := .int (kd : Int)) (b := .int 5) rfl rfl (by simp [eqD, eqB_int]; omega)))).trans rfl
  obtain ⟨C, hC1, hC2, hC3⟩ := hC
  have hT := ev_txt (fe := eVar 5) (i := 7) (env := [some (.mu 0), some (.lst (L.map .str)), some (.lst (more.map .str)), some (.int (k : Int)), some (.int (kd : Int)), some (.lst (C.map .str)), some (.lst (B.map .str)), none, none]) (S := S4) (S' := S4) (Ls := C) (by simp) rfl (fun p hp => by have := (hC2 p hp).1; omega) (by omega)
  have hlen := txt_len (Ls := C) (k := 5001) fun p hp => (hC2 p hp).1
  have hlen2 : (txt C).length ≤ 100000 := by
    have : C.length * (5001 + 1) ≤ 16 * (5001 + 1) := Nat.mul_le_mul_right _ (by omega)
    omega
  obtain ⟨v, S5, hv1, hv2, hv3⟩ := bent_fin (env := [some (.mu 0), some (.lst (L.map .str)), some (.lst (more.map .str)), some (.int (k : Int)), some (.int (kd : Int)), some (.lst (C.map .str)), some (.lst (B.map .str)), none, some (.str (txt C))]) (x := txt C) hB4 hlen2 (txt_okC fun p hp => (hC2 p hp).2) (fun _ => rfl) (fun _ => rfl)
  refine ⟨v, S5, ?_, hv2, hv3⟩
  have e1 : sPar [3,4] (aCons (eCall F__law_taken (aCons (eVar 0) (aCons (eOp addD (eCl lenD (aCons (eVar 1) aNil)) (eC (.int 1))) aNil))) (aCons (eCall F__law_taken (aCons (eVar 0) (aCons (eC (.int 6)) aNil))) aNil)) [some (.mu 0), some (.lst (L.map .str)), some (.lst (more.map .str)), none, none, none, none, none, none] S = some (.nx, [some (.mu 0), some (.lst (L.map .str)), some (.lst (more.map .str)), some (.int (k : Int)), some (.int (kd : Int)), none, none, none, none], S2) := by
    simp at a1
    simp [lenD, addD, a1, b1]
  have hB : B__law_bent [some (.mu 0), some (.lst (L.map .str)), some (.lst (more.map .str)), none, none, none, none, none, none] S = some (.rt v, [some (.mu 0), some (.lst (L.map .str)), some (.lst (more.map .str)), some (.int (k : Int)), some (.int (kd : Int)), some (.lst (C.map .str)), some (.lst (B.map .str)), none, some (.str (txt C))], S5) := by
    unfold B__law_bent
    exact seq_nx e1 (seq_nx (set_nx hA1) (seq_nx (set_nx hB1) (seq_nx (set_nx hC1) (seq_nx (set_nx hT) hv1))))
  exact den_rt rfl hB
end
end L2.DL
-- part P22
set_option maxHeartbeats 4000000
/-! P22: terms: their texts, their depth, what is a term. -/
namespace L2.DL
open PySem PySem.Spec PyProof.Rows
def Dig : Tm → Prop
  | .c i => i < 10
  | .f1 g a => g < 10 ∧ Dig a
  | .f2 g a b => g < 10 ∧ Dig a ∧ Dig b
theorem TOk.dig {c : Nat} {fs : List Nat} (m : MOk c fs) : ∀ {T : Tm}, TOk c fs T → Dig T
  | .c i, h => by have := m.c4; simp only [TOk] at h; simp only [Dig]; omega
  | .f1 g a, h => by
    have h1 := (List.getElem?_eq_some_iff.mp h.1).1
    have := m.f3
    exact ⟨by omega, TOk.dig m h.2⟩
  | .f2 g a b, h => by
    have h1 := (List.getElem?_eq_some_iff.mp h.1).1
    have := m.f3
    exact ⟨by omega, TOk.dig m h.2.1, TOk.dig m h.2.2⟩
theorem pow_le_max {a b : Nat} : 2 ^ a ≤ 2 ^ (max a b) ∧ 2 ^ b ≤ 2 ^ (max a b) := ⟨Nat.pow_le_pow_right (by omega) (Nat.le_max_left a b), Nat.pow_le_pow_right (by omega) (Nat.le_max_right a b)⟩
theorem textT_le : ∀ T : Tm, (textT T).length + 5 ≤ 4 * 2 ^ dpT T
  | .c i => by simp [textT, dpT]
  | .f1 g a => by
    have h := textT_le a
    have h2 : 1 ≤ 2 ^ dpT a := Nat.one_le_two_pow
    simp only [textT, dpT, List.length_cons, List.length_append, List.length_nil, Nat.pow_add]
    omega
  | .f2 g a b => by
    have h := textT_le a
    have h' := textT_le b
    have hp := pow_le_max (a := dpT a) (b := dpT b)
    simp only [textT, dpT, List.length_cons, List.length_append, List.length_nil, Nat.pow_add]
    omega
theorem textT_8 {T : Tm} (h : dpT T ≤ 8) : (textT T).length ≤ 1019 := by
  have h1 := textT_le T
  have h2 : 2 ^ dpT T ≤ 2 ^ 8 := Nat.pow_le_pow_right (by omega) h
  omega
theorem textT_signs : ∀ {T : Tm}, Dig T → ∀ x ∈ textT T, 40 ≤ x ∧ x < 128
  | .c i, h, x, hx => by
    simp only [Dig] at h
    simp [textT] at hx
    omega
  | .f1 g a, h, x, hx => by
    simp only [Dig] at h
    simp only [textT, List.mem_cons, List.mem_append, List.not_mem_nil, or_false] at hx
    rcases hx with e | e | e | e | e
    · omega
    · omega
    · omega
    · exact textT_signs h.2 x e
    · omega
  | .f2 g a b, h, x, hx => by
    simp only [Dig] at h
    simp only [textT, List.mem_cons, List.mem_append, List.not_mem_nil, or_false] at hx
    rcases hx with e | e | e | e | e | e | e
    · omega
    · omega
    · omega
    · exact textT_signs h.2.1 x e
    · omega
    · exact textT_signs h.2.2 x e
    · omega
theorem f_textStep {F : DF} {g : Nat} {ps : List Tm} (hg : g < 10) (hF : ∀ p ∈ ps, ∀ S, F [dT p] S = some (.ok (.str (textT p)), S)) (hl : ∀ p ∈ ps, (textT p).length ≤ 10000) (hps : ps.length ≤ 2) (S : Sto) :
    eOp addD (eOp addD (eOp addD (eOp addD (eC (sT "f")) (eCl strDD (aCons (eOp ixD (eVar 0) (eC (.int 0))) aNil))) (eC (sT "("))) (eM1 joinDD (eC (sT ",")) (eComp (tupOf (eSl slD (eVar 0) (oSome (eC (.int 1))) oNone)) (gNameD 1) bYes (eCall F (aCons (eVar 1) aNil)) [1]))) (eC (sT ")"))
      [some (.tup (.int (g : Int) :: ps.map dT)), none] S = some (.str ([102, 48 + g, 40] ++ TL.joinL [44] (ps.map textT) ++ [41]), S) := by
  have h1 : eComp (tupOf (eSl slD (eVar 0) (oSome (eC (.int 1))) oNone)) (gNameD 1) bYes (eCall F (aCons (eVar 1) aNil)) [1] [some (.tup (.int (g : Int) :: ps.map dT)), none] S = some (.lst (ps.map fun p => .str (textT p)), S) := by
    refine ev_compV (g := dT) (by simp [slD]) (fun p hp => ?_) (by omega)
    simp [hF p hp]
  have e : (ps.map fun p => D.str (textT p)) = (ps.map textT).map D.str := by simp
  rw [e] at h1
  have hk : ∀ y ∈ ps.map textT, y.length ≤ 10000 := fun y hy => by
    obtain ⟨p, hp, rfl⟩ := List.mem_map.mp hy
    exact hl p hp
  have h2 := ev_join (sep := [44]) (fs := eC (sT ",")) (k := 10000) (by simp [sT]) h1 hk (by simp; omega)
  have hj := joinL_len (sep := [44]) hk
  simp only [List.length_map, List.length_cons, List.length_nil] at hj
  have hb : (TL.joinL [44] (ps.map textT)).length ≤ 30000 := by
    have : ps.length * (10000 + (0 + 1)) ≤ 2 * (10000 + (0 + 1)) := Nat.mul_le_mul_right _ hps
    omega
  have hd := str_dig S hg
  have hb1 : 3 + (TL.joinL [44] (ps.map textT)).length ≤ 16777216 := by omega
  have hb2 : 3 + (TL.joinL [44] (ps.map textT)).length + 1 ≤ 16777216 := by omega
  have e1 : eOp addD (eOp addD (eC (sT "f")) (eCl strDD (aCons (eOp ixD (eVar 0) (eC (.int 0))) aNil))) (eC (sT "(")) [some (.tup (.int (g : Int) :: ps.map dT)), none] S = some (.str [102, 48 + g, 40], S) := by
    exact ev_addS (A := [102, 48 + g]) (ev_addS (A := [102]) (by simp [sT]) (cl_1 (ix_tup (k := 0) rfl rfl rfl) hd) (by simp)) (by simp [sT]) (by simp)
  rw [ev_op, ev_op, e1]
  simp only [h2, addD, der_str, ev_c, sT, cps_cl, List.length_append, List.length_cons, List.length_nil, Nat.zero_add, Nat.reduceAdd, hb1, hb2, if_true]
theorem f_textC {g : Nat} (hg : g < 10) (env : DEnv) (S : Sto) : eOp addD (eC (sT "c")) (eCl strDD (aCons (eVar 0) aNil)) (some (.int (g : Int)) :: env) S = some (.str [99, 48 + g], S) := by
  exact ev_addS (A := [99]) (by simp [sT]) (cl_1 rfl (str_dig S hg)) (by simp)
theorem f_text_of_c {i : Nat} (F : DF) (S : Sto) (h : i < 10) : denF 2 1 (B_text_of F) [.int (i : Int)] S = some (.ok (.str [99, 48 + i]), S) := by
  have h1 := f_textC h [none] S
  have e2 : bNot (bTru (eUn (isiD "tuple") (eVar 0))) [some (.int (i : Int)), none] S = some (true, S) := by
    simp [isiD, kindOf, truD]
  exact den_rt rfl (seq_rt ((if_t e2).trans (ret_rt h1)))
theorem f_text_of_f {F : DF} {g : Nat} {ps : List Tm} (hg : g < 10) (hF : ∀ p ∈ ps, ∀ S, F [dT p] S = some (.ok (.str (textT p)), S)) (hl : ∀ p ∈ ps, (textT p).length ≤ 10000) (hps : ps.length ≤ 2) (S : Sto) :
    denF 2 1 (B_text_of F) [.tup (.int (g : Int) :: ps.map dT)] S = some (.ok (.str ([102, 48 + g, 40] ++ TL.joinL [44] (ps.map textT) ++ [41])), S) := by
  have h1 := f_textStep (F := F) hg hF hl hps S
  have e2 : bNot (bTru (eUn (isiD "tuple") (eVar 0))) [some (.tup (.int (g : Int) :: ps.map dT)), none] S = some (false, S) := by
    simp [isiD, kindOf, truD]
  exact den_rt rfl (seq_nx ((if_f e2).trans rfl) (ret_rt h1))
theorem f_text_of : ∀ (T : Tm) (k : Nat) (S : Sto), Dig T → dpT T ≤ k + 1 → dpT T ≤ 10 → F_text_of (k + 1) [dT T] S = some (.ok (.str (textT T)), S) := by
  intro T
  induction T with
  | c i => exact fun k S h hk h10 => f_text_of_c (F_text_of k) S h
  | f1 g a ih =>
    intro k S h hk h10
    have hp := dpT_pos a
    simp only [dpT] at hk h10
    obtain ⟨k, rfl⟩ : ∃ j, k = j + 1 := ⟨k - 1, by omega⟩
    have hla := textT_le a
    have hla2 : 2 ^ dpT a ≤ 2 ^ 10 := Nat.pow_le_pow_right (by omega) (by omega)
    have h1 := f_text_of_f (F := F_text_of (k + 1)) (ps := [a]) h.1 (fun p hp S => by rw [List.mem_singleton.mp hp]; exact ih k S h.2 (by omega) (by omega)) (fun p hp => by rw [List.mem_singleton.mp hp]; omega) (by simp) S
    have e : [102, 48 + g, 40] ++ TL.joinL [44] ([a].map textT) ++ [41] = textT (.f1 g a) := by simp [textT, TL.joinL]
    rw [e] at h1
    exact h1
  | f2 g a b iha ihb =>
    intro k S h hk h10
    have hp := dpT_pos a
    simp only [dpT] at hk h10
    obtain ⟨k, rfl⟩ : ∃ j, k = j + 1 := ⟨k - 1, by omega⟩
    have hla := textT_le a
    have hla2 : 2 ^ dpT a ≤ 2 ^ 10 := Nat.pow_le_pow_right (by omega) (by omega)
    have hlb := textT_le b
    have hlb2 : 2 ^ dpT b ≤ 2 ^ 10 := Nat.pow_le_pow_right (by omega) (by omega)
    have h1 := f_text_of_f (F := F_text_of (k + 1)) (ps := [a, b]) h.1 (fun p hp S => by
      simp only [List.mem_cons, List.not_mem_nil, or_false] at hp
      rcases hp with rfl | rfl
      · exact iha k S h.2.1 (by omega) (by omega)
      · exact ihb k S h.2.2 (by omega) (by omega)) (fun p hp => by
      simp only [List.mem_cons, List.not_mem_nil, or_false] at hp
      rcases hp with rfl | rfl <;> omega) (by simp) S
    have e : [102, 48 + g, 40] ++ TL.joinL [44] ([a, b].map textT) ++ [41] = textT (.f2 g a b) := by simp [textT, TL.joinL]
    rw [e] at h1
    exact h1
theorem f_law_text_c {i : Nat} (F : DF) (S : Sto) (h : i < 10) : denF 2 1 (B__law_text F) [.int (i : Int)] S = some (.ok (.str [99, 48 + i]), S) := by
  have h1 := f_textC h [none] S
  have e2 : bNot (bTru (eUn (isiD "tuple") (eVar 0))) [some (.int (i : Int)), none] S = some (true, S) := by
    simp [isiD, kindOf, truD]
  exact den_rt rfl (ret_rt ((eif_t e2).trans h1))
theorem f_law_text_f {F : DF} {g : Nat} {ps : List Tm} (hg : g < 10) (hF : ∀ p ∈ ps, ∀ S, F [dT p] S = some (.ok (.str (textT p)), S)) (hl : ∀ p ∈ ps, (textT p).length ≤ 10000) (hps : ps.length ≤ 2) (S : Sto) :
    denF 2 1 (B__law_text F) [.tup (.int (g : Int) :: ps.map dT)] S = some (.ok (.str ([102, 48 + g, 40] ++ TL.joinL [44] (ps.map textT) ++ [41])), S) := by
  have h1 := f_textStep (F := F) hg hF hl hps S
  have e2 : bNot (bTru (eUn (isiD "tuple") (eVar 0))) [some (.tup (.int (g : Int) :: ps.map dT)), none] S = some (false, S) := by
    simp [isiD, kindOf, truD]
  exact den_rt rfl (ret_rt ((eif_f e2).trans h1))
theorem f_law_text : ∀ (T : Tm) (k : Nat) (S : Sto), Dig T → dpT T ≤ k + 1 → dpT T ≤ 10 → F__law_text (k + 1) [dT T] S = some (.ok (.str (textT T)), S) := by
  intro T
  induction T with
  | c i => exact fun k S h hk h10 => f_law_text_c (F__law_text k) S h
  | f1 g a ih =>
    intro k S h hk h10
    have hp := dpT_pos a
    simp only [dpT] at hk h10
    obtain ⟨k, rfl⟩ : ∃ j, k = j + 1 := ⟨k - 1, by omega⟩
    have hla := textT_le a
    have hla2 : 2 ^ dpT a ≤ 2 ^ 10 := Nat.pow_le_pow_right (by omega) (by omega)
    have h1 := f_law_text_f (F := F__law_text (k + 1)) (ps := [a]) h.1 (fun p hp S => by rw [List.mem_singleton.mp hp]; exact ih k S h.2 (by omega) (by omega)) (fun p hp => by rw [List.mem_singleton.mp hp]; omega) (by simp) S
    have e : [102, 48 + g, 40] ++ TL.joinL [44] ([a].map textT) ++ [41] = textT (.f1 g a) := by simp [textT, TL.joinL]
    rw [e] at h1
    exact h1
  | f2 g a b iha ihb =>
    intro k S h hk h10
    have hp := dpT_pos a
    simp only [dpT] at hk h10
    obtain ⟨k, rfl⟩ : ∃ j, k = j + 1 := ⟨k - 1, by omega⟩
    have hla := textT_le a
    have hla2 : 2 ^ dpT a ≤ 2 ^ 10 := Nat.pow_le_pow_right (by omega) (by omega)
    have hlb := textT_le b
    have hlb2 : 2 ^ dpT b ≤ 2 ^ 10 := Nat.pow_le_pow_right (by omega) (by omega)
    have h1 := f_law_text_f (F := F__law_text (k + 1)) (ps := [a, b]) h.1 (fun p hp S => by
      simp only [List.mem_cons, List.not_mem_nil, or_false] at hp
      rcases hp with rfl | rfl
      · exact iha k S h.2.1 (by omega) (by omega)
      · exact ihb k S h.2.2 (by omega) (by omega)) (fun p hp => by
      simp only [List.mem_cons, List.not_mem_nil, or_false] at hp
      rcases hp with rfl | rfl <;> omega) (by simp) S
    have e : [102, 48 + g, 40] ++ TL.joinL [44] ([a, b].map textT) ++ [41] = textT (.f2 g a b) := by simp [textT, TL.joinL]
    rw [e] at h1
    exact h1
theorem f_depth : ∀ (T : Tm) (k : Nat) (S : Sto), dpT T ≤ k + 1 → F_depth (k + 1) [dT T] S = some (.ok (.int (dpT T : Nat)), S)
  | .c i, k, S, hk => by
    show denF 2 1 (B_depth (F_depth k)) [.int (i : Int)] S = _
    simp [B_depth, isiD, kindOf, truD, dpT]
  | .f1 g a, k, S, hk => by
    have hp := dpT_pos a
    simp only [dpT] at hk
    obtain ⟨k, rfl⟩ : ∃ j, k = j + 1 := ⟨k - 1, by omega⟩
    have ih := fun S => f_depth a k S (by omega)
    show denF 2 1 (B_depth (F_depth (k + 1))) [.tup [.int (g : Int), dT a]] S = _
    generalize F_depth (k + 1) = F at ih
    simp [B_depth, isiD, kindOf, truD, dpT, slD, compD, wipeD, bYes, ih, maxDD, intsOf, maxL, addD]
  | .f2 g a b, k, S, hk => by
    have hp := dpT_pos a
    simp only [dpT] at hk
    obtain ⟨k, rfl⟩ : ∃ j, k = j + 1 := ⟨k - 1, by omega⟩
    have iha := fun S => f_depth a k S (by omega)
    have ihb := fun S => f_depth b k S (by omega)
    have hm : (if dpT a < dpT b then ((dpT b : Nat) : Int) else ((dpT a : Nat) : Int)) = ((max (dpT a) (dpT b) : Nat) : Int) := by
      split <;> omega
    show denF 2 1 (B_depth (F_depth (k + 1))) [.tup [.int (g : Int), dT a, dT b]] S = _
    generalize F_depth (k + 1) = F at iha ihb
    simp [B_depth, isiD, kindOf, truD, dpT, slD, compD, wipeD, bYes, iha, ihb, maxDD, intsOf, maxL, addD, hm]
section
variable {c : Nat} {fs : List Nat}
theorem isT_gen {F : DF} {d : Nat} {ps : List Tm} {env : DEnv} (hF : ∀ p ∈ ps, ∀ S, F [mD c fs, dT p, .int (d : Int)] S = some (.ok (.bl true), S)) (h0 : env[0]? = some (some (mD c fs))) (h2 : env[2]? = some (some (.int ((d : Int) + 1)))) (h6 : env.length = 6) (S : Sto) :
    runD false (gNameD 5) (eCall F (aCons (eVar 0) (aCons (eVar 5) (aCons (eOp subD (eVar 2) (eC (.int 1))) aNil)))) (wipeD env [5]) (ps.map dT) S = some (true, S) := by
  have h := run_all (g := gNameD 5) (fe := eCall F (aCons (eVar 0) (aCons (eVar 5) (aCons (eOp subD (eVar 2) (eC (.int 1))) aNil)))) (env := wipeD env [5]) (ds := ps.map dT) (S := S) (p := fun _ => true) fun x hx => by
    obtain ⟨p, hp, rfl⟩ := List.mem_map.mp hx
    match env, h6, h0, h2 with
    | [a0, a1, a2, a3, a4, a5], _, h0, h2 =>
      have q0 : a0 = some (mD c fs) := by simpa using h0
      have q2 : a2 = some (.int ((d : Int) + 1)) := by simpa using h2
      subst q0 q2
      exact ⟨_, rfl, by simp [wipeD, intOp, hF p hp]⟩
  rw [h]
  simp
theorem isT_step {F : DF} {d g : Nat} {ps : List Tm} (hg : fs[g]? = some ps.length) (hd : 1 ≤ d) (hF : ∀ p ∈ ps, ∀ S, F [mD c fs, dT p, .int (d : Int)] S = some (.ok (.bl true), S)) (S : Sto) : denF 6 3 (B_is_term F) [mD c fs, .tup (.int (g : Int) :: ps.map dT), .int ((d : Int) + 1)] S = some (.ok (.bl true), S) := by
  have hgl := (List.getElem?_eq_some_iff.mp hg).1
  have h1 := isT_gen (env := [some (mD c fs), some (.tup (.int (g : Int) :: ps.map dT)), some (.int ((d : Int) + 1)), some (.int (c : Int)), some (.tup (intsD fs)), none]) hF rfl rfl rfl S
  have k1 : ¬ (d : Int) + 1 < 2 := by omega
  have k2 : (g : Int) ≤ (fs.length : Int) - 1 := by omega
  have k3 : (intsD fs)[g]? = some (.int (ps.length : Nat)) := by simp [intsD, hg]
  have k4 : ((ps.length : Int) + 1) = (1 + (ps.length : Int)) := by omega
  have kn : ∀ S, F_is_number [.int (g : Int), .int 0, .int ((fs.length : Int) - 1)] S = some (.ok (.bl true), S) := fun S => by
    rw [f_is_number]
    simp [k2]
  simp only [mD] at h1 ⊢
  simp [B_is_term, isiD, kindOf, truD, lenD, intOp, k1, ixD, kn, neD, eqB_int, atI_nat, k3, addD, k4, slD, h1]
theorem f_is_term (m : MOk c fs) : ∀ (T : Tm) (k d : Nat) (S : Sto), TOk c fs T → dpT T ≤ d → d ≤ k + 1 → F_is_term (k + 1) [mD c fs, dT T, .int (d : Int)] S = some (.ok (.bl true), S)
  | .c i, k, d, S, h, hd, hk => by
    have hi : i < c := h
    have k2 : (i : Int) ≤ (c : Int) - 1 := by omega
    show denF 6 3 (B_is_term (F_is_term k)) [mD c fs, .int (i : Int), .int (d : Int)] S = _
    have kn : ∀ S, F_is_number [.int (i : Int), .int 0, .int ((c : Int) - 1)] S = some (.ok (.bl true), S) := fun S => by
      rw [f_is_number]
      simp [k2]
    simp [B_is_term, mD, isiD, kindOf, truD, intOp, kn]
  | .f1 g a, k, d, S, h, hd, hk => by
    have hp := dpT_pos a
    simp only [dpT] at hd
    obtain ⟨k, rfl⟩ : ∃ j, k = j + 1 := ⟨k - 1, by omega⟩
    obtain ⟨d, rfl⟩ : ∃ j, d = j + 1 := ⟨d - 1, by omega⟩
    have ih := fun S => f_is_term m a k d S h.2 (by omega) (by omega)
    have h1 := isT_step (F := F_is_term (k + 1)) (c := c) (fs := fs) (d := d) (g := g) (ps := [a]) h.1 (by omega) (fun p hp S => by rw [List.mem_singleton.mp hp]; exact ih S) S
    exact h1
  | .f2 g a b, k, d, S, h, hd, hk => by
    have hp := dpT_pos a
    simp only [dpT] at hd
    obtain ⟨k, rfl⟩ : ∃ j, k = j + 1 := ⟨k - 1, by omega⟩
    obtain ⟨d, rfl⟩ : ∃ j, d = j + 1 := ⟨d - 1, by omega⟩
    have iha := fun S => f_is_term m a k d S h.2.1 (by omega) (by omega)
    have ihb := fun S => f_is_term m b k d S h.2.2 (by omega) (by omega)
    have h1 := isT_step (F := F_is_term (k + 1)) (c := c) (fs := fs) (d := d) (g := g) (ps := [a, b]) h.1 (by omega) (fun p hp S => by
      simp only [List.mem_cons, List.not_mem_nil, or_false] at hp
      rcases hp with rfl | rfl
      · exact iha S
      · exact ihb S) S
    exact h1
end
end L2.DL
-- part P23
set_option maxHeartbeats 4000000
/-! P23: lines done, programs run. -/
namespace L2.DL
open PySem PySem.Spec PyProof.Rows
def hT (hs : List Tm) (s : Nat) : Tm := (hs[s]?).getD (.c 0)
def nextT (hs : List Tm) : NL → Tm
  | (_, none, s :: _) => hT hs s
  | (_, some g, [s]) => .f1 g (hT hs s)
  | (_, some g, s :: u :: _) => .f2 g (hT hs s) (hT hs u)
  | _ => .c 0
def doneT (hs : List Tm) (l : NL) : List Tm := hs.set l.1 (nextT hs l)
structure HOk (c : Nat) (fs : List Nat) (d : Nat) (hs : List Tm) : Prop where
  len : hs.length = c
  ok : ∀ T ∈ hs, TOk c fs T ∧ dpT T ≤ d
theorem hT_mem {hs : List Tm} {s : Nat} (h : s < hs.length) : hT hs s ∈ hs := by
  unfold hT
  rw [List.getElem?_eq_getElem h]
  exact List.getElem_mem h
theorem hT_get {hs : List Tm} {s : Nat} (h : s < hs.length) : hs[s]? = some (hT hs s) := by
  unfold hT
  rw [List.getElem?_eq_getElem h]
  rfl
section
variable {c : Nat} {fs : List Nat}
theorem nextT_ok (m : MOk c fs) {d : Nat} {hs : List Tm} {l : NL} (h : HOk c fs d hs) (hl : NOk c fs l) : TOk c fs (nextT hs l) ∧ dpT (nextT hs l) ≤ d + 1 := by
  have hlen := h.len
  have q : ∀ s, s < c → TOk c fs (hT hs s) ∧ dpT (hT hs s) ≤ d := fun s hs' => h.ok _ (hT_mem (by omega))
  rcases hl.forms m with ⟨a, s, rfl, h1, h2, h3⟩ | ⟨a, g, s, rfl, h1, h2, h3, h4⟩ | ⟨a, g, s, t, rfl, h1, h2, h3, h4, h5⟩
  · obtain ⟨q1, q2⟩ := q s h2
    exact ⟨q1, by simp only [nextT]; omega⟩
  · obtain ⟨q1, q2⟩ := q s h3
    exact ⟨⟨h4, q1⟩, by simp only [nextT, dpT]; omega⟩
  · obtain ⟨q1, q2⟩ := q s h3
    obtain ⟨r1, r2⟩ := q t h4
    exact ⟨⟨h5, q1, r1⟩, by simp only [nextT, dpT]; omega⟩
theorem HOk.done (m : MOk c fs) {d : Nat} {hs : List Tm} {l : NL} (h : HOk c fs d hs) (hl : NOk c fs l) : HOk c fs (d + 1) (doneT hs l) := by
  obtain ⟨n1, n2⟩ := nextT_ok m h hl
  refine ⟨by simp [doneT, h.len], fun T hT => ?_⟩
  rcases List.mem_or_eq_of_mem_set hT with z | z
  · have := h.ok T z
    exact ⟨this.1, by omega⟩
  · rw [z]; exact ⟨n1, n2⟩
theorem HOk.up {d e : Nat} {hs : List Tm} (h : HOk c fs d hs) (hd : d ≤ e) : HOk c fs e hs := ⟨h.len, fun T hT => ⟨(h.ok T hT).1, by have := (h.ok T hT).2; omega⟩⟩
theorem ev_tslto {f g : EM} {env : DEnv} {S : Sto} {A : List D} {k : Nat} (h1 : f env S = some (.tup A, S)) (h2 : g env S = some (.int (k : Int), S)) : eSl slD f oNone (oSome g) env S = some (.tup (A.take k), S) := by
  rw [ev_sl, h1]
  simp only [ev_onone, ev_osome, h2, slD, der_tup, cut_to]
theorem ev_tslfrom {f g : EM} {env : DEnv} {S : Sto} {A : List D} {k : Nat} (h1 : f env S = some (.tup A, S)) (h2 : g env S = some (.int (k : Int), S)) : eSl slD f (oSome g) oNone env S = some (.tup (A.drop k), S) := by
  rw [ev_sl, h1]
  simp only [ev_onone, ev_osome, h2, slD, der_tup, cut_from]
theorem ev_tup1 {f : EM} {env : DEnv} {S S' : Sto} {d : D} (h : f env S = some (d, S')) : eTup (aCons f aNil) env S = some (.tup [d], S') := by
  rw [ev_tup, ev_acons, h]
  simp
theorem ev_put {X : EM} {env : DEnv} {S : Sto} {hs : List Tm} {a : Nat} {t : Tm} (h0 : eVar 0 env S = some (.tup (hs.map dT), S)) (h2 : eVar 2 env S = some (.int (a : Int), S)) (hX : X env S = some (dT t, S)) (ha : a < hs.length) (hl : hs.length ≤ 1000) :
    eOp addD (eOp addD (eSl slD (eVar 0) oNone (oSome (eVar 2))) (eTup (aCons X aNil))) (eSl slD (eVar 0) (oSome (eOp addD (eVar 2) (eC (.int 1)))) oNone) env S = some (.tup ((hs.set a t).map dT), S) := by
  have h := ev_addT (ev_addT (ev_tslto h0 h2) (ev_tup1 hX) (by simp; omega)) (ev_tslfrom h0 (ev_inc h2)) (by simp; omega)
  rw [h, List.set_eq_take_append_cons_drop, if_pos ha]
  simp [List.map_take, List.map_drop]
theorem ev_held_at {env : DEnv} {S : Sto} {hs : List Tm} {srcs : List Nat} {fe : EM} {i : Nat} (hi : i < env.length) (hi0 : i ≠ 0) (h0 : env[0]? = some (some (.tup (hs.map dT)))) (he : fe env S = some (.tup (intsD srcs), S)) (hs' : ∀ s ∈ srcs, s < hs.length) (hl : srcs.length ≤ 2) :
    eCl tupDD (aCons (eComp (tupOf fe) (gNameD i) bYes (eOp ixD (eVar 0) (eVar i)) [i]) aNil) env S = some (.tup (srcs.map fun s => dT (hT hs s)), S) := by
  have h1 : eComp (tupOf fe) (gNameD i) bYes (eOp ixD (eVar 0) (eVar i)) [i] env S = some (.lst (srcs.map fun s => dT (hT hs s)), S) := by
    refine ev_compV (g := fun (s : Nat) => D.int (s : Int)) (by rw [ev_tupOf, he]; rfl) (fun s hss => ?_) (by omega)
    have e0 : eVar 0 (env.set i (some (.int (s : Int)))) S = some (.tup (hs.map dT), S) := by
      simp only [eVar]
      rw [List.getElem?_set_ne hi0, h0]
    have hat : atI (hs.map dT) (s : Int) = some (dT (hT hs s)) := by
      rw [atI_nat, List.getElem?_map, hT_get (hs' s hss)]; rfl
    rw [ev_op, e0]
    simp only [eVar_set hi, ixD, der_tup, hat]
  rw [ev_cl, ev_acons, h1]
  simp [tupDD]
theorem f_law_done (m : MOk c fs) {d : Nat} {hs : List Tm} {l : NL} (h : HOk c fs d hs) (hl : NOk c fs l) (S : Sto) : F__law_done [.tup (hs.map dT), nlD l] S = some (.ok (.tup ((doneT hs l).map dT)), S) := by
  have hlen := h.len
  have hc := m.c4
  have hsl : l.2.2.length ≤ 2 := by
    rcases hl.forms m with ⟨a, s, rfl, h1, h2, h3⟩ | ⟨a, g, s, rfl, h1, h2, h3, h4⟩ | ⟨a, g, s, t, rfl, h1, h2, h3, h4, h5⟩ <;> simp
  have hA := ev_held_at (env := [some (.tup (hs.map dT)), some (nlD l), some (.int (l.1 : Int)), some (gD l.2.1), some (.tup (intsD l.2.2)), none, none]) (S := S) (fe := eVar 4) (i := 6) (by simp) (by decide) rfl rfl (fun s hs' => by have := hl.srcs s hs'; omega) hsl
  have hX : eIf (bOf (eOp isND (eVar 3) (eC .non))) (eOp ixD (eVar 5) (eC (.int 0))) (eOp addD (eTup (aCons (eVar 3) aNil)) (eVar 5)) [some (.tup (hs.map dT)), some (nlD l), some (.int (l.1 : Int)), some (gD l.2.1), some (.tup (intsD l.2.2)), some (.tup (l.2.2.map fun s => dT (hT hs s))), none] S = some (dT (nextT hs l), S) := by
    rcases hl.forms m with ⟨a, s, rfl, h1, h2, h3⟩ | ⟨a, g, s, rfl, h1, h2, h3, h4⟩ | ⟨a, g, s, t, rfl, h1, h2, h3, h4, h5⟩
    · simp [gD, isND, isNB, ixD, nextT]
    · simp [gD, isND, isNB, addD, nextT, dT]
    · simp [gD, isND, isNB, addD, nextT, dT]
  have hP := ev_put (env := [some (.tup (hs.map dT)), some (nlD l), some (.int (l.1 : Int)), some (gD l.2.1), some (.tup (intsD l.2.2)), some (.tup (l.2.2.map fun s => dT (hT hs s))), none]) (a := l.1) rfl rfl hX (by have := hl.cell; omega) (by omega)
  have hasg : sAsg (gTupD [2,3,4]) (eVar 1) [some (.tup (hs.map dT)), some (nlD l), none, none, none, none, none] S = some (.nx, [some (.tup (hs.map dT)), some (nlD l), some (.int (l.1 : Int)), some (gD l.2.1), some (.tup (intsD l.2.2)), none, none], S) := by
    rw [ev_asg]
    simp only [ev_var0, ev_var]
    rw [nlD_eq l]
    rfl
  have hB : B__law_done [some (.tup (hs.map dT)), some (nlD l), none, none, none, none, none] S = some (.rt (.tup ((doneT hs l).map dT)), [some (.tup (hs.map dT)), some (nlD l), some (.int (l.1 : Int)), some (gD l.2.1), some (.tup (intsD l.2.2)), some (.tup (l.2.2.map fun s => dT (hT hs s))), none], S) := by
    unfold B__law_done
    refine seq_nx hasg (seq_nx (set_nx hA) ?_)
    rw [ev_ret]
    simp only [List.set_cons_succ, List.set_cons_zero, hP]
    rfl
  unfold F__law_done
  rw [ev_denF]
  have e : (startD 7 [.tup (hs.map dT), nlD l]) = [some (.tup (hs.map dT)), some (nlD l), none, none, none, none, none] := rfl
  rw [e, hB]
  rfl
theorem f_done (m : MOk c fs) {d : Nat} {hs : List Tm} {l : NL} (h : HOk c fs d hs) (hd : d ≤ 7) (hl : NOk c fs l) (S : Sto) : F_done [.tup (hs.map dT), nlD l] S = some (.ok (.tup ((doneT hs l).map dT)), S) := by
  have hlen := h.len
  have hc := m.c4
  obtain ⟨n1, n2⟩ := nextT_ok m h hl
  have hsl : l.2.2.length ≤ 2 := by
    rcases hl.forms m with ⟨a, s, rfl, h1, h2, h3⟩ | ⟨a, g, s, rfl, h1, h2, h3, h4⟩ | ⟨a, g, s, t, rfl, h1, h2, h3, h4, h5⟩ <;> simp
  have hA := ev_held_at (env := [some (.tup (hs.map dT)), some (nlD l), some (.int (l.1 : Int)), some (gD l.2.1), some (.tup (intsD l.2.2)), none, none]) (S := S) (fe := eVar 4) (i := 6) (by simp) (by decide) rfl rfl (fun s hs' => by have := hl.srcs s hs'; omega) hsl
  have hdep := f_depth (nextT hs l) 19 S (by omega)
  have hX : sIf (bOf (eOp isND (eVar 3) (eC .non))) (sSet 5 (eOp ixD (eVar 0) (eOp ixD (eVar 4) (eC (.int 0))))) (sSeq (sSet 5 (eOp addD (eTup (aCons (eVar 3) aNil)) (eCl tupDD (aCons (eComp (tupOf (eVar 4)) (gNameD 6) bYes (eOp ixD (eVar 0) (eVar 6)) [6]) aNil)))) (sIf (bOf (eOp gtD (eCall (F_depth 20) (aCons (eVar 5) aNil)) (eC (.int 8)))) sNever sNil))
      [some (.tup (hs.map dT)), some (nlD l), some (.int (l.1 : Int)), some (gD l.2.1), some (.tup (intsD l.2.2)), none, none] S = some (.nx, [some (.tup (hs.map dT)), some (nlD l), some (.int (l.1 : Int)), some (gD l.2.1), some (.tup (intsD l.2.2)), some (dT (nextT hs l)), none], S) := by
    have hs1 : ∀ fn : Nat, l.2.1 = some fn → dT (nextT hs l) = .tup (.int (fn : Int) :: l.2.2.map fun s => dT (hT hs s)) := fun fn hfn => by
      rcases hl.forms m with ⟨a, s, rfl, h1, h2, h3⟩ | ⟨a, g, s, rfl, h1, h2, h3, h4⟩ | ⟨a, g, s, t, rfl, h1, h2, h3, h4, h5⟩
      · cases hfn
      · cases hfn; rfl
      · cases hfn; rfl
    cases hfn : l.2.1 with
    | none =>
      obtain ⟨s, hs2, hne⟩ := hl.none_ hfn
      have hsc := hl.srcs s (by rw [hs2]; simp)
      have hn : nextT hs l = hT hs s := by
        obtain ⟨a, fn, srcs⟩ := l
        simp only at hfn hs2
        subst hfn hs2
        rfl
      have hat : atI (hs.map dT) (s : Int) = some (dT (hT hs s)) := by
        rw [atI_nat, List.getElem?_map, hT_get (by omega)]; rfl
      rw [ev_if, hn, hs2]
      simp [gD, isND, isNB, ixD, intsD]
      have hat' : (hs.map dT)[s]? = some (dT (hT hs s)) := by rw [← atI_nat]; exact hat
      rw [atI_nat]
      simp [hT_get (show s < hs.length by omega)]
    | some g =>
      rw [hfn] at hA
      have e := hs1 g hfn
      have hb : 1 + (l.2.2.map fun s => dT (hT hs s)).length ≤ 16777216 := by simp; omega
      have hset : eOp addD (eTup (aCons (eVar 3) aNil)) (eCl tupDD (aCons (eComp (tupOf (eVar 4)) (gNameD 6) bYes (eOp ixD (eVar 0) (eVar 6)) [6]) aNil)) [some (.tup (hs.map dT)), some (nlD l), some (.int (l.1 : Int)), some (gD (some g)), some (.tup (intsD l.2.2)), none, none] S = some (dT (nextT hs l), S) := by
        rw [e]
        exact ev_addT (ev_tup1 rfl) hA hb
      have hg8 : ¬ (8 : Int) < ((dpT (nextT hs l) : Nat) : Int) := by omega
      rw [ev_if]
      have hcnd : bOf (eOp isND (eVar 3) (eC .non)) [some (.tup (hs.map dT)), some (nlD l), some (.int (l.1 : Int)), some (gD (some g)), some (.tup (intsD l.2.2)), none, none] S = some (false, S) := by
        simp [gD, isND, isNB]
      rw [hcnd]
      dsimp only
      rw [if_neg (by decide)]
      refine seq_nx (set_nx hset) ?_
      simp only [List.set_cons_succ, List.set_cons_zero, ev_if, ev_bof, ev_op, ev_call, ev_acons, ev_var0, ev_var, ev_anil, hdep, ev_c, intOp, hg8, decide_false, if_true, ev_nil]
      simp
  have hP := ev_put (X := eVar 5) (env := [some (.tup (hs.map dT)), some (nlD l), some (.int (l.1 : Int)), some (gD l.2.1), some (.tup (intsD l.2.2)), some (dT (nextT hs l)), none]) (S := S) (a := l.1) rfl rfl rfl (by have := hl.cell; omega) (by omega)
  have hasg : sAsg (gTupD [2,3,4]) (eVar 1) [some (.tup (hs.map dT)), some (nlD l), none, none, none, none, none] S = some (.nx, [some (.tup (hs.map dT)), some (nlD l), some (.int (l.1 : Int)), some (gD l.2.1), some (.tup (intsD l.2.2)), none, none], S) := by
    rw [ev_asg]
    simp only [ev_var0, ev_var]
    rw [nlD_eq l]
    rfl
  have hB : B_done [some (.tup (hs.map dT)), some (nlD l), none, none, none, none, none] S = some (.rt (.tup ((doneT hs l).map dT)), [some (.tup (hs.map dT)), some (nlD l), some (.int (l.1 : Int)), some (gD l.2.1), some (.tup (intsD l.2.2)), some (dT (nextT hs l)), none], S) := by
    unfold B_done
    refine seq_nx hasg (seq_nx hX ?_)
    rw [ev_ret]
    simp only [hP]
    rfl
  unfold F_done
  rw [ev_denF]
  have e : (startD 7 [.tup (hs.map dT), nlD l]) = [some (.tup (hs.map dT)), some (nlD l), none, none, none, none, none] := rfl
  rw [e, hB]
  rfl
/-! ### a run -/
def firstT (c : Nat) : List Tm := (List.range c).map Tm.c
theorem first_D (c : Nat) : rgL 0 c = (firstT c).map dT := by
  unfold rgL firstT
  rw [List.map_map]
  apply List.map_congr_left
  intro i _
  simp [dT]
theorem first_ok : HOk c fs 1 (firstT c) := ⟨by simp [firstT], fun T hT => by
  unfold firstT at hT
  obtain ⟨i, hi, rfl⟩ := List.mem_map.mp hT
  exact ⟨List.mem_range.mp hi, by simp [dpT]⟩⟩
def runT (ls : List NL) (hs : List Tm) : List Tm := ls.foldl doneT hs
theorem run_ok (m : MOk c fs) : ∀ (ls : List NL) (d : Nat) (hs : List Tm), (∀ l ∈ ls, NOk c fs l) → HOk c fs d hs → HOk c fs (d + ls.length) (runT ls hs)
  | [], d, hs, _, h => h
  | l :: ls, d, hs, hl, h => by
    have := run_ok m ls (d + 1) (doneT hs l) (fun k hk => hl k (List.mem_cons_of_mem _ hk)) (h.done m (hl l List.mem_cons_self))
    have e : d + (l :: ls).length = d + 1 + ls.length := by simp; omega
    rw [e]; exact this
theorem run_loop (m : MOk c fs) {a0 a1 : Option D} : ∀ (ls : List NL) (d : Nat) (hs : List Tm) (v3 : Option D) (S : Sto), (∀ l ∈ ls, NOk c fs l) → HOk c fs d hs →
    ∃ v3', forD (gNameD 3) (sSet 2 (eCall F__law_done (aCons (eVar 2) (aCons (eVar 3) aNil)))) (ls.map nlD) [a0, a1, some (.tup (hs.map dT)), v3] S = some (.nx, [a0, a1, some (.tup ((runT ls hs).map dT)), v3'], S)
  | [], d, hs, v3, S, _, _ => ⟨v3, rfl⟩
  | l :: ls, d, hs, v3, S, hl, h => by
    obtain ⟨v3', ih⟩ := run_loop m ls (d + 1) (doneT hs l) (some (nlD l)) S (fun k hk => hl k (List.mem_cons_of_mem _ hk)) (h.done m (hl l List.mem_cons_self))
    refine ⟨v3', ?_⟩
    have h1 := f_law_done m h (hl l List.mem_cons_self) S
    rw [List.map_cons, ev_for_cons, ev_gname]
    simp only [List.set_cons_succ, List.set_cons_zero, ev_set, ev_call, ev_acons, ev_var0, ev_var, ev_anil, h1]
    exact ih
theorem f_law_run (m : MOk c fs) {ls : List NL} (hl : ∀ l ∈ ls, NOk c fs l) (S : Sto) : F__law_run [mD c fs, .tup (ls.map nlD)] S = some (.ok (.tup ((runT ls (firstT c)).map dT)), S) := by
  obtain ⟨v3, h1⟩ := run_loop m (a0 := some (mD c fs)) (a1 := some (.tup (ls.map nlD))) ls 1 (firstT c) none S hl first_ok
  have hc := m.c4
  have hc' : (0 : Int) ≤ (c : Int) ∧ (c : Int) ≤ 16777216 := by omega
  have e1 : eTupRg (eOp ixD (eVar 0) (eC (.int 0))) [some (mD c fs), some (.tup (ls.map nlD)), none, none] S = some (.tup ((firstT c).map dT), S) := by
    rw [ev_tuprg]
    simp only [ev_op, ev_var0, ev_c, ixD, mD, der_tup, atI_0, List.getElem?_cons_zero, hc', and_self, if_true, Int.toNat_natCast, first_D]
  have hB : B__law_run [some (mD c fs), some (.tup (ls.map nlD)), none, none] S = some (.rt (.tup ((runT ls (firstT c)).map dT)), [some (mD c fs), some (.tup (ls.map nlD)), some (.tup ((runT ls (firstT c)).map dT)), v3], S) := by
    unfold B__law_run
    refine seq_nx (set_nx e1) (seq_nx (e := [some (mD c fs), some (.tup (ls.map nlD)), some (.tup ((runT ls (firstT c)).map dT)), v3]) (s := S) ?_ ?_)
    · rw [ev_for]
      exact h1
    · rfl
  unfold F__law_run
  rw [ev_denF]
  have e : (startD 4 [mD c fs, .tup (ls.map nlD)]) = [some (mD c fs), some (.tup (ls.map nlD)), none, none] := rfl
  rw [e, hB]
  rfl
theorem f_first (m : MOk c fs) (S : Sto) : F_first_terms [mD c fs] S = some (.ok (.tup ((firstT c).map dT)), S) := by
  have hc := m.c4
  have hc' : (0 : Int) ≤ (c : Int) ∧ (c : Int) ≤ 16777216 := by omega
  simp [F_first_terms, B_first_terms, mD, ixD, hc', first_D]
end
end L2.DL
-- part P24
set_option maxHeartbeats 4000000
/-! P24: a run with losses, told. -/
namespace L2.DL
open PySem PySem.Spec PyProof.Rows
def wordT (lost : Bool) : List Nat := if lost = true then [32, 108, 111, 115, 116, 32] else [32]
def rowT (k : Nat) (lost : Bool) (l : NL) (hs : List Tm) : List Nat := [48 + k] ++ wordT lost ++ lnText l ++ [32, 58, 32] ++ TL.joinL [32] (hs.map textT) ++ [10]
def heldT (lot : List Nat) (k : Nat) (l : NL) (hs : List Tm) : List Tm := if decide (k ∈ lot) = true then hs else doneT hs l
def rowsT (lot : List Nat) : Nat → List NL → List Tm → List (List Nat)
  | _, [], _ => []
  | k, l :: ls, hs => rowT k (decide (k ∈ lot)) l (heldT lot k l hs) :: rowsT lot (k + 1) ls (heldT lot k l hs)
theorem cps_lost : (Str.ofString " lost ").cps.toList = [32, 108, 111, 115, 116, 32] := by decide +kernel
theorem cps_col : (Str.ofString " : ").cps.toList = [32, 58, 32] := by decide +kernel
theorem in_lot (S : Sto) (k : Nat) (lot : List Nat) : inD S (.int (k : Int)) (.tup (intsD lot)) = some (.bl (decide (k ∈ lot))) := by
  have h1 : (intsD lot).all flatD = true := by
    unfold intsD
    rw [List.all_map, List.all_eq_true]
    intro o _; rfl
  have h2 : ((intsD lot).any fun y => eqF y (.int (k : Int))) = decide (k ∈ lot) := by
    unfold intsD
    rw [List.any_map]
    induction lot with
    | nil => rfl
    | cons a r ih =>
      have ih' := ih (by unfold intsD at h1 ⊢; simp at h1 ⊢; exact h1.2)
      rw [List.any_cons, ih']
      have e : (((fun y => eqF y (D.int (k : Int))) ∘ fun (r : Nat) => D.int (r : Int)) a) = decide (k = a) := by
        simp only [Function.comp, eqF]
        by_cases h : k = a
        · subst h; simp
        · have : ¬ (a : Int) = (k : Int) := by omega
          simp [h, this]
      rw [e]
      by_cases h : k = a <;> simp [h]
  unfold inD inB
  simp only [der_tup, flatD, h1, Bool.and_self, if_true, h2, Option.map_some]
section
variable {c : Nat} {fs : List Nat}
theorem HOk.texts (m : MOk c fs) {d : Nat} {hs : List Tm} (h : HOk c fs d hs) (hd : d ≤ 8) : hs.length ≤ 4 ∧ ∀ T ∈ hs, Dig T ∧ dpT T ≤ 8 ∧ (textT T).length ≤ 1019 := by
  refine ⟨by have := h.len; have := m.c4; omega, fun T hT => ?_⟩
  obtain ⟨h1, h2⟩ := h.ok T hT
  exact ⟨h1.dig m, by omega, textT_8 (by omega)⟩
theorem ev_heldS {F : DF} {fe : EM} {i : Nat} {env : DEnv} {S : Sto} {hs : List Tm} (hi : i < env.length) (he : fe env S = some (.tup (hs.map dT), S)) (hF : ∀ T ∈ hs, ∀ S, F [dT T] S = some (.ok (.str (textT T)), S)) (hl : hs.length ≤ 4) (ht : ∀ T ∈ hs, (textT T).length ≤ 1019) :
    eM1 joinDD (eC (sT " ")) (eComp (tupOf fe) (gNameD i) bYes (eCall F (aCons (eVar i) aNil)) [i]) env S = some (.str (TL.joinL [32] (hs.map textT)), S) ∧ (TL.joinL [32] (hs.map textT)).length ≤ 4080 := by
  have h1 := ev_compV (src := tupOf fe) (fe := eCall F (aCons (eVar i) aNil)) (i := i) (env := env) (S := S) (S' := S) (xs := hs) (g := dT) (h := fun T => .str (textT T)) (by rw [ev_tupOf, he]) (fun T hT => by
    simp [eVar_set hi, hF T hT]) (by omega)
  have e : (hs.map fun T => D.str (textT T)) = (hs.map textT).map D.str := by simp
  rw [e] at h1
  have hk : ∀ y ∈ hs.map textT, y.length ≤ 1019 := fun y hy => by
    obtain ⟨p, hp, rfl⟩ := List.mem_map.mp hy
    exact ht p hp
  have hj := joinL_len (sep := [32]) hk
  simp only [List.length_map, List.length_cons, List.length_nil] at hj
  refine ⟨ev_join (sep := [32]) (fs := eC (sT " ")) (k := 1019) (by simp [sT]) h1 hk (by simp; omega), by omega⟩
def L_told_0 : SM := sSeq (sSet 8 (eOp inD (eVar 6) (eVar 3))) (sSeq (sIf (bNot (bTru (eVar 8))) (sSet 4 (eCall F_done (aCons (eVar 4) (aCons (eVar 7) aNil)))) sNil) (sSeq (sSet 9 (eIf (bTru (eVar 8)) (eC (sT " lost ")) (eC (sT " ")))) (sAppend (eVar 5) (eOp addD (eOp addD (eOp addD (eOp addD (eOp addD (eCl strDD (aCons (eVar 6) aNil)) (eVar 9)) (eCall F_line_text (aCons (eVar 7) aNil))) (eC (sT " : "))) (eM1 joinDD (eC (sT " ")) (eComp (tupOf (eVar 4)) (gNameD 10) bYes (eCall (F_text_of 20) (aCons (eVar 10) aNil)) [10]))) (eC (sT "\n"))))))
def L__law_rows_0 : SM := sSeq (sSet 3 (eIf (bOf (eOp inD (eVar 5) (eVar 2))) (eVar 3) (eCall F__law_done (aCons (eVar 3) (aCons (eOp ixD (eVar 1) (eVar 5)) aNil))))) (sSeq (sSet 6 (eIf (bOf (eOp inD (eVar 5) (eVar 2))) (eC (sT " lost ")) (eC (sT " ")))) (sSet 4 (eOp addD (eOp addD (eOp addD (eOp addD (eOp addD (eOp addD (eVar 4) (eCl strDD (aCons (eVar 5) aNil))) (eVar 6)) (eCall F__law_line_text (aCons (eOp ixD (eVar 1) (eVar 5)) aNil))) (eC (sT " : "))) (eM1 joinDD (eC (sT " ")) (eComp (tupOf (eVar 3)) (gNameD 7) bYes (eCall (F__law_text 20) (aCons (eVar 7) aNil)) [7]))) (eC (sT "\n")))))
theorem wordT_len (b : Bool) : (wordT b).length ≤ 6 := by cases b <;> simp [wordT]
theorem heldT_ok (m : MOk c fs) {d k : Nat} {hs : List Tm} {l : NL} {lot : List Nat} (h : HOk c fs d hs) (hl : NOk c fs l) : HOk c fs (d + 1) (heldT lot k l hs) := by
  unfold heldT
  split
  · exact h.up (by omega)
  · exact h.done m hl
theorem rowT_len (m : MOk c fs) {d k : Nat} {b : Bool} {hs : List Tm} {l : NL} (h : HOk c fs d hs) (hd : d ≤ 8) (hl : NOk c fs l) : (rowT k b l hs).length ≤ 4200 := by
  obtain ⟨h1, h2⟩ := h.texts m hd
  have hk : ∀ y ∈ hs.map textT, y.length ≤ 1019 := fun y hy => by
    obtain ⟨p, hp, rfl⟩ := List.mem_map.mp hy
    exact (h2 p hp).2.2
  have hj := joinL_len (sep := [32]) hk
  simp only [List.length_map, List.length_cons, List.length_nil] at hj
  have := (hl.plain m).2.1
  have := wordT_len b
  simp only [rowT, List.length_append, List.length_cons, List.length_nil]
  omega
/-- the row's text -/
theorem ev_row {f1 f2 f3 f5 : EM} {env : DEnv} {S : Sto} {A B C E : List Nat} (h1 : f1 env S = some (.str A, S)) (h2 : f2 env S = some (.str B, S)) (h3 : f3 env S = some (.str C, S)) (h5 : f5 env S = some (.str E, S)) (l1 : A.length ≤ 100000) (l2 : B.length ≤ 6) (l3 : C.length ≤ 14) (l5 : E.length ≤ 4080) :
    eOp addD (eOp addD (eOp addD (eOp addD (eOp addD f1 f2) f3) (eC (sT " : "))) f5) (eC (sT "\n")) env S = some (.str (A ++ B ++ C ++ [32, 58, 32] ++ E ++ [10]), S) := by
  have hc : eC (sT " : ") env S = some (.str [32, 58, 32], S) := by simp [sT, cps_col]
  have hn : eC (sT "\n") env S = some (.str [10], S) := by simp [sT]
  exact ev_addS (ev_addS (ev_addS (ev_addS (ev_addS h1 h2 (by omega)) h3 (by simp; omega)) hc (by simp; omega)) h5 (by simp; omega)) hn (by simp; omega)
theorem ta_step (m : MOk c fs) {d k : Nat} {hs : List Tm} {l : NL} {lot : List Nat} {rows : List (List Nat)} {S : Sto} {a0 a1 a2 v8 v9 v10 : Option D} (h : HOk c fs d hs) (hd : d ≤ 7) (hl : NOk c fs l) (hk : k < 10) (hr : rows.length ≤ 1000) :
    ∃ v8' v9', L_told_0 [a0, a1, a2, some (.tup (intsD lot)), some (.tup (hs.map dT)), some (.mu S.length), some (.int (k : Int)), some (nlD l), v8, v9, v10] (S ++ [.lst (rows.map .str)]) =
      some (.nx, [a0, a1, a2, some (.tup (intsD lot)), some (.tup ((heldT lot k l hs).map dT)), some (.mu S.length), some (.int (k : Int)), some (nlD l), v8', v9', v10], S ++ [.lst ((rows ++ [rowT k (decide (k ∈ lot)) l (heldT lot k l hs)]).map .str)]) := by
  have hh := heldT_ok m (k := k) (lot := lot) h hl
  obtain ⟨t1, t2⟩ := hh.texts m (by omega)
  refine ⟨some (.bl (decide (k ∈ lot))), some (.str (wordT (decide (k ∈ lot)))), ?_⟩
  have s1 : eOp inD (eVar 6) (eVar 3) [a0, a1, a2, some (.tup (intsD lot)), some (.tup (hs.map dT)), some (.mu S.length), some (.int (k : Int)), some (nlD l), v8, v9, v10] (S ++ [.lst (rows.map .str)]) = some (.bl (decide (k ∈ lot)), S ++ [.lst (rows.map .str)]) := by
    rw [ev_op]
    simp only [ev_var0, ev_var, in_lot]
  have s2 : sIf (bNot (bTru (eVar 8))) (sSet 4 (eCall F_done (aCons (eVar 4) (aCons (eVar 7) aNil)))) sNil [a0, a1, a2, some (.tup (intsD lot)), some (.tup (hs.map dT)), some (.mu S.length), some (.int (k : Int)), some (nlD l), some (.bl (decide (k ∈ lot))), v9, v10] (S ++ [.lst (rows.map .str)]) =
      some (.nx, [a0, a1, a2, some (.tup (intsD lot)), some (.tup ((heldT lot k l hs).map dT)), some (.mu S.length), some (.int (k : Int)), some (nlD l), some (.bl (decide (k ∈ lot))), v9, v10], S ++ [.lst (rows.map .str)]) := by
    have hF := f_done m h hd hl (S ++ [.lst (rows.map .str)])
    rw [ev_if]
    simp only [ev_not, ev_tru, ev_var0, ev_var, truD, der_bl]
    unfold heldT
    cases hdec : decide (k ∈ lot) with
    | true => simp
    | false => simp [hF]
  have s3 : eIf (bTru (eVar 8)) (eC (sT " lost ")) (eC (sT " ")) [a0, a1, a2, some (.tup (intsD lot)), some (.tup ((heldT lot k l hs).map dT)), some (.mu S.length), some (.int (k : Int)), some (nlD l), some (.bl (decide (k ∈ lot))), v9, v10] (S ++ [.lst (rows.map .str)]) = some (.str (wordT (decide (k ∈ lot))), S ++ [.lst (rows.map .str)]) := by
    rw [ev_eif]
    simp only [ev_tru, ev_var0, ev_var, truD, der_bl]
    cases hdec : decide (k ∈ lot) <;> simp [sT, cps_lost, wordT]
  have s4 := ev_row (f1 := eCl strDD (aCons (eVar 6) aNil)) (f2 := eVar 9) (f3 := eCall F_line_text (aCons (eVar 7) aNil)) (f5 := eM1 joinDD (eC (sT " ")) (eComp (tupOf (eVar 4)) (gNameD 10) bYes (eCall (F_text_of 20) (aCons (eVar 10) aNil)) [10]))
    (env := [a0, a1, a2, some (.tup (intsD lot)), some (.tup ((heldT lot k l hs).map dT)), some (.mu S.length), some (.int (k : Int)), some (nlD l), some (.bl (decide (k ∈ lot))), some (.str (wordT (decide (k ∈ lot)))), v10]) (S := S ++ [.lst (rows.map .str)]) (A := [48 + k]) (B := wordT (decide (k ∈ lot))) (C := lnText l) (E := TL.joinL [32] ((heldT lot k l hs).map textT))
    (cl_1 rfl (str_dig _ hk)) rfl (by rw [ev_call]; simp only [ev_acons, ev_var0, ev_var, ev_anil, f_line_text m hl])
    (ev_heldS (by simp) rfl (fun T hT S => f_text_of T 19 S (t2 T hT).1 (by have := (t2 T hT).2.1; omega) (by have := (t2 T hT).2.1; omega)) t1 (fun T hT => (t2 T hT).2.2)).1 (by simp) (wordT_len _) (hl.plain m).2.1
    (ev_heldS (env := [a0, a1, a2, some (.tup (intsD lot)), some (.tup ((heldT lot k l hs).map dT)), some (.mu S.length), some (.int (k : Int)), some (nlD l), some (.bl (decide (k ∈ lot))), some (.str (wordT (decide (k ∈ lot)))), v10]) (S := S) (F := F_text_of 20) (fe := eVar 4) (i := 10) (by simp) rfl (fun T hT S => f_text_of T 19 S (t2 T hT).1 (by have := (t2 T hT).2.1; omega) (by have := (t2 T hT).2.1; omega)) t1 (fun T hT => (t2 T hT).2.2)).2
  unfold L_told_0
  refine seq_nx (set_nx s1) (seq_nx s2 (seq_nx (set_nx s3) ?_))
  simp only [List.set_cons_succ, List.set_cons_zero]
  have hrl : (rows.map D.str).length < 16777216 := by simp; omega
  have hv5 : eVar 5 [a0, a1, a2, some (.tup (intsD lot)), some (.tup ((heldT lot k l hs).map dT)), some (.mu S.length), some (.int (k : Int)), some (nlD l), some (.bl (decide (k ∈ lot))), some (.str (wordT (decide (k ∈ lot)))), v10] (S ++ [.lst (rows.map .str)]) = some (.mu S.length, S ++ [.lst (rows.map .str)]) := rfl
  unfold sAppend
  rw [hv5]
  simp only [Option.bind_some, top_get, isLst, if_true, s4, hrl, top_set, rowT, List.map_append, List.map_cons, List.map_nil]
theorem told_loop (m : MOk c fs) {lot : List Nat} {S : Sto} {a0 a1 a2 : Option D} : ∀ (ls : List NL) (k d : Nat) (hs : List Tm) (rows : List (List Nat)) (v6 v7 v8 v9 v10 : Option D), (∀ l ∈ ls, NOk c fs l) → HOk c fs d hs → d + ls.length ≤ 8 → k + ls.length ≤ 10 → rows.length + ls.length ≤ 1000 →
    ∃ e4 e6 e7 e8 e9, forD (gTupD [6, 7]) L_told_0 (enumL k (ls.map nlD)) [a0, a1, a2, some (.tup (intsD lot)), some (.tup (hs.map dT)), some (.mu S.length), v6, v7, v8, v9, v10] (S ++ [.lst (rows.map .str)]) =
      some (.nx, [a0, a1, a2, some (.tup (intsD lot)), e4, some (.mu S.length), e6, e7, e8, e9, v10], S ++ [.lst ((rows ++ rowsT lot k ls hs).map .str)])
  | [], k, d, hs, rows, v6, v7, v8, v9, v10, _, _, _, _, _ => ⟨some (.tup (hs.map dT)), v6, v7, v8, v9, by simp [enumL, rowsT]⟩
  | l :: ls, k, d, hs, rows, v6, v7, v8, v9, v10, hl, h, hd, hk, hr => by
    simp only [List.length_cons] at hd hk hr
    obtain ⟨w8, w9, hs1⟩ := ta_step m (k := k) (lot := lot) (rows := rows) (S := S) (a0 := a0) (a1 := a1) (a2 := a2) (v8 := v8) (v9 := v9) (v10 := v10) h (by omega) (hl l List.mem_cons_self) (by omega) (by omega)
    obtain ⟨e4, e6, e7, e8, e9, ih⟩ := told_loop m ls (k + 1) (d + 1) (heldT lot k l hs) (rows ++ [rowT k (decide (k ∈ lot)) l (heldT lot k l hs)]) (some (.int (k : Int))) (some (nlD l)) w8 w9 v10 (fun q hq => hl q (List.mem_cons_of_mem _ hq)) (heldT_ok m h (hl l List.mem_cons_self)) (by omega) (by omega) (by simp; omega)
    refine ⟨e4, e6, e7, e8, e9, ?_⟩
    rw [List.map_cons, enumL, ev_for_cons, ev_gtup]
    simp only [List.length_cons, List.length_nil, if_true, setAll_cons, setAll_nil, List.set_cons_succ, List.set_cons_zero]
    rw [hs1]
    dsimp only
    rw [ih, rowsT]
    simp
theorem rows_step (m : MOk c fs) {d k : Nat} {hs : List Tm} {ls : List NL} {l : NL} {lot : List Nat} {acc : List Nat} {S : Sto} {a0 v6 v7 : Option D} (h : HOk c fs d hs) (hd : d ≤ 7) (hg : ls[k]? = some l) (hl : NOk c fs l) (hk : k < 10) (hr : acc.length ≤ 90000) :
    ∃ v6', L__law_rows_0 [a0, some (.tup (ls.map nlD)), some (.tup (intsD lot)), some (.tup (hs.map dT)), some (.str acc), some (.int (k : Int)), v6, v7] S =
      some (.nx, [a0, some (.tup (ls.map nlD)), some (.tup (intsD lot)), some (.tup ((heldT lot k l hs).map dT)), some (.str (acc ++ rowT k (decide (k ∈ lot)) l (heldT lot k l hs))), some (.int (k : Int)), v6', v7], S) := by
  have hh := heldT_ok m (k := k) (lot := lot) h hl
  obtain ⟨t1, t2⟩ := hh.texts m (by omega)
  have hat : atI (ls.map nlD) (k : Int) = some (nlD l) := by rw [atI_nat, List.getElem?_map, hg]; rfl
  refine ⟨some (.str (wordT (decide (k ∈ lot)))), ?_⟩
  have s1 : eIf (bOf (eOp inD (eVar 5) (eVar 2))) (eVar 3) (eCall F__law_done (aCons (eVar 3) (aCons (eOp ixD (eVar 1) (eVar 5)) aNil))) [a0, some (.tup (ls.map nlD)), some (.tup (intsD lot)), some (.tup (hs.map dT)), some (.str acc), some (.int (k : Int)), v6, v7] S = some (.tup ((heldT lot k l hs).map dT), S) := by
    have hF := f_law_done m h hl S
    rw [ev_eif]
    simp only [ev_bof, ev_op, ev_var0, ev_var, in_lot]
    unfold heldT
    cases hdec : decide (k ∈ lot) with
    | true => simp
    | false => simp [ixD, hat, hF]
  have s3 : eIf (bOf (eOp inD (eVar 5) (eVar 2))) (eC (sT " lost ")) (eC (sT " ")) [a0, some (.tup (ls.map nlD)), some (.tup (intsD lot)), some (.tup ((heldT lot k l hs).map dT)), some (.str acc), some (.int (k : Int)), v6, v7] S = some (.str (wordT (decide (k ∈ lot))), S) := by
    rw [ev_eif]
    simp only [ev_bof, ev_op, ev_var0, ev_var, in_lot]
    cases hdec : decide (k ∈ lot) <;> simp [sT, cps_lost, wordT]
  have hJ := ev_heldS (env := [a0, some (.tup (ls.map nlD)), some (.tup (intsD lot)), some (.tup ((heldT lot k l hs).map dT)), some (.str acc), some (.int (k : Int)), some (.str (wordT (decide (k ∈ lot)))), v7]) (S := S) (F := F__law_text 20) (fe := eVar 3) (i := 7) (by simp) rfl (fun T hT S => f_law_text T 19 S (t2 T hT).1 (by have := (t2 T hT).2.1; omega) (by have := (t2 T hT).2.1; omega)) t1 (fun T hT => (t2 T hT).2.2)
  have s4 := ev_row (f1 := eOp addD (eVar 4) (eCl strDD (aCons (eVar 5) aNil))) (f2 := eVar 6) (f3 := eCall F__law_line_text (aCons (eOp ixD (eVar 1) (eVar 5)) aNil)) (A := acc ++ [48 + k]) (B := wordT (decide (k ∈ lot))) (C := lnText l)
    (ev_addS rfl (cl_1 rfl (str_dig _ hk)) (by simp; omega)) rfl (by rw [ev_call]; simp only [ev_acons, ev_op, ev_var0, ev_var, ev_anil, ixD, der_tup, hat, f_law_line_text m hl]) hJ.1 (by simp; omega) (wordT_len _) (hl.plain m).2.1 hJ.2
  unfold L__law_rows_0
  refine seq_nx (set_nx s1) (seq_nx (set_nx s3) ?_)
  simp only [List.set_cons_succ, List.set_cons_zero]
  rw [set_nx s4]
  simp only [List.set_cons_succ, List.set_cons_zero, rowT, List.append_assoc]
theorem rows_loop (m : MOk c fs) {lot : List Nat} {S : Sto} {Ls : List NL} {a0 v7 : Option D} : ∀ (ls : List NL) (k d : Nat) (hs : List Tm) (acc : List Nat) (v5 v6 : Option D), Ls.drop k = ls → (∀ l ∈ ls, NOk c fs l) → HOk c fs d hs → d + ls.length ≤ 8 → k + ls.length ≤ 10 → acc.length + ls.length * 4200 ≤ 90000 →
    ∃ e3 e5 e6, forD (gNameD 5) L__law_rows_0 (rgL (k : Int) ls.length) [a0, some (.tup (Ls.map nlD)), some (.tup (intsD lot)), some (.tup (hs.map dT)), some (.str acc), v5, v6, v7] S =
      some (.nx, [a0, some (.tup (Ls.map nlD)), some (.tup (intsD lot)), e3, some (.str (acc ++ (rowsT lot k ls hs).flatten)), e5, e6, v7], S)
  | [], k, d, hs, acc, v5, v6, _, _, _, _, _, _ => ⟨some (.tup (hs.map dT)), v5, v6, by simp [rgL, rowsT]⟩
  | l :: ls, k, d, hs, acc, v5, v6, hdr, hl, h, hd, hk, hr => by
    simp only [List.length_cons] at hd hk hr
    have hg : Ls[k]? = some l := by
      have := congrArg (fun l => l[0]?) hdr
      simpa using this
    have hdr' : Ls.drop (k + 1) = ls := by
      have := congrArg List.tail hdr
      simpa using this
    have hh := heldT_ok m (k := k) (lot := lot) h (hl l List.mem_cons_self)
    have hrl := rowT_len m (k := k) (b := decide (k ∈ lot)) hh (by omega) (hl l List.mem_cons_self)
    obtain ⟨w6, hs1⟩ := rows_step m (k := k) (ls := Ls) (lot := lot) (acc := acc) (S := S) (a0 := a0) (v6 := v6) (v7 := v7) h (by omega) hg (hl l List.mem_cons_self) (by omega) (by omega)
    obtain ⟨e3, e5, e6, ih⟩ := rows_loop m (S := S) (Ls := Ls) (a0 := a0) (v7 := v7) (lot := lot) ls (k + 1) (d + 1) (heldT lot k l hs) (acc ++ rowT k (decide (k ∈ lot)) l (heldT lot k l hs)) (some (.int (k : Int))) w6 hdr' (fun q hq => hl q (List.mem_cons_of_mem _ hq)) hh (by omega) (by omega) (by simp; omega)
    refine ⟨e3, e5, e6, ?_⟩
    rw [List.length_cons, rgL_cons, ev_for_cons, ev_gname]
    simp only [List.set_cons_succ, List.set_cons_zero]
    rw [hs1]
    dsimp only
    have e : ((k : Int) + 1) = ((k + 1 : Nat) : Int) := by omega
    rw [e, ih, rowsT]
    simp
theorem f_rows (m : MOk c fs) {lot : List Nat} {ls : List NL} (hl : ∀ l ∈ ls, NOk c fs l) (h6 : ls.length ≤ 6) (S : Sto) : F__law_rows [mD c fs, .tup (ls.map nlD), .tup (intsD lot)] S = some (.ok (.str (rowsT lot 0 ls (firstT c)).flatten), S) := by
  obtain ⟨e3, e5, e6, h1⟩ := rows_loop m (S := S) (Ls := ls) (a0 := some (mD c fs)) (v7 := none) (lot := lot) ls 0 1 (firstT c) [] none none rfl hl first_ok (by omega) (by omega) (by simp; omega)
  have hc := m.c4
  have hd := first_D c
  have e1 : sPar [3,4] (aCons (eTupRg (eOp ixD (eVar 0) (eC (.int 0)))) (aCons (eC (sT "")) aNil)) [some (mD c fs), some (.tup (ls.map nlD)), some (.tup (intsD lot)), none, none, none, none, none] S = some (.nx, [some (mD c fs), some (.tup (ls.map nlD)), some (.tup (intsD lot)), some (.tup ((firstT c).map dT)), some (.str []), none, none, none], S) := by
    rw [← hd]
    have he : eC (sT "") [some (mD c fs), some (.tup (ls.map nlD)), some (.tup (intsD lot)), none, none, none, none, none] S = some (.str [], S) := by simp [sT]
    exact par_ok (acons_ok (tuprg_ok (ix_tup (k := 0) rfl rfl rfl) (by omega)) (acons_ok he rfl)) rfl
  have hlen : eCl lenD (aCons (eVar 1) aNil) [some (mD c fs), some (.tup (ls.map nlD)), some (.tup (intsD lot)), some (.tup ((firstT c).map dT)), some (.str []), none, none, none] S = some (.int (ls.length : Int), S) := cl_1 rfl (by simp [lenD])
  exact den_rt rfl (seq_nx e1 (seq_nx (for_ok (rg1_ok hlen (by omega)) h1) (ret_rt rfl)))
end
end L2.DL
-- part P25
set_option maxHeartbeats 4000000
/-! P25: losses. -/
namespace L2.DL
open PySem PySem.Spec PyProof.Rows
section
variable {env : DEnv} {S : Sto}
theorem rg1_int {fe : EM} {j : Int} {s : Sto} (h : fe env S = some (.int j, s)) (h1 : -1000000 ≤ j) (h2 : j ≤ 1000000) : rg1 (aCons fe aNil) env S = some (rgL 0 j.toNat, s) := by
  have hin : inRg j = true := by simp [inRg]; omega
  rw [ev_rg1, acons_ok h rfl]; simp only [hin, if_true]
theorem gen_ok {k b : Bool} {src : AM} {g : D → DEnv → Option DEnv} {fe : EM} {vs : List Nat} {ds : List D} {s s2 : Sto} (h : src env S = some (ds, s)) (h2 : runD k g fe (wipeD env vs) ds s = some (b, s2)) : eGen k src g fe vs env S = some (.bl b, s2) := by
  rw [ev_gen, h]; simp only [h2]
theorem or_f {fb fb2 : BM} {s : Sto} (h : fb env S = some (false, s)) : bOr fb fb2 env S = fb2 env s := by
  rw [ev_or, h]; rfl
theorem or_t {fb fb2 : BM} {s : Sto} (h : fb env S = some (true, s)) : bOr fb fb2 env S = some (true, s) := by
  rw [ev_or, h]; rfl
theorem un_ok {h : Sto → D → Option D} {f : EM} {a z : D} {s : Sto} (h1 : f env S = some (a, s)) (h2 : h s a = some z) : eUn h f env S = some (z, s) := by
  rw [ev_un, h1]; simp only [h2]
theorem enot_ok {f : EM} {b : Bool} {s : Sto} (h : f env S = some (.bl b, s)) : eNot f env S = some (.bl (!b), s) := by
  rw [ev_enot, h]
end
theorem isi_tup (S : Sto) (xs : List D) : isiD "tuple" S (.tup xs) = some (.bl true) := by simp [isiD, kindOf]
theorem intsD_get (l : List Nat) (i : Nat) : (intsD l)[i]? = (l[i]?).map fun (r : Nat) => D.int (r : Int) := by simp [intsD]
/-! ### neighbours -/
def gapB (lot : List Nat) (many p : Nat) : Bool := decide ((((lot[p + many]?).getD 0 : Nat) : Int) - (((lot[p]?).getD 0 : Nat) : Int) = (many : Int))
def gapD (lot : List Nat) (many : Nat) : D → Bool
  | .int i => gapB lot many i.toNat
  | _ => false
theorem ev_gap {lot : List Nat} {many p : Nat} {f0 fp fm : EM} {env : DEnv} {S : Sto} (h0 : f0 env S = some (.tup (intsD lot), S)) (hp : fp env S = some (.int (p : Int), S)) (hm : fm env S = some (.int (many : Int), S)) (h : p + many < lot.length) :
    eOp eqD (eOp subD (eOp ixD f0 (eOp addD fp fm)) (eOp ixD f0 fp)) fm env S = some (.bl (gapB lot many p), S) := by
  have e1 : eOp addD fp fm env S = some (.int ((p + many : Nat) : Int), S) := op_ok hp hm (by simp [addD])
  have g1 : (intsD lot)[p + many]? = some (.int ((((lot[p + many]?).getD 0 : Nat)) : Int)) := by
    rw [intsD_get, List.getElem?_eq_getElem h]; rfl
  have g2 : (intsD lot)[p]? = some (.int ((((lot[p]?).getD 0 : Nat)) : Int)) := by
    rw [intsD_get, List.getElem?_eq_getElem (show p < lot.length by omega)]; rfl
  refine op_ok (op_ok (ix_tup h0 e1 g1) (ix_tup h0 hp g2) rfl) hm ?_
  simp only [eqD, eqB_int, Option.map_some, gapB]
  congr 2
theorem rg_mem {n : Nat} {d : D} (h : d ∈ rgL 0 n) : ∃ i : Nat, i < n ∧ d = .int (i : Int) := by
  unfold rgL at h
  obtain ⟨i, hi, rfl⟩ := List.mem_map.mp h
  exact ⟨i, List.mem_range.mp hi, by simp⟩
theorem toPL_ints : ∀ {xs : List D}, (∀ d ∈ xs, ∃ i : Int, d = .int i) → PyData.canLayAll0 (toPL xs) = true ∧ PyData.depthAll (toPL xs) = 0
  | [], _ => by simp [toPL, PyData.canLayAll0, PyData.depthAll]
  | d :: xs, h => by
    obtain ⟨i, rfl⟩ := h d List.mem_cons_self
    obtain ⟨h1, h2⟩ := toPL_ints (xs := xs) fun d hd => h d (List.mem_cons_of_mem _ hd)
    exact ⟨by simp [toPL, toP, PyData.canLayAll0, PyData.canLay0, h1], by simp [toPL, PyData.depthAll, h2, toP, PyData.depth]⟩
theorem ints_nil {S : Sto} {xs : List D} (h : ∀ d ∈ xs, ∃ i : Int, d = .int i) : eqB S (.lst xs) (.lst []) = some (xs.isEmpty) := by
  obtain ⟨h1, h2⟩ := toPL_ints h
  have e1 : SeqAt.shaped (.list (toPL xs)) = true := by simp [SeqAt.shaped, PyData.canLay0, h1, PyData.depth, h2]
  have e2 : SeqAt.shaped (.list (toPL [])) = true := by decide
  simp only [eqB, der_lst]
  rw [if_pos (by rw [e1, e2]; rfl)]
  cases xs <;> rfl
theorem filt_any {α : Type} (p : α → Bool) : ∀ l : List α, (l.filter p).isEmpty = !(l.any p)
  | [] => rfl
  | a :: l => by
    rw [List.filter_cons, List.any_cons]
    cases p a
    · simpa using filt_any p l
    · rfl
def nearB (lot : List Nat) (many : Nat) : Bool := !((rgL 0 (lot.length - many)).any (gapD lot many))
theorem f_near {lot : List Nat} {many : Nat} (hl : lot.length ≤ 1000) (hm : many ≤ 3) (S : Sto) : F__law_near [.tup (intsD lot), .int (many : Int)] S = some (.ok (.bl (nearB lot many)), S) := by
  have h1 : eOp subD (eCl lenD (aCons (eVar 0) aNil)) (eVar 1) [some (.tup (intsD lot)), some (.int (many : Int)), none] S = some (.int ((lot.length : Int) - (many : Int)), S) := op_ok (cl_1 rfl (by simp [lenD]; rfl)) rfl (by simp [intOp])
  have h2 := rg1_int h1 (by omega) (by omega)
  have e : ((lot.length : Int) - (many : Int)).toNat = lot.length - many := by omega
  rw [e] at h2
  have h3 : compD (gNameD 2) (bOf (eOp eqD (eOp subD (eOp ixD (eVar 0) (eOp addD (eVar 2) (eVar 1))) (eOp ixD (eVar 0) (eVar 2))) (eVar 1))) (eVar 2) [2] (rgL 0 (lot.length - many)) [some (.tup (intsD lot)), some (.int (many : Int)), none] S = some ((rgL 0 (lot.length - many)).filter (gapD lot many), S) := by
    have e : (rgL 0 (lot.length - many)).filter (gapD lot many) = ((rgL 0 (lot.length - many)).filter (gapD lot many)).map id := by simp
    rw [e]
    refine comp_filt fun d hd => ?_
    obtain ⟨i, hi, rfl⟩ := rg_mem hd
    exact ⟨_, rfl, bof_ok (ev_gap (p := i) rfl rfl rfl (by omega)), fun _ => rfl⟩
  have hlen : ((rgL 0 (lot.length - many)).filter (gapD lot many)).length ≤ 16777216 := by
    have := List.length_filter_le (gapD lot many) (rgL 0 (lot.length - many))
    rw [rgL_len] at this
    omega
  have h4 : eComp (rg1 (aCons (eOp subD (eCl lenD (aCons (eVar 0) aNil)) (eVar 1)) aNil)) (gNameD 2) (bOf (eOp eqD (eOp subD (eOp ixD (eVar 0) (eOp addD (eVar 2) (eVar 1))) (eOp ixD (eVar 0) (eVar 2))) (eVar 1))) (eVar 2) [2] [some (.tup (intsD lot)), some (.int (many : Int)), none] S = some (.lst ((rgL 0 (lot.length - many)).filter (gapD lot many)), S) := by
    rw [ev_comp, h2]
    simp only [h3, hlen, if_true]
  have h5 : eLst aNil [some (.tup (intsD lot)), some (.int (many : Int)), none] S = some (.lst [], S) := by simp
  refine den_rt rfl (ret_rt (op_ok h4 h5 ?_))
  simp only [eqD]
  rw [ints_nil (fun d hd => by
    obtain ⟨i, _, rfl⟩ := rg_mem (List.mem_filter.mp hd).1
    exact ⟨_, rfl⟩), filt_any]
  rfl
/-! ### losses that are ones -/
structure LotOk (n : Nat) (lot : List Nat) : Prop where
  asc : lot.Pairwise (· < ·)
  lt : ∀ k ∈ lot, k < n
theorem zip_asc : ∀ {lot : List Nat}, lot.Pairwise (· < ·) → ∀ d ∈ zipL (intsD lot) ((intsD lot).drop 1), ∃ a b : Nat, d = .tup [.int (a : Int), .int (b : Int)] ∧ a < b
  | [], _, d, h => by simp [intsD, zipL] at h
  | [a], _, d, h => by simp [intsD, zipL] at h
  | a :: b :: r, hp, d, h => by
    have hp2 := (List.pairwise_cons.mp hp)
    have h' : d ∈ D.tup [.int (a : Int), .int (b : Int)] :: zipL (intsD (b :: r)) ((intsD (b :: r)).drop 1) := h
    rcases List.mem_cons.mp h' with e | e
    · exact ⟨a, b, e, hp2.1 b (by simp)⟩
    · exact zip_asc hp2.2 d e
theorem lot_len {n : Nat} : ∀ {lot : List Nat} {a : Nat}, lot.Pairwise (· < ·) → (∀ k ∈ lot, a ≤ k ∧ k < n) → lot.length ≤ n - a
  | [], a, _, _ => by simp
  | k :: r, a, hp, h => by
    obtain ⟨h1, h2⟩ := List.pairwise_cons.mp hp
    have hk := h k (by simp)
    have ih := lot_len (a := k + 1) h2 fun j hj => ⟨h1 j hj, (h j (List.mem_cons_of_mem _ hj)).2⟩
    simp only [List.length_cons]
    omega
theorem f_are_losses {n many : Nat} {ps : List D} {lot : List Nat} (hn : ps.length = n) (hn2 : n ≤ 1000) (h : LotOk n lot) (hm : many ≤ 3) (S : Sto) : F_are_losses [.tup ps, .int (many : Int), .tup (intsD lot)] S = some (.ok (.bl (nearB lot many)), S) := by
  have hl := lot_len (a := 0) h.asc fun k hk => ⟨by omega, h.lt k hk⟩
  have r1 : runD false (gNameD 3) (eCall F_is_number (aCons (eVar 3) (aCons (eC (.int 0)) (aCons (eOp subD (eCl lenD (aCons (eVar 0) aNil)) (eC (.int 1))) aNil)))) (wipeD [some (.tup ps), some (.int (many : Int)), some (.tup (intsD lot)), none, none, none, none] [3]) (intsD lot) S = some (true, S) := by
    have := run_all (g := gNameD 3) (fe := eCall F_is_number (aCons (eVar 3) (aCons (eC (.int 0)) (aCons (eOp subD (eCl lenD (aCons (eVar 0) aNil)) (eC (.int 1))) aNil)))) (env := wipeD [some (.tup ps), some (.int (many : Int)), some (.tup (intsD lot)), none, none, none, none] [3]) (ds := intsD lot) (S := S) (p := fun _ => true) fun d hd => by
      unfold intsD at hd
      obtain ⟨k, hk, rfl⟩ := List.mem_map.mp hd
      have hlt := h.lt k hk
      have hnum : F_is_number [.int (k : Int), .int 0, .int ((ps.length : Int) - 1)] S = some (.ok (.bl true), S) := by
        rw [f_is_number]
        have e1 : (k : Int) ≤ (ps.length : Int) - 1 := by omega
        simp [e1]
      have hln : eOp subD (eCl lenD (aCons (eVar 0) aNil)) (eC (.int 1)) [some (.tup ps), some (.int (many : Int)), some (.tup (intsD lot)), some (.int (k : Int)), none, none, none] S = some (.int ((ps.length : Int) - 1), S) := op_ok (cl_1 rfl (lenD_tup (xs := ps))) rfl rfl
      exact ⟨_, rfl, call_ok (acons_ok rfl (acons_ok rfl (acons_ok hln rfl))) hnum⟩
    rw [this]; simp
  have r2 : runD false (gTupD [4, 5]) (eOp ltD (eVar 4) (eVar 5)) (wipeD [some (.tup ps), some (.int (many : Int)), some (.tup (intsD lot)), none, none, none, none] [4, 5]) (zipL (intsD lot) ((intsD lot).drop 1)) S = some (true, S) := by
    have := run_all (g := gTupD [4, 5]) (fe := eOp ltD (eVar 4) (eVar 5)) (env := wipeD [some (.tup ps), some (.int (many : Int)), some (.tup (intsD lot)), none, none, none, none] [4, 5]) (ds := zipL (intsD lot) ((intsD lot).drop 1)) (S := S) (p := fun _ => true) fun d hd => by
      obtain ⟨a, b, rfl, hab⟩ := zip_asc h.asc d hd
      have e1 : (a : Int) < (b : Int) := by omega
      exact ⟨_, rfl, op_ok (a := .int (a : Int)) (b := .int (b : Int)) rfl rfl (by simp [intOp, e1])⟩
    rw [this]; simp
  have r3 : runD true (gNameD 6) (eOp eqD (eOp subD (eOp ixD (eVar 2) (eOp addD (eVar 6) (eVar 1))) (eOp ixD (eVar 2) (eVar 6))) (eVar 1)) (wipeD [some (.tup ps), some (.int (many : Int)), some (.tup (intsD lot)), none, none, none, none] [6]) (rgL 0 (lot.length - many)) S = some ((rgL 0 (lot.length - many)).any (gapD lot many), S) :=
    run_any fun d hd => by
      obtain ⟨i, hi, rfl⟩ := rg_mem hd
      exact ⟨_, rfl, ev_gap (p := i) rfl rfl rfl (by omega)⟩
  have h1 : eOp subD (eCl lenD (aCons (eVar 2) aNil)) (eVar 1) [some (.tup ps), some (.int (many : Int)), some (.tup (intsD lot)), none, none, none, none] S = some (.int ((lot.length : Int) - (many : Int)), S) := op_ok (cl_1 rfl (by simp [lenD]; rfl)) rfl (by simp [intOp])
  have h2 := rg1_int h1 (by omega) (by omega)
  have e : ((lot.length : Int) - (many : Int)).toNat = lot.length - many := by omega
  rw [e] at h2
  have hz : zpT (aCons (eVar 2) (aCons (eSl slD (eVar 2) (oSome (eC (.int 1))) oNone) aNil)) [some (.tup ps), some (.int (many : Int)), some (.tup (intsD lot)), none, none, none, none] S = some (zipL (intsD lot) ((intsD lot).drop 1), S) := by
    have := ev_tslfrom (f := eVar 2) (g := eC (.int 1)) (env := [some (.tup ps), some (.int (many : Int)), some (.tup (intsD lot)), none, none, none, none]) (S := S) (A := intsD lot) (k := 1) rfl rfl
    unfold zpT
    rw [acons_ok (a := .tup (intsD lot)) (s := S) rfl (acons_ok this rfl)]
    rfl
  refine den_rt rfl (seq_nx ((if_f (s := S) ?_).trans rfl) (seq_nx ((if_f (s := S) ?_).trans rfl) (ret_rt ?_)))
  · exact (or_f (not_b (tru_bl (un_ok rfl (isi_tup _ _))))).trans (not_b (tru_bl (gen_ok (by rw [ev_tupOf]; rfl) r1)))
  · exact not_b (tru_bl (gen_ok hz r2))
  · exact enot_ok (gen_ok h2 r3)
/-! ### losses that are none -/
theorem al_notup {a b v : D} (hk : isiD "tuple" = fun S d => isiD "tuple" S d) (h : ∀ S, isiD "tuple" S v = some (.bl false)) (S : Sto) : F_are_losses [a, b, v] S = some (.ok (.bl false), S) :=
  den_rt rfl (seq_rt ((if_t (or_t (not_b (tru_bl (un_ok (a := v) rfl (h S)))))).trans (ret_rt rfl)))
theorem al_num {ps : List D} {b v : D} {vs : List D} (h : ∀ S, F_is_number [v, .int 0, .int ((ps.length : Int) - 1)] S = some (.ok (.bl false), S)) (S : Sto) : F_are_losses [.tup ps, b, .tup (v :: vs)] S = some (.ok (.bl false), S) := by
  have hln : eOp subD (eCl lenD (aCons (eVar 0) aNil)) (eC (.int 1)) [some (.tup ps), some b, some (.tup (v :: vs)), some v, none, none, none] S = some (.int ((ps.length : Int) - 1), S) := op_ok (cl_1 rfl (lenD_tup (xs := ps))) rfl rfl
  have hc : eCall F_is_number (aCons (eVar 3) (aCons (eC (.int 0)) (aCons (eOp subD (eCl lenD (aCons (eVar 0) aNil)) (eC (.int 1))) aNil))) [some (.tup ps), some b, some (.tup (v :: vs)), some v, none, none, none] S = some (.bl false, S) := call_ok (acons_ok rfl (acons_ok rfl (acons_ok hln rfl))) (h S)
  have r1 : runD false (gNameD 3) (eCall F_is_number (aCons (eVar 3) (aCons (eC (.int 0)) (aCons (eOp subD (eCl lenD (aCons (eVar 0) aNil)) (eC (.int 1))) aNil)))) (wipeD [some (.tup ps), some b, some (.tup (v :: vs)), none, none, none, none] [3]) (v :: vs) S = some (false, S) := by
    simp only [runD, wipeD, gNameD, List.set_cons_succ, List.set_cons_zero, Option.bind_some]
    rw [hc]
    rfl
  exact den_rt rfl (seq_rt ((if_t ((or_f (not_b (tru_bl (un_ok rfl (isi_tup _ _))))).trans (not_b (tru_bl (gen_ok (by rw [ev_tupOf]; rfl) r1))))).trans (ret_rt rfl)))
theorem al_same {ps : List D} {b : D} (hp : 1 ≤ ps.length) (S : Sto) : F_are_losses [.tup ps, b, .tup [.int 0, .int 0]] S = some (.ok (.bl false), S) := by
  have h : ∀ S, F_is_number [.int 0, .int 0, .int ((ps.length : Int) - 1)] S = some (.ok (.bl true), S) := fun S => by
    rw [f_is_number]
    have e1 : (0 : Int) ≤ (ps.length : Int) - 1 := by omega
    rw [decide_eq_true e1]; rfl
  have hln : eOp subD (eCl lenD (aCons (eVar 0) aNil)) (eC (.int 1)) [some (.tup ps), some b, some (.tup [.int 0, .int 0]), some (.int 0), none, none, none] S = some (.int ((ps.length : Int) - 1), S) := op_ok (cl_1 rfl (lenD_tup (xs := ps))) rfl rfl
  have hc : eCall F_is_number (aCons (eVar 3) (aCons (eC (.int 0)) (aCons (eOp subD (eCl lenD (aCons (eVar 0) aNil)) (eC (.int 1))) aNil))) [some (.tup ps), some b, some (.tup [.int 0, .int 0]), some (.int 0), none, none, none] S = some (.bl true, S) := call_ok (acons_ok rfl (acons_ok rfl (acons_ok hln rfl))) (h S)
  have r1 : runD false (gNameD 3) (eCall F_is_number (aCons (eVar 3) (aCons (eC (.int 0)) (aCons (eOp subD (eCl lenD (aCons (eVar 0) aNil)) (eC (.int 1))) aNil)))) (wipeD [some (.tup ps), some b, some (.tup [.int 0, .int 0]), none, none, none, none] [3]) [.int 0, .int 0] S = some (true, S) := by
    simp only [runD, wipeD, gNameD, List.set_cons_succ, List.set_cons_zero, Option.bind_some, hc]
    rfl
  have hz : zpT (aCons (eVar 2) (aCons (eSl slD (eVar 2) (oSome (eC (.int 1))) oNone) aNil)) [some (.tup ps), some b, some (.tup [.int 0, .int 0]), none, none, none, none] S = some ([.tup [.int 0, .int 0]], S) := by
    have := ev_tslfrom (f := eVar 2) (g := eC (.int 1)) (env := [some (.tup ps), some b, some (.tup [.int 0, .int 0]), none, none, none, none]) (S := S) (A := [.int 0, .int 0]) (k := 1) rfl rfl
    unfold zpT
    rw [acons_ok (a := .tup [.int 0, .int 0]) (s := S) rfl (acons_ok this rfl)]
    rfl
  have r2 : runD false (gTupD [4, 5]) (eOp ltD (eVar 4) (eVar 5)) (wipeD [some (.tup ps), some b, some (.tup [.int 0, .int 0]), none, none, none, none] [4, 5]) [.tup [.int 0, .int 0]] S = some (false, S) := rfl
  refine den_rt rfl (seq_nx ((if_f (s := S) ?_).trans rfl) (seq_rt ((if_t (s := S) ?_).trans (ret_rt rfl))))
  · exact (or_f (not_b (tru_bl (un_ok rfl (isi_tup _ _))))).trans (not_b (tru_bl (gen_ok (by rw [ev_tupOf]; rfl) r1)))
  · exact not_b (tru_bl (gen_ok hz r2))
def badLots (n : Nat) : List D := [.non, .lst [.int 0], .tup [.int (n : Int)], .tup [.int 0, .int 0], .tup [.bl true], .tup [.int (-1)]]
theorem al_bad {ps : List D} {b v : D} (hv : v ∈ badLots ps.length) (S : Sto) : F_are_losses [.tup ps, b, v] S = some (.ok (.bl false), S) := by
  simp only [badLots, List.mem_cons, List.not_mem_nil, or_false] at hv
  rcases hv with rfl | rfl | rfl | rfl | rfl | rfl
  · exact al_notup rfl (fun S => by simp [isiD, kindOf]) S
  · exact al_notup rfl (fun S => by simp [isiD, kindOf]) S
  · refine al_num (fun S => ?_) S
    rw [f_is_number]
    have e1 : ¬ (ps.length : Int) ≤ (ps.length : Int) - 1 := by omega
    simp [e1]
  · by_cases hp : 1 ≤ ps.length
    · exact al_same hp S
    · refine al_num (fun S => ?_) S
      rw [f_is_number]
      have e1 : ¬ (0 : Int) ≤ (ps.length : Int) - 1 := by omega
      rw [decide_eq_false e1]; rfl
  · exact al_num (fun S => f_is_number_bl _ _ _ S) S
  · refine al_num (fun S => ?_) S
    rw [f_is_number]
    simp
/-! ### all lots -/
def lotD (lot : List Nat) : D := .tup (intsD lot)
theorem ss_step {n k : Nat} {lots : List (List Nat)} {S : Sto} {v3 : Option D} (hl : lots.length ≤ 1000) (hk : ∀ lot ∈ lots, LotOk k lot) (hk6 : k ≤ 100) :
    sSet 1 (eOp addD (eVar 1) (eComp (lstOf (eVar 1)) (gNameD 3) bYes (eOp addD (eVar 3) (eTup (aCons (eVar 2) aNil))) [3])) [some (.int (n : Int)), some (.lst (lots.map lotD)), some (.int (k : Int)), v3] S = some (.nx, [some (.int (n : Int)), some (.lst ((lots ++ lots.map (· ++ [k])).map lotD)), some (.int (k : Int)), v3], S) := by
  have h1 : eComp (lstOf (eVar 1)) (gNameD 3) bYes (eOp addD (eVar 3) (eTup (aCons (eVar 2) aNil))) [3] [some (.int (n : Int)), some (.lst (lots.map lotD)), some (.int (k : Int)), v3] S = some (.lst (lots.map fun lot => lotD (lot ++ [k])), S) := by
    refine ev_compV (g := lotD) (by rw [ev_lstOf]; rfl) (fun lot hlot => ?_) (by omega)
    have hln := lot_len (a := 0) (hk lot hlot).asc fun j hj => ⟨by omega, (hk lot hlot).lt j hj⟩
    have := ev_addT (f := eVar 3) (g := eTup (aCons (eVar 2) aNil)) (env := [some (.int (n : Int)), some (.lst (lots.map lotD)), some (.int (k : Int)), some (lotD lot)]) (S := S) (A := intsD lot) (B := [.int (k : Int)]) rfl (ev_tup1 rfl) (by simp; omega)
    rw [show lotD (lot ++ [k]) = .tup (intsD lot ++ [.int (k : Int)]) by simp [lotD, intsD]]
    exact this
  have hb : (lots.map lotD).length + (lots.map fun lot => lotD (lot ++ [k])).length ≤ 16777216 := by simp; omega
  have e : (lots ++ lots.map (· ++ [k])).map lotD = lots.map lotD ++ lots.map fun lot => lotD (lot ++ [k]) := by simp
  rw [e]
  exact set_nx (op_ok (a := .lst (lots.map lotD)) rfl h1 (by simp only [addD, der_lst, hb, if_true]))
theorem f_subsets {n : Nat} (hn : n ≤ 6) (S : Sto) : ∃ lots : List (List Nat), F__law_subsets [.int (n : Int)] S = some (.ok (.lst (lots.map lotD)), S) ∧ (∀ lot ∈ lots, LotOk n lot) ∧ [] ∈ lots ∧ lots.length ≤ 1000 := by
  obtain ⟨env', S2, b1, b2⟩ := for_inv (J := fun k env S1 => S1 = S ∧ k ≤ 6 ∧ ∃ (lots : List (List Nat)) (v2 v3 : Option D), env = [some (.int (n : Int)), some (.lst (lots.map lotD)), v2, v3] ∧ (∀ lot ∈ lots, LotOk k lot) ∧ [] ∈ lots ∧ lots.length = 2 ^ k) (g := gNameD 2) (b := sSet 1 (eOp addD (eVar 1) (eComp (lstOf (eVar 1)) (gNameD 3) bYes (eOp addD (eVar 3) (eTup (aCons (eVar 2) aNil))) [3]))) (rgL 0 n) 0 [some (.int (n : Int)), some (.lst [.tup []]), none, none] S
    ⟨rfl, by omega, [[]], none, none, rfl, fun lot h => by rw [List.mem_singleton.mp h]; exact ⟨.nil, by simp⟩, by simp, by simp⟩ (fun i d env S1 hd ⟨hS, hk, lots, v2, v3, he, h1, h2, h3⟩ => by
    subst he hS
    have hi : i < n := by
      have := (List.getElem?_eq_some_iff.mp hd).1
      rwa [rgL_len] at this
    have hd' : d = .int (i : Int) := by
      unfold rgL at hd
      simp [List.getElem?_range hi] at hd
      exact hd.symm
    subst hd'
    have hp : 2 ^ (0 + i) ≤ 2 ^ 6 := Nat.pow_le_pow_right (by omega) (by omega)
    rw [Nat.zero_add] at h1 h3 hk hp
    have hst := ss_step (n := n) (k := i) (lots := lots) (S := S1) (v3 := v3) (by omega) h1 (by omega)
    refine ⟨_, _, S1, rfl, hst, rfl, by omega, _, _, _, rfl, fun lot hlot => ?_, by simp [h2], by simp [h3]; rw [Nat.pow_succ]; omega⟩
    rcases List.mem_append.mp hlot with z | z
    · exact ⟨(h1 lot z).asc, fun k hk => by have := (h1 lot z).lt k hk; omega⟩
    · obtain ⟨l0, hl0, rfl⟩ := List.mem_map.mp z
      refine ⟨List.pairwise_append.mpr ⟨(h1 l0 hl0).asc, by simp, fun a ha b hb => ?_⟩, fun k hk => ?_⟩
      · rw [List.mem_singleton.mp hb]; exact (h1 l0 hl0).lt a ha
      · rcases List.mem_append.mp hk with q | q
        · have := (h1 l0 hl0).lt k q; omega
        · rw [List.mem_singleton.mp q]; omega)
  obtain ⟨hS, hk, lots, v2, v3, rfl, h1, h2, h3⟩ := b2
  subst hS
  rw [rgL_len, Nat.zero_add] at h1 h3 hk
  have hp : 2 ^ n ≤ 2 ^ 6 := Nat.pow_le_pow_right (by omega) hn
  refine ⟨lots, ?_, h1, h2, by omega⟩
  have e0 : eLst (aCons (eTup aNil) aNil) [some (.int (n : Int)), none, none, none] S2 = some (.lst [.tup []], S2) := by simp
  exact den_rt rfl (seq_nx (set_nx e0) (seq_nx (for_ok (rg1_ok (n := n) rfl (by omega)) b1) (ret_rt rfl)))
end L2.DL
-- part P26
set_option maxHeartbeats 4000000
/-! P26: told. -/
namespace L2.DL
open PySem PySem.Spec PyProof.Rows
theorem expr_nx {env : DEnv} {S s : Sto} {fe : EM} {d : D} (h : fe env S = some (d, s)) : sExpr fe env S = some (.nx, env, s) := by
  rw [ev_expr, h]
section
variable {c : Nat} {fs : List Nat}
theorem f_need_many {many : Nat} (h1 : 1 ≤ many) (h3 : many ≤ 3) (S : Sto) : F_need_many [.int (many : Int)] S = some (.ok .non, S) := by
  have hnum : F_is_number [.int (many : Int), .int 1, .int 3] S = some (.ok (.bl true), S) := by
    rw [f_is_number]
    have e1 : (1 : Int) ≤ (many : Int) := by omega
    have e2 : (many : Int) ≤ 3 := by omega
    rw [decide_eq_true e1, decide_eq_true e2]; rfl
  exact den_nx rfl ((if_f (not_b (tru_bl (call_ok (acons_ok rfl (acons_ok rfl (acons_ok rfl rfl))) hnum)))).trans rfl)
theorem rowsT_len (m : MOk c fs) {lot : List Nat} : ∀ (ls : List NL) (k d : Nat) (hs : List Tm), (∀ l ∈ ls, NOk c fs l) → HOk c fs d hs → d + ls.length ≤ 8 → (∀ y ∈ rowsT lot k ls hs, y.length ≤ 4200) ∧ (rowsT lot k ls hs).length = ls.length
  | [], k, d, hs, _, _, _ => ⟨by simp [rowsT], rfl⟩
  | l :: ls, k, d, hs, hl, h, hd => by
    simp only [List.length_cons] at hd
    have hh := heldT_ok m (k := k) (lot := lot) h (hl l List.mem_cons_self)
    obtain ⟨i1, i2⟩ := rowsT_len m (lot := lot) ls (k + 1) (d + 1) (heldT lot k l hs) (fun q hq => hl q (List.mem_cons_of_mem _ hq)) hh (by omega)
    rw [rowsT]
    refine ⟨fun y hy => ?_, by simp [i2]⟩
    rcases List.mem_cons.mp hy with e | e
    · rw [e]; exact rowT_len m hh (by omega) (hl l List.mem_cons_self)
    · exact i1 y e
def toldS (c : Nat) (ls : List NL) (lot : List Nat) : List Nat := (rowsT lot 0 ls (firstT c)).flatten
theorem f_told (m : MOk c fs) {lot : List Nat} {many : Nat} {ls : List NL} (hl : ∀ l ∈ ls, NOk c fs l) (h6 : ls.length ≤ 6) (m1 : 1 ≤ many) (m3 : many ≤ 3) (hlot : LotOk ls.length lot) (hn : nearB lot many = true) (S : Sto) :
    ∃ N, F_told [mD c fs, .tup (ls.map nlD), .int (many : Int), .tup (intsD lot)] S = some (.ok (.str (toldS c ls lot)), S ++ N) := by
  obtain ⟨e4, e6, e7, e8, e9, h1⟩ := told_loop m (S := S) (a0 := some (mD c fs)) (a1 := some (.tup (ls.map nlD))) (a2 := some (.int (many : Int))) (lot := lot) ls 0 1 (firstT c) [] none none none none none hl first_ok (by omega) (by omega) (by simp; omega)
  obtain ⟨r1, r2⟩ := rowsT_len m (lot := lot) ls 0 1 (firstT c) hl first_ok (by omega)
  have hd := first_D c
  have a1 := f_need_machine m S
  have a2 := f_need_program m hl (by omega) S
  have a3 := f_need_many m1 m3 S
  have a4 := f_are_losses (ps := ls.map nlD) (many := many) (by simp) (by omega) hlot m3 S
  rw [hn] at a4
  have a5 := f_first m S
  have p1 : sPar [4,5] (aCons (eCall F_first_terms (aCons (eVar 0) aNil)) (aCons (eMut aNil) aNil)) [some (mD c fs), some (.tup (ls.map nlD)), some (.int (many : Int)), some (.tup (intsD lot)), none, none, none, none, none, none, none] S = some (.nx, [some (mD c fs), some (.tup (ls.map nlD)), some (.int (many : Int)), some (.tup (intsD lot)), some (.tup ((firstT c).map dT)), some (.mu S.length), none, none, none, none, none], S ++ [.lst []]) := by
    have hm : ∀ env : DEnv, eMut aNil env S = some (.mu S.length, S ++ [.lst []]) := fun env => by simp
    exact par_ok (acons_ok (call_ok (acons_ok rfl rfl) a5) (acons_ok (hm _) rfl)) rfl
  have p2 : sFor (enT (aCons (eVar 1) aNil)) (gTupD [6, 7]) L_told_0 [some (mD c fs), some (.tup (ls.map nlD)), some (.int (many : Int)), some (.tup (intsD lot)), some (.tup ((firstT c).map dT)), some (.mu S.length), none, none, none, none, none] (S ++ [.lst []]) = some (.nx, [some (mD c fs), some (.tup (ls.map nlD)), some (.int (many : Int)), some (.tup (intsD lot)), e4, some (.mu S.length), e6, e7, e8, e9, none], S ++ [.lst ((rowsT lot 0 ls (firstT c)).map .str)]) :=
    for_ok (ds := enumL 0 (ls.map nlD)) (s := S ++ [.lst []]) rfl h1
  have p3 : eM1 joinDD (eC (sT "")) (eVar 5) [some (mD c fs), some (.tup (ls.map nlD)), some (.int (many : Int)), some (.tup (intsD lot)), e4, some (.mu S.length), e6, e7, e8, e9, none] (S ++ [.lst ((rowsT lot 0 ls (firstT c)).map .str)]) = some (.str (toldS c ls lot), S ++ [.lst ((rowsT lot 0 ls (firstT c)).map .str)]) := by
    have hs := sum_le r1
    have hb : ((rowsT lot 0 ls (firstT c)).map (·.length)).sum + (rowsT lot 0 ls (firstT c)).length * ([] : List Nat).length ≤ 16777216 := by
      rw [r2] at hs ⊢
      have : ls.length * 4200 ≤ 6 * 4200 := Nat.mul_le_mul_right _ h6
      simp; omega
    have hsep : eC (sT "") [some (mD c fs), some (.tup (ls.map nlD)), some (.int (many : Int)), some (.tup (intsD lot)), e4, some (.mu S.length), e6, e7, e8, e9, none] (S ++ [.lst ((rowsT lot 0 ls (firstT c)).map .str)]) = some (.str [], S ++ [.lst ((rowsT lot 0 ls (firstT c)).map .str)]) := by simp [sT]
    have hv : eVar 5 [some (mD c fs), some (.tup (ls.map nlD)), some (.int (many : Int)), some (.tup (intsD lot)), e4, some (.mu S.length), e6, e7, e8, e9, none] (S ++ [.lst ((rowsT lot 0 ls (firstT c)).map .str)]) = some (.mu S.length, S ++ [.lst ((rowsT lot 0 ls (firstT c)).map .str)]) := rfl
    rw [ev_m1, hsep]
    dsimp only
    rw [hv]
    simp only [joinDD, der_top, strsOf_map, Option.bind_some, hb, if_true, joinL_nil]
    rfl
  exact ⟨[.lst ((rowsT lot 0 ls (firstT c)).map .str)], den_rt rfl (seq_nx (expr_nx (call_ok (acons_ok rfl rfl) a1)) (seq_nx (expr_nx (call_ok (acons_ok rfl (acons_ok rfl rfl)) a2)) (seq_nx (expr_nx (call_ok (acons_ok rfl rfl) a3)) (seq_nx ((if_f (not_b (tru_bl (call_ok (acons_ok rfl (acons_ok rfl (acons_ok rfl rfl))) a4)))).trans rfl) (seq_nx p1 (seq_nx p2 (ret_rt p3)))))))⟩
theorem f_told_bad (m : MOk c fs) {v : D} {many : Nat} {ls : List NL} (hl : ∀ l ∈ ls, NOk c fs l) (h6 : ls.length ≤ 6) (m1 : 1 ≤ many) (m3 : many ≤ 3) (hv : v ∈ badLots ls.length) (S : Sto) : F_told [mD c fs, .tup (ls.map nlD), .int (many : Int), v] S = some (.error .loss, S) := by
  have a1 := f_need_machine m S
  have a2 := f_need_program m hl (by omega) S
  have a3 := f_need_many m1 m3 S
  have a4 := al_bad (ps := ls.map nlD) (b := .int (many : Int)) (v := v) (by rw [List.length_map]; exact hv) S
  exact den_ex rfl (seq_nx (expr_nx (call_ok (acons_ok rfl rfl) a1)) (seq_nx (expr_nx (call_ok (acons_ok rfl (acons_ok rfl rfl)) a2)) (seq_nx (expr_nx (call_ok (acons_ok rfl rfl) a3)) (seq_ex ((if_t (not_b (tru_bl (call_ok (acons_ok rfl (acons_ok rfl (acons_ok rfl rfl))) a4)))).trans rfl)))))
end
end L2.DL
-- part P27
set_option maxHeartbeats 4000000
/-! P27: all terms, in a dict. -/
namespace L2.DL
open PySem PySem.Spec PyProof.Rows
section
variable {c : Nat} {fs : List Nat}
theorem text_inj (m : MOk c fs) {T U : Tm} (h : TOk c fs T) (h' : TOk c fs U) (d : dpT T ≤ 50) (d' : dpT U ≤ 50) (e : textT T = textT U) : T = U := by
  have h1 := lawT_text m T 50 h (by omega)
  have h2 := lawT_text m U 50 h' (by omega)
  rw [e, h2] at h1
  exact (Option.some.inj h1).symm
def KOk (c : Nat) (fs : List Nat) (d : Nat) (kvs : List (List Nat × D)) : Prop := ∀ kv ∈ kvs, ∃ T, kv = (textT T, dT T) ∧ TOk c fs T ∧ dpT T ≤ d
theorem KOk.up {d e : Nat} {kvs : List (List Nat × D)} (h : KOk c fs d kvs) (hd : d ≤ e) : KOk c fs e kvs := fun kv hkv => by
  obtain ⟨T, h1, h2, h3⟩ := h kv hkv
  exact ⟨T, h1, h2, by omega⟩
theorem KOk.put {d : Nat} {kvs : List (List Nat × D)} (h : KOk c fs d kvs) {T : Tm} (hT : TOk c fs T) (hd : dpT T ≤ d) : KOk c fs d (putD kvs (textT T) (dT T)) := by
  intro kv hkv
  unfold putD at hkv
  split at hkv
  · obtain ⟨p, hp, rfl⟩ := List.mem_map.mp hkv
    split
    · rename_i e
      exact ⟨T, by rw [e], hT, hd⟩
    · exact h p hp
  · rcases List.mem_append.mp hkv with z | z
    · exact h kv z
    · rw [List.mem_singleton.mp z]; exact ⟨T, rfl, hT, hd⟩
theorem put_len (kvs : List (List Nat × D)) (k : List Nat) (v : D) : (putD kvs k v).length ≤ kvs.length + 1 := by
  unfold putD
  split <;> simp
theorem put_keys {kvs : List (List Nat × D)} {k : List Nat} {v : D} {t : List Nat} (h : t ∈ kvs.map (·.1)) : t ∈ (putD kvs k v).map (·.1) := by
  obtain ⟨p, hp, rfl⟩ := List.mem_map.mp h
  unfold putD
  split
  · refine List.mem_map.mpr ⟨_, List.mem_map.mpr ⟨p, hp, rfl⟩, ?_⟩
    split <;> rfl
  · exact List.mem_map.mpr ⟨p, List.mem_append_left _ hp, rfl⟩
theorem put_ne {kvs : List (List Nat × D)} {k : List Nat} {v : D} : putD kvs k v ≠ [] := by
  unfold putD
  split
  · rename_i h
    intro z
    rw [List.map_eq_nil_iff] at z
    rw [z] at h
    cases h
  · simp
theorem get_ok {d : Nat} {kvs : List (List Nat × D)} (h : KOk c fs d kvs) {t : List Nat} (ht : t ∈ kvs.map (·.1)) : ∃ T, getD kvs t = some (dT T) ∧ textT T = t ∧ TOk c fs T ∧ dpT T ≤ d := by
  unfold getD
  obtain ⟨p, hp, rfl⟩ := List.mem_map.mp ht
  cases hf : kvs.find? fun kv => decide (kv.1 = p.1) with
  | none =>
    have := List.find?_eq_none.mp hf p hp
    simp at this
  | some q =>
    obtain ⟨T, h1, h2, h3⟩ := h q (List.mem_of_find?_eq_some hf)
    have h4 := List.find?_some hf
    simp only [decide_eq_true_eq] at h4
    rw [h1] at h4 ⊢
    exact ⟨T, rfl, h4, h2, h3⟩
theorem merge_ok {d : Nat} : ∀ (more kvs : List (List Nat × D)), KOk c fs d kvs → KOk c fs d more → KOk c fs d (mergeD kvs more) ∧ (mergeD kvs more).length ≤ kvs.length + more.length ∧ (kvs ≠ [] ∨ more ≠ [] → mergeD kvs more ≠ [])
  | [], kvs, h, _ => ⟨h, by simp [mergeD], fun z => by
    rcases z with z | z
    · exact z
    · exact absurd rfl z⟩
  | kv :: more, kvs, h, h' => by
    obtain ⟨T, rfl, h2, h3⟩ := h' kv List.mem_cons_self
    obtain ⟨i1, i2, i3⟩ := merge_ok more (putD kvs (textT T) (dT T)) (h.put h2 h3) fun q hq => h' q (List.mem_cons_of_mem _ hq)
    have hl := put_len kvs (textT T) (dT T)
    refine ⟨i1, ?_, fun _ => i3 (.inl put_ne)⟩
    have : (mergeD kvs ((textT T, dT T) :: more)) = mergeD (putD kvs (textT T) (dT T)) more := rfl
    rw [this]
    simp only [List.length_cons]
    omega
/-! ### one turn -/
def mkG (g r : Nat) (T : Tm) : Tm := if r = 1 then .f1 g T else .f2 g T T
theorem mul_T (S : Sto) {r : Nat} (hr : r = 1 ∨ r = 2) (T : Tm) : mulTD S (.tup [dT T]) (.int (r : Int)) = some (.tup (List.replicate r (dT T))) := by
  rcases hr with rfl | rfl <;> simp [mulTD, List.replicate]
theorem mkG_D {g r : Nat} (hr : r = 1 ∨ r = 2) (T : Tm) : dT (mkG g r T) = .tup (.int (g : Int) :: List.replicate r (dT T)) := by
  rcases hr with rfl | rfl <;> rfl
theorem mkG_ok {g r : Nat} (hg : fs[g]? = some r) (hr : r = 1 ∨ r = 2) {T : Tm} (h : TOk c fs T) : TOk c fs (mkG g r T) ∧ dpT (mkG g r T) ≤ dpT T + 1 := by
  rcases hr with rfl | rfl
  · exact ⟨⟨hg, h⟩, by simp only [mkG, if_true, dpT]; omega⟩
  · refine ⟨⟨hg, h, h⟩, ?_⟩
    simp only [mkG, dpT]
    rw [if_neg (by decide)]
    simp only [dpT]
    omega
theorem dctTop {S : Sto} {kvs : List (List Nat × D)} : (S ++ [Cell.dct kvs])[S.length]? = some (.dct kvs) := by simp
def L_turn_2 : SM := sSeq (sSet 8 (eOp addD (eTup (aCons (eVar 6) aNil)) (eOp mulTD (eTup (aCons (eDGet (eVar 2) (eVar 7)) aNil)) (eOp ixD (eOp ixD (eVar 0) (eC (.int 1))) (eVar 6))))) (sDPutD (eVar 2) (eCall (F__law_text 20) (aCons (eVar 8) aNil)) (eVar 8))
def L_turn_1 : SM := sFor (lstOf (eVar 5)) (gNameD 7) L_turn_2
def L_turn_0 : SM := sSeq (sSet 5 (eOp addD (eSl slD (eCl sortedN (aCons (eCl listDD (aCons (eVar 2) aNil)) aNil)) oNone (oSome (eC (.int 12)))) (eSl slD (eCl sortedN (aCons (eCl listDD (aCons (eVar 2) aNil)) aNil)) (oSome (eC (.int (-4)))) oNone))) (sFor (rg1 (aCons (eCl lenD (aCons (eOp ixD (eVar 0) (eC (.int 1))) aNil)) aNil)) (gNameD 6) L_turn_1)
def SomeOk (c : Nat) (fs : List Nat) (d : Nat) (kvs : List (List Nat × D)) (some_ : List (List Nat)) : Prop := ∀ t ∈ some_, t ∈ kvs.map (·.1) ∧ ∃ T, t = textT T ∧ TOk c fs T ∧ dpT T ≤ d
theorem t2_step (m : MOk c fs) {d g r : Nat} {kvs : List (List Nat × D)} {some_ : List (List Nat)} {t : List Nat} {S : Sto} {a1 a3 a4 v8 : Option D} (hg : fs[g]? = some r) (h : KOk c fs (d + 1) kvs) (hs : SomeOk c fs d kvs some_) (ht : t ∈ some_) (hd : d ≤ 7) (hl : kvs.length ≤ 100000) :
    ∃ kvs' v8', L_turn_2 [some (mD c fs), a1, some (.mu S.length), a3, a4, some (.lst (some_.map .str)), some (.int (g : Int)), some (.str t), v8] (S ++ [.dct kvs]) = some (.nx, [some (mD c fs), a1, some (.mu S.length), a3, a4, some (.lst (some_.map .str)), some (.int (g : Int)), some (.str t), v8'], S ++ [.dct kvs']) ∧
      KOk c fs (d + 1) kvs' ∧ SomeOk c fs d kvs' some_ ∧ kvs'.length ≤ kvs.length + 1 := by
  obtain ⟨hk, T0, e0, hT0, hd0⟩ := hs t ht
  obtain ⟨T, g1, g2, g3, g4⟩ := get_ok h hk
  have hTT : T = T0 := text_inj m g3 hT0 (by omega) (by omega) (by rw [g2, e0])
  subst hTT
  have hr12 := m.fr r (List.mem_of_getElem? hg)
  have hr : r = 1 ∨ r = 2 := by omega
  obtain ⟨k1, k2⟩ := mkG_ok hg hr g3
  have hD := mkG_D (g := g) hr T
  have hput := h.put k1 (by omega)
  have hpl := put_len kvs (textT (mkG g r T)) (dT (mkG g r T))
  have hF := f_law_text (mkG g r T) 19 (S ++ [.dct kvs]) (k1.dig m) (by omega) (by omega)
  refine ⟨putD kvs (textT (mkG g r T)) (dT (mkG g r T)), some (dT (mkG g r T)), ?_, hput, fun u hu => ⟨put_keys (hs u hu).1, (hs u hu).2⟩, hpl⟩
  have e1 : eDGet (eVar 2) (eVar 7) [some (mD c fs), a1, some (.mu S.length), a3, a4, some (.lst (some_.map .str)), some (.int (g : Int)), some (.str t), v8] (S ++ [.dct kvs]) = some (dT T, S ++ [.dct kvs]) := by
    have h2 : eVar 2 [some (mD c fs), a1, some (.mu S.length), a3, a4, some (.lst (some_.map .str)), some (.int (g : Int)), some (.str t), v8] (S ++ [.dct kvs]) = some (.mu S.length, S ++ [.dct kvs]) := rfl
    have h7 : eVar 7 [some (mD c fs), a1, some (.mu S.length), a3, a4, some (.lst (some_.map .str)), some (.int (g : Int)), some (.str t), v8] (S ++ [.dct kvs]) = some (.str t, S ++ [.dct kvs]) := rfl
    unfold eDGet
    rw [h2]
    dsimp only [Option.bind_some]
    rw [h7]
    dsimp only [Option.bind_some]
    rw [dctTop]
    dsimp only
    rw [g1]
    rfl
  have e2 : eOp ixD (eOp ixD (eVar 0) (eC (.int 1))) (eVar 6) [some (mD c fs), a1, some (.mu S.length), a3, a4, some (.lst (some_.map .str)), some (.int (g : Int)), some (.str t), v8] (S ++ [.dct kvs]) = some (.int (r : Int), S ++ [.dct kvs]) :=
    ix_tup (xs := intsD fs) (ix_tup (k := 1) rfl rfl rfl) rfl (by rw [intsD_get, hg]; rfl)
  have e3 := ev_addT (f := eTup (aCons (eVar 6) aNil)) (ev_tup1 (d := .int (g : Int)) rfl) (op_ok (ev_tup1 e1) e2 (mul_T (S ++ [.dct kvs]) hr T)) (by simp; omega)
  have e4 : [D.int (g : Int)] ++ List.replicate r (dT T) = .int (g : Int) :: List.replicate r (dT T) := rfl
  rw [e4, ← hD] at e3
  unfold L_turn_2
  refine seq_nx (set_nx e3) ?_
  simp only [List.set_cons_succ, List.set_cons_zero]
  have hc : eCall (F__law_text 20) (aCons (eVar 8) aNil) [some (mD c fs), a1, some (.mu S.length), a3, a4, some (.lst (some_.map .str)), some (.int (g : Int)), some (.str t), some (dT (mkG g r T))] (S ++ [.dct kvs]) = some (.str (textT (mkG g r T)), S ++ [.dct kvs]) := call_ok (acons_ok rfl rfl) hF
  have h8 : eVar 8 [some (mD c fs), a1, some (.mu S.length), a3, a4, some (.lst (some_.map .str)), some (.int (g : Int)), some (.str t), some (dT (mkG g r T))] (S ++ [.dct kvs]) = some (dT (mkG g r T), S ++ [.dct kvs]) := rfl
  have h2 : eVar 2 [some (mD c fs), a1, some (.mu S.length), a3, a4, some (.lst (some_.map .str)), some (.int (g : Int)), some (.str t), some (dT (mkG g r T))] (S ++ [.dct kvs]) = some (.mu S.length, S ++ [.dct kvs]) := rfl
  have hlt : kvs.length < 16777216 := by omega
  unfold sDPutD
  rw [h8]
  dsimp only [Option.bind_some]
  rw [h2]
  dsimp only [Option.bind_some]
  rw [hc]
  dsimp only [Option.bind_some]
  rw [dctTop]
  dsimp only
  rw [if_pos hlt, top_set]
theorem t1_step (m : MOk c fs) {d g r N : Nat} {kvs : List (List Nat × D)} {some_ : List (List Nat)} {S : Sto} {a1 a3 a4 v7 v8 : Option D} (hg : fs[g]? = some r) (h : KOk c fs (d + 1) kvs) (hs : SomeOk c fs d kvs some_) (hsl : some_.length ≤ 16) (hd : d ≤ 7) (hl : kvs.length ≤ N) (hN : N ≤ 90000) :
    ∃ kvs' v7' v8', L_turn_1 [some (mD c fs), a1, some (.mu S.length), a3, a4, some (.lst (some_.map .str)), some (.int (g : Int)), v7, v8] (S ++ [.dct kvs]) = some (.nx, [some (mD c fs), a1, some (.mu S.length), a3, a4, some (.lst (some_.map .str)), some (.int (g : Int)), v7', v8'], S ++ [.dct kvs']) ∧
      KOk c fs (d + 1) kvs' ∧ SomeOk c fs d kvs' some_ ∧ kvs'.length ≤ N + 16 := by
  obtain ⟨env', S2, b1, kvs', w7, w8, he, hS, h1, h2, h3⟩ := for_inv (J := fun k env S1 => ∃ (kvs' : List (List Nat × D)) (v7 v8 : Option D), env = [some (mD c fs), a1, some (.mu S.length), a3, a4, some (.lst (some_.map .str)), some (.int (g : Int)), v7, v8] ∧ S1 = S ++ [.dct kvs'] ∧ KOk c fs (d + 1) kvs' ∧ SomeOk c fs d kvs' some_ ∧ kvs'.length ≤ N + k) (g := gNameD 7) (b := L_turn_2) (some_.map D.str) 0 [some (mD c fs), a1, some (.mu S.length), a3, a4, some (.lst (some_.map .str)), some (.int (g : Int)), v7, v8] (S ++ [.dct kvs]) ⟨kvs, v7, v8, rfl, rfl, h, hs, hl⟩
    (fun i x env S1 hx ⟨kv2, v7, v8, he, hS, h1, h2, h3⟩ => by
      subst he hS
      have hi := (List.getElem?_eq_some_iff.mp hx).1
      rw [List.length_map] at hi
      obtain ⟨t, ht, rfl⟩ := List.mem_map.mp (List.mem_of_getElem? hx)
      obtain ⟨kv3, w8, q1, q2, q3, q4⟩ := t2_step m (S := S) (a1 := a1) (a3 := a3) (a4 := a4) (v8 := v8) hg h1 h2 ht hd (by omega)
      exact ⟨_, _, _, rfl, q1, kv3, _, w8, rfl, rfl, q2, q3, by omega⟩)
  subst he hS
  rw [List.length_map] at h3
  refine ⟨kvs', w7, w8, for_ok (ds := some_.map D.str) ?_ b1, h1, h2, by omega⟩
  rw [ev_lstOf]
  rfl
theorem cut_l4 {α : Type} (x : List α) : cutG x (some (-4)) none = x.drop (x.length - 4) := by
  simp only [cutG, HT.sIx]
  rw [if_pos (by decide)]
  have e : (-4 + (x.length : Int)).toNat = x.length - 4 := by omega
  rw [e, List.take_of_length_le (by simp)]
theorem ev_sorted {env : DEnv} {S : Sto} {kvs : List (List Nat × D)} {d : Nat} {i : Nat} (h : KOk c fs d kvs) (hd : d ≤ 8) (he : eVar i env (S ++ [.dct kvs]) = some (.mu S.length, S ++ [.dct kvs])) :
    eCl sortedN (aCons (eCl listDD (aCons (eVar i) aNil)) aNil) env (S ++ [.dct kvs]) = some (.lst ((sortN (kvs.map (·.1))).map .str), S ++ [.dct kvs]) := by
  have h1 : eCl listDD (aCons (eVar i) aNil) env (S ++ [.dct kvs]) = some (.lst ((kvs.map (·.1)).map .str), S ++ [.dct kvs]) := by
    refine cl_1 he ?_
    unfold listDD
    simp only [dctTop]
    simp
  refine cl_1 h1 ?_
  have hall : (kvs.map (·.1)).all (fun x => decide (x.length ≤ 16777216)) = true := by
    rw [List.all_eq_true]
    intro t ht
    obtain ⟨p, hp, rfl⟩ := List.mem_map.mp ht
    obtain ⟨T, rfl, h2, h3⟩ := h p hp
    have := textT_8 (T := T) (by omega)
    exact decide_eq_true (by dsimp only; omega)
  unfold sortedN
  simp only [strsOf_map, Option.bind_some, hall, if_true]
theorem mem_sortN {xs : List (List Nat)} {t : List Nat} (h : t ∈ sortN xs) : t ∈ xs := by
  unfold sortN at h
  exact List.mem_mergeSort.mp h
theorem turn_step (m : MOk c fs) {d N : Nat} {kvs : List (List Nat × D)} {S : Sto} {a1 a3 a4 v5 v6 v7 v8 : Option D} (h : KOk c fs d kvs) (hd : d ≤ 7) (hl : kvs.length ≤ N) (hN : N ≤ 50000) (hne : kvs ≠ []) :
    ∃ kvs' v5' v6' v7' v8', L_turn_0 [some (mD c fs), a1, some (.mu S.length), a3, a4, v5, v6, v7, v8] (S ++ [.dct kvs]) = some (.nx, [some (mD c fs), a1, some (.mu S.length), a3, a4, v5', v6', v7', v8'], S ++ [.dct kvs']) ∧ KOk c fs (d + 1) kvs' ∧ kvs'.length ≤ N + 48 ∧ kvs' ≠ [] := by
  have hs := ev_sorted (S := S) (i := 2) (env := [some (mD c fs), a1, some (.mu S.length), a3, a4, v5, v6, v7, v8]) h (by omega) rfl
  let A := sortN (kvs.map (·.1))
  have e1 := ev_slto (k := 12) (g := eC (.int 12)) hs rfl
  have e2 : eSl slD (eCl sortedN (aCons (eCl listDD (aCons (eVar 2) aNil)) aNil)) (oSome (eC (.int (-4)))) oNone [some (mD c fs), a1, some (.mu S.length), a3, a4, v5, v6, v7, v8] (S ++ [.dct kvs]) = some (.lst ((A.drop (A.length - 4)).map .str), S ++ [.dct kvs]) := by
    rw [ev_sl, hs]
    simp only [ev_onone, ev_osome, ev_c, slD, der_lst, cut_l4, List.map_drop, List.length_map]
    rfl
  have e3 := ev_addL e1 e2 (by simp; omega)
  have hm : ∀ t ∈ A.take 12 ++ A.drop (A.length - 4), t ∈ kvs.map (·.1) := fun t ht => by
    rcases List.mem_append.mp ht with z | z
    · exact mem_sortN (List.mem_of_mem_take z)
    · exact mem_sortN (List.mem_of_mem_drop z)
  have hsl : (A.take 12 ++ A.drop (A.length - 4)).length ≤ 16 := by simp; omega
  generalize hSm : A.take 12 ++ A.drop (A.length - 4) = some_ at e3 hm hsl
  have hSome : SomeOk c fs d kvs some_ := fun t ht => by
    refine ⟨hm t ht, ?_⟩
    obtain ⟨p, hp, rfl⟩ := List.mem_map.mp (hm t ht)
    obtain ⟨T, rfl, h2, h3⟩ := h p hp
    exact ⟨T, rfl, h2, h3⟩
  obtain ⟨env', S2, b1, kvs', w6, w7, w8, he, hS, h1, h2, h3⟩ := for_inv (J := fun k env S1 => ∃ (kvs' : List (List Nat × D)) (v6 v7 v8 : Option D), env = [some (mD c fs), a1, some (.mu S.length), a3, a4, some (.lst (some_.map .str)), v6, v7, v8] ∧ S1 = S ++ [.dct kvs'] ∧ KOk c fs (d + 1) kvs' ∧ SomeOk c fs d kvs' some_ ∧ kvs'.length ≤ N + 16 * k) (g := gNameD 6) (b := L_turn_1) (rgL 0 fs.length) 0 [some (mD c fs), a1, some (.mu S.length), a3, a4, some (.lst (some_.map .str)), v6, v7, v8] (S ++ [.dct kvs]) ⟨kvs, v6, v7, v8, rfl, rfl, h.up (by omega), hSome, by omega⟩
    (fun i x env S1 hx ⟨kv2, v6, v7, v8, he, hS, h1, h2, h3⟩ => by
      subst he hS
      have hi := (List.getElem?_eq_some_iff.mp hx).1
      rw [rgL_len] at hi
      have hx' : x = .int (i : Int) := by
        unfold rgL at hx
        simp [List.getElem?_range hi] at hx
        exact hx.symm
      subst hx'
      have hf3 := m.f3
      obtain ⟨kv3, w7, w8, q1, q2, q3, q4⟩ := t1_step m (g := i) (r := fs[i]) (N := N + 16 * i) (S := S) (a1 := a1) (a3 := a3) (a4 := a4) (v7 := v7) (v8 := v8) (List.getElem?_eq_getElem hi) h1 h2 hsl hd (by omega) (by omega)
      exact ⟨_, _, _, rfl, q1, kv3, _, w7, w8, rfl, rfl, q2, q3, by omega⟩)
  subst he hS
  have hf3 := m.f3
  rw [rgL_len] at h3
  have hA : A ≠ [] := fun z => by
    have : kvs.map (·.1) = [] := by
      have hp := List.mergeSort_perm (kvs.map (·.1)) (PySem.W.dataLe false fun x => PyData.int (x.length : Nat))
      have hz : (kvs.map (·.1)).mergeSort (PySem.W.dataLe false fun x => PyData.int (x.length : Nat)) = [] := z
      rw [hz] at hp
      exact List.nil_perm.mp hp
    exact hne (List.map_eq_nil_iff.mp this)
  obtain ⟨t, ht⟩ : ∃ t, t ∈ some_ := by
    rw [← hSm]
    cases hA' : A with
    | nil => exact absurd hA' hA
    | cons a r => exact ⟨a, by simp⟩
  have hkne : kvs' ≠ [] := fun z => by
    have := (h2 t ht).1
    rw [z] at this
    cases this
  have hlen : eCl lenD (aCons (eOp ixD (eVar 0) (eC (.int 1))) aNil) [some (mD c fs), a1, some (.mu S.length), a3, a4, some (.lst (some_.map .str)), v6, v7, v8] (S ++ [.dct kvs]) = some (.int (fs.length : Int), S ++ [.dct kvs]) := cl_1 (ix_tup (k := 1) (d := .tup (intsD fs)) rfl rfl rfl) (by simp [lenD])
  exact ⟨kvs', some (.lst (some_.map .str)), w6, w7, w8, seq_nx (set_nx e3) (for_ok (rg1_ok hlen (by omega)) b1), h1, by omega, hkne⟩
/-! ### the dict -/
theorem pairs_c {n : Nat} : ∀ l : List Nat, pairsD (l.map fun (i : Nat) => .tup [.str [99, 48 + i], .int (i : Int)]) = some (l.map fun (i : Nat) => ([99, 48 + i], D.int (i : Int)))
  | [] => rfl
  | a :: l => by simp [pairsD, pairs_c (n := n) l]
theorem f_all_terms (m : MOk c fs) (S : Sto) : ∃ kvs, F__law_all_terms [mD c fs, .int 8] S = some (.ok (.mu S.length), S ++ [.dct kvs]) ∧ KOk c fs 8 kvs ∧ kvs ≠ [] ∧ kvs.length ≤ 1000 := by
  have hc := m.c4
  have hc1 := m.c1
  have d1 : eComp (rg1 (aCons (eOp ixD (eVar 0) (eC (.int 0))) aNil)) (gNameD 3) bYes (eTup (aCons (eOp addD (eC (sT "c")) (eCl strDD (aCons (eVar 3) aNil))) (aCons (eVar 3) aNil))) [3] [some (mD c fs), some (.int 8), none, none, none, none, none, none, none] S = some (.lst ((List.range c).map fun (i : Nat) => .tup [.str [99, 48 + i], .int (i : Int)]), S) := by
    refine ev_compV (g := fun (i : Nat) => D.int (i : Int)) (by rw [rg1_ok (n := c) (ix_tup (k := 0) rfl rfl rfl) (by omega)]; simp [rgL]) (fun i hi => ?_) (by simp; omega)
    have hi' : i < 10 := by have := List.mem_range.mp hi; omega
    have hstr : eOp addD (eC (sT "c")) (eCl strDD (aCons (eVar 3) aNil)) [some (mD c fs), some (.int 8), none, some (.int (i : Int)), none, none, none, none, none] S = some (.str [99, 48 + i], S) := ev_addS (cps_c_ _ _) (cl_1 rfl (str_dig S hi')) (by simp)
    show eTup _ [some (mD c fs), some (.int 8), none, some (.int (i : Int)), none, none, none, none, none] S = _
    rw [ev_tup, acons_ok hstr (acons_ok rfl rfl)]
    rfl
  have hK : KOk c fs 1 ((List.range c).map fun (i : Nat) => ([99, 48 + i], D.int (i : Int))) := fun kv hkv => by
    obtain ⟨i, hi, rfl⟩ := List.mem_map.mp hkv
    exact ⟨.c i, rfl, List.mem_range.mp hi, by simp [dpT]⟩
  obtain ⟨m1, m2, m3⟩ := merge_ok (c := c) (fs := fs) (d := 1) ((List.range c).map fun (i : Nat) => ([99, 48 + i], D.int (i : Int))) [] (fun kv h => by cases h) hK
  have hne : ((List.range c).map fun (i : Nat) => ([99, 48 + i], D.int (i : Int))) ≠ [] := by
    intro z
    rw [List.map_eq_nil_iff] at z
    have := congrArg List.length z
    simp at this; omega
  generalize hk0 : mergeD [] ((List.range c).map fun (i : Nat) => ([99, 48 + i], D.int (i : Int))) = kv0 at m1 m2 m3
  have d2 : eDict (aCons (eComp (rg1 (aCons (eOp ixD (eVar 0) (eC (.int 0))) aNil)) (gNameD 3) bYes (eTup (aCons (eOp addD (eC (sT "c")) (eCl strDD (aCons (eVar 3) aNil))) (aCons (eVar 3) aNil))) [3]) aNil) [some (mD c fs), some (.int 8), none, none, none, none, none, none, none] S = some (.mu S.length, S ++ [.dct kv0]) := by
    unfold eDict
    rw [acons_ok d1 rfl]
    dsimp only [Option.bind_some]
    rw [pairs_c (n := c), Option.map_some, hk0]
  simp only [List.length_nil, List.length_map, List.length_range] at m2
  obtain ⟨env', S2, b1, kvs, w4, w5, w6, w7, w8, he, hS, h1, h2, h3, _⟩ := for_inv (J := fun k env S1 => ∃ (kvs : List (List Nat × D)) (v4 v5 v6 v7 v8 : Option D), env = [some (mD c fs), some (.int 8), some (.mu S.length), none, v4, v5, v6, v7, v8] ∧ S1 = S ++ [.dct kvs] ∧ KOk c fs (1 + k) kvs ∧ kvs ≠ [] ∧ kvs.length ≤ 4 + 48 * k ∧ k ≤ 7) (g := gNameD 4) (b := L_turn_0) (rgL 0 7) 0 [some (mD c fs), some (.int 8), some (.mu S.length), none, none, none, none, none, none] (S ++ [.dct kv0]) ⟨kv0, none, none, none, none, none, rfl, rfl, m1, m3 (.inr hne), by omega, by omega⟩
    (fun i x env S1 hx ⟨kv2, v4, v5, v6, v7, v8, he, hS, h1, h2, h3, h4⟩ => by
      subst he hS
      have hi := (List.getElem?_eq_some_iff.mp hx).1
      rw [rgL_len] at hi
      obtain ⟨kv3, w5, w6, w7, w8, q1, q2, q3, q4⟩ := turn_step m (N := 4 + 48 * (0 + i)) (S := S) (a1 := some (.int 8)) (a3 := none) (a4 := some x) (v5 := v5) (v6 := v6) (v7 := v7) (v8 := v8) h1 (by omega) h3 (by omega) h2
      exact ⟨_, _, _, rfl, q1, kv3, some x, w5, w6, w7, w8, rfl, rfl, q2.up (by omega), q4, by omega, by omega⟩)
  subst he hS
  rw [rgL_len] at h1 h3
  have hr : eOp subD (eVar 1) (eC (.int 1)) [some (mD c fs), some (.int 8), some (.mu S.length), none, none, none, none, none, none] (S ++ [.dct kv0]) = some (.int ((7 : Nat) : Int), S ++ [.dct kv0]) := op_ok rfl rfl rfl
  exact ⟨kvs, den_rt rfl (seq_nx (set_nx d2) (seq_nx (for_ok (rg1_ok hr (by omega)) b1) (ret_rt rfl))), h1.up (by omega), h2, by omega⟩
end
end L2.DL
-- part P28
set_option maxHeartbeats 4000000
/-! P28: texts of terms, right and bent, read. -/
namespace L2.DL
open PySem PySem.Spec PyProof.Rows
section
variable {env : DEnv} {S : Sto}
theorem ev_sslto {f g : EM} {A : List Nat} {k : Nat} (h1 : f env S = some (.str A, S)) (h2 : g env S = some (.int (k : Int), S)) (hA : A.length ≤ 16777216) : eSl slD f oNone (oSome g) env S = some (.str (A.take k), S) := by
  rw [ev_sl, h1]
  simp only [ev_onone, ev_osome, h2, slD, der_str, hA, if_true, cut_to]
theorem ev_sslfrom {f g : EM} {A : List Nat} {k : Nat} (h1 : f env S = some (.str A, S)) (h2 : g env S = some (.int (k : Int), S)) (hA : A.length ≤ 16777216) : eSl slD f (oSome g) oNone env S = some (.str (A.drop k), S) := by
  rw [ev_sl, h1]
  simp only [ev_onone, ev_osome, h2, slD, der_str, hA, if_true, cut_from]
theorem lst_ok {fa : AM} {as : List D} {s : Sto} (h : fa env S = some (as, s)) (hl : as.length ≤ 16777216) : eLst fa env S = some (.lst as, s) := by
  rw [ev_lst, h]; simp only [hl, if_true]
end
theorem nic_dT : ∀ T : Tm, Nic (dpT T) (dT T)
  | .c i => by simp only [dpT, dT]; trivial
  | .f1 g a => by
    have h := nic_dT a
    simp only [dpT, dT]
    rw [Nat.add_comm]
    refine ⟨by simp, fun x hx => ?_⟩
    simp only [List.mem_cons, List.not_mem_nil, or_false] at hx
    rcases hx with rfl | rfl
    · cases dpT a <;> trivial
    · exact h
  | .f2 g a b => by
    have h := nic_dT a
    have h' := nic_dT b
    simp only [dpT, dT]
    rw [Nat.add_comm]
    refine ⟨by simp, fun x hx => ?_⟩
    simp only [List.mem_cons, List.not_mem_nil, or_false] at hx
    rcases hx with rfl | rfl | rfl
    · cases max (dpT a) (dpT b) <;> trivial
    · exact h.le (Nat.le_max_left _ _)
    · exact h'.le (Nat.le_max_right _ _)
theorem nic_told {c : Nat} {fs x : List Nat} : Nic 8 (toldT (lawT c fs 7 x)) := by
  cases h : lawT c fs 7 x with
  | none => trivial
  | some T =>
    have := (lawT_inv 7 x T h).2.1
    exact (nic_dT T).le (by omega)
theorem cps_bad : (Str.ofString "bad").cps.toList = BAD := by decide +kernel
def TV (v : D) : Prop := (∃ x, v = .str x ∧ x.length ≤ 1000000) ∨ v = .non ∨ ∃ i, v = .int i
def L_tr : SM := sSeq (sSet 7 (eIf (bTru (eUn (isiD "str") (eVar 6))) (eCall (F__law_term 20) (aCons (eVar 1) (aCons (eVar 6) (aCons (eC (.int 8)) aNil)))) (eC .non))) (sSeq (sSet 8 (eCall F__law_told_term (aCons (eVar 1) (aCons (eVar 6) aNil)))) (sIf (bNot (bTru (eCall (F__law_alike 20) (aCons (eVar 8) (aCons (eIf (bOf (eOp isND (eVar 7) (eC .non))) (eC (sT "bad")) (eVar 7)) aNil))))) (sRet (eC (.bl false))) sNil))
section
variable {c : Nat} {fs : List Nat} {ns : List Int}
theorem tr_end {S : Sto} {a0 a1 a2 a3 a4 a5 a6 : Option D} {o : Option Tm} (ho : Nic 8 (toldT o)) : sIf (bNot (bTru (eCall (F__law_alike 20) (aCons (eVar 8) (aCons (eIf (bOf (eOp isND (eVar 7) (eC .non))) (eC (sT "bad")) (eVar 7)) aNil))))) (sRet (eC (.bl false))) sNil [a0, a1, a2, a3, a4, a5, a6, some (oT o), some (toldT o)] S = some (.nx, [a0, a1, a2, a3, a4, a5, a6, some (oT o), some (toldT o)], S) := by
  have h1 : eIf (bOf (eOp isND (eVar 7) (eC .non))) (eC (sT "bad")) (eVar 7) [a0, a1, a2, a3, a4, a5, a6, some (oT o), some (toldT o)] S = some (toldT o, S) := by
    cases o with
    | none => exact (eif_t (bof_ok (op_ok (a := .non) (b := .non) rfl rfl rfl))).trans (by simp [sT, cps_bad, toldT])
    | some T =>
      have hT := dT_notnon T
      exact (eif_f (bof_ok (op_ok (a := dT T) (b := .non) rfl rfl (by simp [isND, hT, isN_non])))).trans rfl
  have h2 := f_alike 19 (toldT o) S (ho.le (by omega))
  exact (if_f (not_b (tru_bl (call_ok (acons_ok rfl (acons_ok h1 rfl)) h2)))).trans rfl
theorem tr_step (m : MOk c fs) {S : Sto} {v : D} {a0 a2 a3 a4 a5 v7 v8 : Option D} (hv : TV v) : ∃ v7' v8' N, L_tr [a0, some (mD c fs), a2, a3, a4, a5, some v, v7, v8] S = some (.nx, [a0, some (mD c fs), a2, a3, a4, a5, some v, v7', v8'], S ++ N) := by
  rcases hv with ⟨x, rfl, hx⟩ | rfl | ⟨i, rfl⟩
  · have h1 : F__law_term 20 [mD c fs, .str x, .int 8] S = some (.ok (oT (lawT c fs 7 x)), S) := f_law_term m 7 19 x S (by omega) (by omega) hx
    obtain ⟨N, h2⟩ := f_told_term m hx S
    refine ⟨some (oT (lawT c fs 7 x)), some (toldT (lawT c fs 7 x)), N, ?_⟩
    have e1 : eIf (bTru (eUn (isiD "str") (eVar 6))) (eCall (F__law_term 20) (aCons (eVar 1) (aCons (eVar 6) (aCons (eC (.int 8)) aNil)))) (eC .non) [a0, some (mD c fs), a2, a3, a4, a5, some (.str x), v7, v8] S = some (oT (lawT c fs 7 x), S) :=
      (eif_t (tru_bl (un_ok rfl (by simp [isiD, kindOf])))).trans (call_ok (acons_ok rfl (acons_ok rfl (acons_ok rfl rfl))) h1)
    exact seq_nx (set_nx e1) (seq_nx (set_nx (call_ok (acons_ok rfl (acons_ok rfl rfl)) h2)) (tr_end nic_told))
  · have e1 : eIf (bTru (eUn (isiD "str") (eVar 6))) (eCall (F__law_term 20) (aCons (eVar 1) (aCons (eVar 6) (aCons (eC (.int 8)) aNil)))) (eC .non) [a0, some (mD c fs), a2, a3, a4, a5, some .non, v7, v8] S = some (oT none, S) :=
      (eif_f (tru_bl (un_ok rfl (by simp [isiD, kindOf])))).trans rfl
    refine ⟨some (oT none), some (toldT none), [], ?_⟩
    rw [List.append_nil]
    exact seq_nx (set_nx e1) (seq_nx (set_nx (call_ok (acons_ok rfl (acons_ok rfl rfl)) (f_told_non m S))) (tr_end (o := none) trivial))
  · have e1 : eIf (bTru (eUn (isiD "str") (eVar 6))) (eCall (F__law_term 20) (aCons (eVar 1) (aCons (eVar 6) (aCons (eC (.int 8)) aNil)))) (eC .non) [a0, some (mD c fs), a2, a3, a4, a5, some (.int i), v7, v8] S = some (oT none, S) :=
      (eif_f (tru_bl (un_ok rfl (by simp [isiD, kindOf])))).trans rfl
    refine ⟨some (oT none), some (toldT none), [], ?_⟩
    rw [List.append_nil]
    exact seq_nx (set_nx e1) (seq_nx (set_nx (call_ok (acons_ok rfl (acons_ok rfl rfl)) (f_told_int m i S))) (tr_end (o := none) trivial))
theorem tr_loop (m : MOk c fs) {a0 a2 a3 a4 a5 : Option D} {S : Sto} (h : Rw ns S) {ds : List D} (hds : ∀ d ∈ ds, TV d) {v6 v7 v8 : Option D} : ∃ e' S', forD (gNameD 6) L_tr ds [a0, some (mD c fs), a2, a3, a4, a5, v6, v7, v8] S = some (.nx, e', S') ∧ Rw ns S' := by
  obtain ⟨env', S2, b1, _, b2⟩ := for_inv (J := fun _ env S1 => (∃ v6 v7 v8, env = [a0, some (mD c fs), a2, a3, a4, a5, v6, v7, v8]) ∧ Rw ns S1) (g := gNameD 6) (b := L_tr) ds 0 [a0, some (mD c fs), a2, a3, a4, a5, v6, v7, v8] S ⟨⟨_, _, _, rfl⟩, h⟩
    (fun i x env S1 hx ⟨⟨v6, v7, v8, he⟩, hR⟩ => by
      subst he
      obtain ⟨w7, w8, N, q⟩ := tr_step m (S := S1) (a0 := a0) (a2 := a2) (a3 := a3) (a4 := a4) (a5 := a5) (v7 := v7) (v8 := v8) (hds x (List.mem_of_getElem? hx))
      exact ⟨_, _, _, rfl, q, ⟨_, _, _, rfl⟩, hR.app N⟩)
  exact ⟨env', S2, b1, b2⟩
theorem cps_c0 : (Str.ofString "c0").cps.toList = [99, 48] := by decide +kernel
theorem cps_f0 : (Str.ofString "f0").cps.toList = [102, 48] := by decide +kernel
theorem cps_f0p : (Str.ofString "f0(").cps.toList = [102, 48, 40] := by decide +kernel
theorem mem_sortS {xs : List (List Nat)} {t : List Nat} : t ∈ sortS xs ↔ t ∈ xs := by
  unfold sortS
  exact List.mem_mergeSort
theorem f_terms_right (m : MOk c fs) {S : Sto} (h : Rw ns S) : ∃ S', F__law_terms_right [.mu 0, mD c fs] S = some (.ok (.bl true), S') ∧ Rw ns S' := by
  obtain ⟨kvs, a1, a2, a3, a4⟩ := f_all_terms m S
  have hR := h.app [.dct kvs]
  have hlist : eCl listDD (aCons (eVar 2) aNil) [some (.mu 0), some (mD c fs), some (.mu S.length), none, none, none, none, none, none] (S ++ [.dct kvs]) = some (.lst ((kvs.map (·.1)).map .str), S ++ [.dct kvs]) := by
    refine cl_1 (a := .mu S.length) rfl ?_
    unfold listDD
    simp only [dctTop]
    simp
  have hsort : eCl sortedDD (aCons (eCl listDD (aCons (eVar 2) aNil)) aNil) [some (.mu 0), some (mD c fs), some (.mu S.length), none, none, none, none, none, none] (S ++ [.dct kvs]) = some (.lst ((sortS (kvs.map (·.1))).map .str), S ++ [.dct kvs]) := by
    refine cl_1 hlist ?_
    unfold sortedDD
    simp only [strsOf_map, Option.map_some]
  have hlen : (sortS (kvs.map (·.1))).length = kvs.length := by simp [sortS]
  obtain ⟨d, hd, S1, b1, b2⟩ := ev_pick (xs := (sortS (kvs.map (·.1))).map .str) (E := eCl sortedDD (aCons (eCl listDD (aCons (eVar 2) aNil)) aNil)) (env := [some (.mu 0), some (mD c fs), some (.mu S.length), none, none, none, none, none, none]) rfl hR hsort (by
    intro z
    have := congrArg List.length z
    simp [hlen] at this
    exact a3 this) (by simp [hlen]; omega)
  obtain ⟨t, ht, rfl⟩ := List.mem_map.mp hd
  obtain ⟨p, hp, rfl⟩ := List.mem_map.mp (mem_sortS.mp ht)
  obtain ⟨T, rfl, hT, hdp⟩ := a2 p hp
  dsimp only at b1
  have hx1 := textT_8 hdp
  have hx2 := textT_len T
  generalize textT T = x at b1 hx1 hx2
  obtain ⟨k, S2, c1, c2, c3⟩ := f_taken (m := x.length) b2 (by omega) (by omega)
  have hxb : x.length ≤ 16777216 := by omega
  have hlenx : eCl lenD (aCons (eVar 3) aNil) [some (.mu 0), some (mD c fs), some (.mu S.length), some (.str x), none, none, none, none, none] S1 = some (.int (x.length : Int), S1) := cl_1 (a := .str x) rfl (by simp [lenD, hxb])
  have hk : eCall F__law_taken (aCons (eVar 0) (aCons (eCl lenD (aCons (eVar 3) aNil)) aNil)) [some (.mu 0), some (mD c fs), some (.mu S.length), some (.str x), none, none, none, none, none] S1 = some (.int (k : Int), S2) := call_ok (acons_ok rfl (acons_ok hlenx rfl)) c1
  have v3 : ∀ S, eVar 3 [some (.mu 0), some (mD c fs), some (.mu S.length), some (.str x), some (.int (k : Int)), none, none, none, none] S = some (.str x, S) := fun S => rfl
  have hA : ∀ (n : Nat) (S : Sto), eSl slD (eVar 3) oNone (oSome (eVar 4)) [some (.mu 0), some (mD c fs), some (.mu n), some (.str x), some (.int (k : Int)), none, none, none, none] S = some (.str (x.take k), S) := fun n S => ev_sslto rfl rfl hxb
  have hB : ∀ (n : Nat) (S : Sto), eSl slD (eVar 3) (oSome (eOp addD (eVar 4) (eC (.int 1)))) oNone [some (.mu 0), some (mD c fs), some (.mu n), some (.str x), some (.int (k : Int)), none, none, none, none] S = some (.str (x.drop (k + 1)), S) := fun n S => ev_sslfrom rfl (ev_inc rfl) hxb
  have hC : ∀ (n : Nat) (S : Sto), eSl slD (eVar 3) (oSome (eVar 4)) oNone [some (.mu 0), some (mD c fs), some (.mu n), some (.str x), some (.int (k : Int)), none, none, none, none] S = some (.str (x.drop k), S) := fun n S => ev_sslfrom rfl rfl hxb
  have hP : eLst (aCons (eC (sT "c0")) (aCons (eC (sT "(")) (aCons (eC (sT ")")) (aCons (eC (sT ",")) (aCons (eC (sT "f0")) aNil))))) [some (.mu 0), some (mD c fs), some (.mu S.length), some (.str x), some (.int (k : Int)), none, none, none, none] S2 = some (.lst ([[99, 48], [40], [41], [44], [102, 48]].map .str), S2) := by
    simp [sT, cps_c0, cps_f0]
  obtain ⟨d, hd, S3, p1, p2⟩ := ev_pick (xs := [[99, 48], [40], [41], [44], [102, 48]].map .str) (env := [some (.mu 0), some (mD c fs), some (.mu S.length), some (.str x), some (.int (k : Int)), none, none, none, none]) rfl c3 hP (by simp) (by simp)
  obtain ⟨w, hw, rfl⟩ := List.mem_map.mp hd
  have hwl : w.length ≤ 2 := by
    simp only [List.mem_cons, List.not_mem_nil, or_false] at hw
    rcases hw with rfl | rfl | rfl | rfl | rfl <;> simp
  have hL : eLst (aCons (eVar 3) (aCons (eOp addD (eSl slD (eVar 3) oNone (oSome (eVar 4))) (eSl slD (eVar 3) (oSome (eOp addD (eVar 4) (eC (.int 1)))) oNone)) (aCons (eOp addD (eOp addD (eSl slD (eVar 3) oNone (oSome (eVar 4))) (eCall F__law_pick (aCons (eVar 0) (aCons (eLst (aCons (eC (sT "c0")) (aCons (eC (sT "(")) (aCons (eC (sT ")")) (aCons (eC (sT ",")) (aCons (eC (sT "f0")) aNil)))))) aNil)))) (eSl slD (eVar 3) (oSome (eVar 4)) oNone)) aNil)))
      [some (.mu 0), some (mD c fs), some (.mu S.length), some (.str x), some (.int (k : Int)), none, none, none, none] S2 = some (.lst [.str x, .str (x.take k ++ x.drop (k + 1)), .str (x.take k ++ w ++ x.drop k)], S3) :=
    lst_ok (acons_ok rfl (acons_ok (ev_addS (hA _ _) (hB _ _) (by simp; omega)) (acons_ok (ev_addS (ev_addS (hA _ _) p1 (by simp; omega)) (hC _ _) (by simp; omega)) rfl))) (by simp)
  have hsrc : lstOf (eOp addD (eVar 5) (eLst (aCons (eOp addD (eOp addD (eC (sT "f0(")) (eVar 3)) (eC (sT ")"))) (aCons (eC (sT "")) (aCons (eC .non) (aCons (eOp addD (eC (sT " ")) (eVar 3)) (aCons (eC (.int 7)) aNil))))))) [some (.mu 0), some (mD c fs), some (.mu S.length), some (.str x), some (.int (k : Int)), some (.lst [.str x, .str (x.take k ++ x.drop (k + 1)), .str (x.take k ++ w ++ x.drop k)]), none, none, none] S3 =
      some ([.str x, .str (x.take k ++ x.drop (k + 1)), .str (x.take k ++ w ++ x.drop k), .str ([102, 48, 40] ++ x ++ [41]), .str [], .non, .str ([32] ++ x), .int 7], S3) := by
    have f0 : ∀ env : DEnv, eC (sT "f0(") env S3 = some (.str [102, 48, 40], S3) := fun env => by simp [sT, cps_f0p]
    have f1 : ∀ env : DEnv, eC (sT ")") env S3 = some (.str [41], S3) := fun env => by simp [sT]
    have f2 : ∀ env : DEnv, eC (sT "") env S3 = some (.str [], S3) := fun env => by simp [sT]
    have f3 : ∀ env : DEnv, eC (sT " ") env S3 = some (.str [32], S3) := fun env => by simp [sT]
    have hl := lst_ok (acons_ok (ev_addS (ev_addS (f0 [some (.mu 0), some (mD c fs), some (.mu S.length), some (.str x), some (.int (k : Int)), some (.lst [.str x, .str (x.take k ++ x.drop (k + 1)), .str (x.take k ++ w ++ x.drop k)]), none, none, none]) (B := x) (g := eVar 3) (S2 := S3) rfl (by simp; omega)) (f1 _) (by simp; omega)) (acons_ok (f2 _) (acons_ok (fe := eC .non) (a := .non) (s := S3) rfl (acons_ok (ev_addS (f3 _) (B := x) (g := eVar 3) (S2 := S3) rfl (by simp; omega)) (acons_ok (fe := eC (.int 7)) (a := .int 7) (s := S3) (fa := aNil) (r := []) (s2 := S3) rfl rfl))))) (by simp)
    rw [ev_lstOf, op_ok (z := .lst [.str x, .str (x.take k ++ x.drop (k + 1)), .str (x.take k ++ w ++ x.drop k), .str ([102, 48, 40] ++ x ++ [41]), .str [], .non, .str ([32] ++ x), .int 7]) rfl hl (by simp [addD])]
  obtain ⟨e', S4, q1, q2⟩ := tr_loop m (a0 := some (.mu 0)) (a2 := some (.mu S.length)) (a3 := some (.str x)) (a4 := some (.int (k : Int))) (a5 := some (.lst [.str x, .str (x.take k ++ x.drop (k + 1)), .str (x.take k ++ w ++ x.drop k)])) p2 (ds := [.str x, .str (x.take k ++ x.drop (k + 1)), .str (x.take k ++ w ++ x.drop k), .str ([102, 48, 40] ++ x ++ [41]), .str [], .non, .str ([32] ++ x), .int 7]) (fun d hd => by
    simp only [List.mem_cons, List.not_mem_nil, or_false] at hd
    rcases hd with rfl | rfl | rfl | rfl | rfl | rfl | rfl | rfl
    · exact .inl ⟨_, rfl, by omega⟩
    · exact .inl ⟨_, rfl, by simp; omega⟩
    · exact .inl ⟨_, rfl, by simp; omega⟩
    · exact .inl ⟨_, rfl, by simp; omega⟩
    · exact .inl ⟨_, rfl, by simp⟩
    · exact .inr (.inl rfl)
    · exact .inl ⟨_, rfl, by simp; omega⟩
    · exact .inr (.inr ⟨_, rfl⟩)) (v6 := none) (v7 := none) (v8 := none)
  exact ⟨S4, den_rt rfl (seq_nx (set_nx (call_ok (acons_ok rfl (acons_ok rfl rfl)) a1)) (seq_nx (set_nx b1) (seq_nx (set_nx hk) (seq_nx (set_nx hL) (seq_nx (for_ok hsrc q1) (ret_rt rfl)))))), q2⟩
end
end L2.DL
-- part P29
set_option maxHeartbeats 4000000
/-! P29: wishes drawn. -/
namespace L2.DL
open PySem PySem.Spec PyProof.Rows
/-- a comprehension that picks things -/
theorem comp_rowS {I : Sto → Prop} {g : D → DEnv → Option DEnv} {t : BM} {fe : EM} {vs : List Nat} {env : DEnv} : ∀ {ds : List D} {S : Sto}, I S → (∀ d ∈ ds, ∀ S, I S → ∃ e b S1, g d (wipeD env vs) = some e ∧ t e S = some (b, S1) ∧ I S1 ∧ fe e S1 = some (d, S1)) →
    ∃ ys S', compD g t fe vs ds env S = some (ys, S') ∧ I S' ∧ ys.Sublist ds
  | [], S, hI, _ => ⟨[], S, rfl, hI, .slnil⟩
  | d :: ds, S, hI, h => by
    obtain ⟨e, b, S1, h1, h2, h3, h4⟩ := h d List.mem_cons_self S hI
    obtain ⟨ys, S', k1, k2, k3⟩ := comp_rowS h3 fun d hd => h d (List.mem_cons_of_mem _ hd)
    cases b with
    | true => exact ⟨d :: ys, S', by simp [compD, h1, h2, h4, k1], k2, k3.cons_cons d⟩
    | false => exact ⟨ys, S', by simp [compD, h1, h2, k1], k2, k3.cons d⟩
abbrev Wn := Nat × Tm
def toW (w : Wn) : Wi := ((w.1 : Int), w.2)
def wnD (w : Wn) : D := .tup [.int (w.1 : Int), dT w.2]
theorem wnD_eq (w : Wn) : wnD w = wD (toW w) := rfl
theorem comp_w {I : Sto → Prop} {P : Tm → Prop} {fe : EM} {i : Nat} {env : DEnv} : ∀ {l : List Nat} {S : Sto}, I S → (∀ k ∈ l, ∀ S, I S → ∃ T S2, fe (env.set i (some (.int (k : Int)))) S = some (.tup [.int (k : Int), dT T], S2) ∧ I S2 ∧ P T) →
    ∃ (ws : List Wn) (S' : Sto), compD (gNameD i) bYes fe [i] (intsD l) env S = some (ws.map wnD, S') ∧ I S' ∧ ws.map (·.1) = l ∧ ∀ w ∈ ws, P w.2
  | [], S, hI, _ => ⟨[], S, rfl, hI, rfl, by simp⟩
  | k :: l, S, hI, h => by
    obtain ⟨T, S2, h1, h2, h3⟩ := h k List.mem_cons_self S hI
    obtain ⟨ws, S', k1, k2, k3, k4⟩ := comp_w (l := l) h2 fun j hj => h j (List.mem_cons_of_mem _ hj)
    refine ⟨(k, T) :: ws, S', ?_, k2, by simp [k3], fun w hw => ?_⟩
    · have k1' : compD (gNameD i) bYes fe [i] (List.map (fun (r : Nat) => D.int (r : Int)) l) env S2 = some (ws.map wnD, S') := k1
      simp only [intsD, List.map_cons, compD, wipeD, gNameD, List.set_set, Option.bind_some, bYes, if_true, h1, k1', Option.map_some]
      rfl
    · rcases List.mem_cons.mp hw with e | e
      · rw [e]; exact h3
      · exact k4 w e
structure WOk (c : Nat) (fs : List Nat) (ws : List Wn) : Prop where
  asc : (ws.map (·.1)).Pairwise (· < ·)
  ok : ∀ w ∈ ws, w.1 < c ∧ TOk c fs w.2 ∧ dpT w.2 ≤ 8
  ne : ws ≠ []
theorem rg_ints (c : Nat) : rgL 0 c = intsD (List.range c) := by
  unfold rgL intsD
  apply List.map_congr_left
  intro i _
  simp
section
variable {c : Nat} {fs : List Nat} {ns : List Int}
theorem tup2_ok {f g : EM} {env : DEnv} {S s1 s2 : Sto} {a b : D} (h1 : f env S = some (a, s1)) (h2 : g env s1 = some (b, s2)) : eTup (aCons f (aCons g aNil)) env S = some (.tup [a, b], s2) := by
  rw [ev_tup, acons_ok h1 (acons_ok h2 rfl)]
  simp
theorem ev_taken {n : Nat} {fe : EM} {env : DEnv} {S : Sto} (h : Rw ns S) (h0 : eVar 0 env S = some (.mu 0, S)) (he : fe env S = some (.int (n : Int), S)) (h1 : 1 ≤ n) (h2 : n ≤ 100000) : ∃ (r : Nat) (S' : Sto), eCall F__law_taken (aCons (eVar 0) (aCons fe aNil)) env S = some (.int (r : Int), S') ∧ r < n ∧ Rw ns S' := by
  obtain ⟨r, S', a1, a2, a3⟩ := f_taken (m := n) h h1 (by omega)
  exact ⟨r, S', call_ok (acons_ok h0 (acons_ok he rfl)) a1, a2, a3⟩
theorem wi_cells (hc : 1 ≤ c) (hc4 : c ≤ 4) {hv x2 : Option D} {S : Sto} (h : Rw ns S) :
    ∃ l S', compD (gNameD 5) (bOf (eOp eqD (eCall F__law_taken (aCons (eVar 0) (aCons (eC (.int 2)) aNil))) (eC (.int 0)))) (eVar 5) [5] (rgL 0 c) [some (.mu 0), some (mD c fs), x2, hv, none, none] S = some (intsD l, S') ∧ Rw ns S' ∧ l.Pairwise (· < ·) ∧ (∀ k ∈ l, k < c) := by
  obtain ⟨ys, S', h1, h2, h3⟩ := comp_rowS (I := Rw ns) (g := gNameD 5) (t := bOf (eOp eqD (eCall F__law_taken (aCons (eVar 0) (aCons (eC (.int 2)) aNil))) (eC (.int 0)))) (fe := eVar 5) (vs := [5]) (env := [some (.mu 0), some (mD c fs), x2, hv, none, none]) (ds := rgL 0 c) h fun d hd S hS => by
    obtain ⟨r, S1, a1, a2, a3⟩ := ev_taken (n := 2) (fe := eC (.int 2)) (env := [some (.mu 0), some (mD c fs), x2, hv, none, some d]) hS rfl rfl (by omega) (by omega)
    exact ⟨_, _, S1, rfl, bof_ok (op_ok a1 (b := .int 0) rfl rfl), a3, rfl⟩
  rw [rg_ints] at h3
  unfold intsD at h3
  obtain ⟨l, hl, rfl⟩ := List.sublist_map_iff.mp h3
  exact ⟨l, S', h1, h2, List.Pairwise.sublist hl List.pairwise_lt_range, fun k hk => List.mem_range.mp (hl.subset hk)⟩
theorem f_law_wishes (m : MOk c fs) {ls : List NL} (hl : ∀ l ∈ ls, NOk c fs l) (h6 : ls.length ≤ 6) {S : Sto} (h : Rw ns S) : ∃ (ws : List Wn) (S' : Sto), F__law_wishes [.mu 0, mD c fs, .tup (ls.map nlD)] S = some (.ok (.tup (ws.map wnD)), S') ∧ WOk c fs ws ∧ Rw ns S' := by
  have hc := m.c4
  have hc1 := m.c1
  have hrun := f_law_run m hl S
  have hH := run_ok m ls 1 (firstT c) hl first_ok
  generalize runT ls (firstT c) = hs at hrun hH
  obtain ⟨l, S1, a1, a2, a3, a4⟩ := wi_cells (fs := fs) hc1 hc (hv := some (.tup (hs.map dT))) (x2 := some (.tup (ls.map nlD))) h
  have hll := lot_len (a := 0) a3 fun k hk => ⟨by omega, a4 k hk⟩
  have e4 : eComp (rg1 (aCons (eOp ixD (eVar 1) (eC (.int 0))) aNil)) (gNameD 5) (bOf (eOp eqD (eCall F__law_taken (aCons (eVar 0) (aCons (eC (.int 2)) aNil))) (eC (.int 0)))) (eVar 5) [5] [some (.mu 0), some (mD c fs), some (.tup (ls.map nlD)), some (.tup (hs.map dT)), none, none] S = some (.lst (intsD l), S1) := by
    have hb : (intsD l).length ≤ 16777216 := by simp; omega
    rw [ev_comp, rg1_ok (n := c) (ix_tup (k := 0) rfl rfl rfl) (by omega)]
    simp only [a1, hb, if_true]
  have hcells : ∃ (l2 : List Nat) (S2 : Sto), eIf (bOf (eOp neD (eVar 4) (eLst aNil))) (eVar 4) (eLst (aCons (eCall F__law_taken (aCons (eVar 0) (aCons (eOp ixD (eVar 1) (eC (.int 0))) aNil))) aNil)) [some (.mu 0), some (mD c fs), some (.tup (ls.map nlD)), some (.tup (hs.map dT)), some (.lst (intsD l)), none] S1 = some (.lst (intsD l2), S2) ∧ Rw ns S2 ∧ l2.Pairwise (· < ·) ∧ (∀ k ∈ l2, k < c) ∧ l2 ≠ [] := by
    have hcond : bOf (eOp neD (eVar 4) (eLst aNil)) [some (.mu 0), some (mD c fs), some (.tup (ls.map nlD)), some (.tup (hs.map dT)), some (.lst (intsD l)), none] S1 = some (!(intsD l).isEmpty, S1) := by
      refine bof_ok (op_ok (a := .lst (intsD l)) rfl (lst_ok rfl (by simp)) ?_)
      simp only [neD]
      rw [ints_nil (fun d hd => by
        unfold intsD at hd
        obtain ⟨r, _, rfl⟩ := List.mem_map.mp hd
        exact ⟨_, rfl⟩)]
      rfl
    cases l with
    | nil =>
      obtain ⟨r, S2, b1, b2, b3⟩ := ev_taken (n := c) (fe := eOp ixD (eVar 1) (eC (.int 0))) (env := [some (.mu 0), some (mD c fs), some (.tup (ls.map nlD)), some (.tup (hs.map dT)), some (.lst (intsD [])), none]) a2 rfl (ix_tup (k := 0) rfl rfl rfl) hc1 (by omega)
      exact ⟨[r], S2, (eif_f hcond).trans (lst_ok (acons_ok b1 rfl) (by simp)), b3, by simp, fun k hk => by rw [List.mem_singleton.mp hk]; exact b2, by simp⟩
    | cons k r => exact ⟨k :: r, S1, (eif_t hcond).trans rfl, a2, a3, a4, by simp⟩
  obtain ⟨l2, S2, b1, b2, b3, b4, b5⟩ := hcells
  have hl2 := lot_len (a := 0) b3 fun k hk => ⟨by omega, b4 k hk⟩
  obtain ⟨ws, S3, c1, c2, c3, c4⟩ := comp_w (I := Rw ns) (P := fun T => TOk c fs T ∧ dpT T ≤ 8) (fe := eTup (aCons (eVar 5) (aCons (eIf (bOf (eOp gtD (eCall F__law_taken (aCons (eVar 0) (aCons (eC (.int 8)) aNil))) (eC (.int 0)))) (eOp ixD (eVar 3) (eVar 5)) (eCall F__law_taken (aCons (eVar 0) (aCons (eOp ixD (eVar 1) (eC (.int 0))) aNil)))) aNil))) (i := 5) (env := [some (.mu 0), some (mD c fs), some (.tup (ls.map nlD)), some (.tup (hs.map dT)), some (.lst (intsD l2)), none]) (l := l2) b2 fun k hk S hS => by
    obtain ⟨r, S1, q1, q2, q3⟩ := ev_taken (n := 8) (fe := eC (.int 8)) (env := [some (.mu 0), some (mD c fs), some (.tup (ls.map nlD)), some (.tup (hs.map dT)), some (.lst (intsD l2)), some (.int (k : Int))]) hS rfl rfl (by omega) (by omega)
    have hcond : bOf (eOp gtD (eCall F__law_taken (aCons (eVar 0) (aCons (eC (.int 8)) aNil))) (eC (.int 0))) [some (.mu 0), some (mD c fs), some (.tup (ls.map nlD)), some (.tup (hs.map dT)), some (.lst (intsD l2)), some (.int (k : Int))] S = some (decide (0 < (r : Int)), S1) := bof_ok (op_ok q1 (b := .int 0) rfl rfl)
    have hkl : k < hs.length := by rw [hH.len]; exact b4 k hk
    by_cases hr : 0 < (r : Int)
    · rw [decide_eq_true hr] at hcond
      have hx : eOp ixD (eVar 3) (eVar 5) [some (.mu 0), some (mD c fs), some (.tup (ls.map nlD)), some (.tup (hs.map dT)), some (.lst (intsD l2)), some (.int (k : Int))] S1 = some (dT (hT hs k), S1) := ix_tup (xs := hs.map dT) (k := k) rfl rfl (by rw [List.getElem?_map, hT_get hkl]; rfl)
      have hok := hH.ok _ (hT_mem hkl)
      refine ⟨hT hs k, S1, ?_, q3, hok.1, by omega⟩
      exact tup2_ok (a := .int (k : Int)) (s1 := S) rfl ((eif_t hcond).trans hx)
    · rw [decide_eq_false hr] at hcond
      obtain ⟨r2, S2, p1, p2, p3⟩ := ev_taken (n := c) (fe := eOp ixD (eVar 1) (eC (.int 0))) (env := [some (.mu 0), some (mD c fs), some (.tup (ls.map nlD)), some (.tup (hs.map dT)), some (.lst (intsD l2)), some (.int (k : Int))]) q3 rfl (ix_tup (k := 0) rfl rfl rfl) hc1 (by omega)
      refine ⟨.c r2, S2, ?_, p3, p2, by simp [dpT]⟩
      exact tup2_ok (a := .int (k : Int)) (b := .int (r2 : Int)) (s1 := S) rfl ((eif_f hcond).trans p1)
  have hwl : ws.length ≤ 4 := by
    have := congrArg List.length c3
    rw [List.length_map] at this
    omega
  have e5 : eCl tupDD (aCons (eComp (lstOf (eVar 4)) (gNameD 5) bYes (eTup (aCons (eVar 5) (aCons (eIf (bOf (eOp gtD (eCall F__law_taken (aCons (eVar 0) (aCons (eC (.int 8)) aNil))) (eC (.int 0)))) (eOp ixD (eVar 3) (eVar 5)) (eCall F__law_taken (aCons (eVar 0) (aCons (eOp ixD (eVar 1) (eC (.int 0))) aNil)))) aNil))) [5]) aNil) [some (.mu 0), some (mD c fs), some (.tup (ls.map nlD)), some (.tup (hs.map dT)), some (.lst (intsD l2)), none] S2 = some (.tup (ws.map wnD), S3) := by
    refine cl_1 (a := .lst (ws.map wnD)) ?_ rfl
    have hb : (ws.map wnD).length ≤ 16777216 := by simp; omega
    rw [ev_comp, ev_lstOf]
    show (match compD _ _ _ _ (intsD l2) _ _ with
      | some (ys, s2) => if ys.length ≤ 16777216 then some (D.lst ys, s2) else none
      | none => none) = _
    rw [c1]
    simp only [hb, if_true]
  refine ⟨ws, S3, den_rt rfl (seq_nx (set_nx (call_ok (acons_ok rfl (acons_ok rfl rfl)) hrun)) (seq_nx (set_nx e4) (seq_nx (set_nx b1) (ret_rt e5)))), ⟨by rw [c3]; exact b3, fun w hw => ⟨b4 _ (by rw [← c3]; exact List.mem_map.mpr ⟨w, hw, rfl⟩), c4 w hw⟩, fun z => by
    rw [z] at c3
    exact b5 c3.symm⟩, c2⟩
end
end L2.DL
-- part P30
set_option maxHeartbeats 4000000
/-! P30: wishes' texts, read back. -/
namespace L2.DL
open PySem PySem.Spec PyProof.Rows
def wtxt (w : Wn) : List Nat := [99, 48 + w.1] ++ (HOLDS ++ textT w.2)
theorem comp_val2 {α : Type} {g1 g2 h : α → D} {fe : EM} {i j : Nat} {env : DEnv} {S : Sto} : ∀ {xs : List α}, (∀ a ∈ xs, fe (setAll (wipeD env [i, j]) [i, j] [g1 a, g2 a]) S = some (h a, S)) → compD (gTupD [i, j]) bYes fe [i, j] (xs.map fun a => .tup [g1 a, g2 a]) env S = some (xs.map h, S)
  | [], _ => rfl
  | a :: xs, H => by
    have h1 := H a List.mem_cons_self
    have ih := comp_val2 (xs := xs) fun b hb => H b (List.mem_cons_of_mem _ hb)
    have hg : gTupD [i, j] (.tup [g1 a, g2 a]) (wipeD env [i, j]) = some (setAll (wipeD env [i, j]) [i, j] [g1 a, g2 a]) := rfl
    simp only [List.map_cons, compD, hg, Option.bind_some, bYes, if_true, h1, ih, Option.map_some]
theorem ev_compV2 {α : Type} {src : AM} {g1 g2 h : α → D} {fe : EM} {i j : Nat} {env : DEnv} {S S' : Sto} {xs : List α} (hs : src env S = some (xs.map fun a => .tup [g1 a, g2 a], S')) (H : ∀ a ∈ xs, fe (setAll (wipeD env [i, j]) [i, j] [g1 a, g2 a]) S' = some (h a, S')) (hl : xs.length ≤ 16777216) :
    eComp src (gTupD [i, j]) bYes fe [i, j] env S = some (.lst (xs.map h), S') := by
  rw [ev_comp, hs]
  simp only [comp_val2 H, List.length_map, hl, if_true]
section
variable {c : Nat} {fs : List Nat}
theorem wtxt_ok (m : MOk c fs) {ws : List Wn} (h : WOk c fs ws) : ∀ w ∈ ws, w.1 < 10 ∧ Dig w.2 ∧ dpT w.2 ≤ 8 ∧ (wtxt w).length ≤ 1030 ∧ ∀ x ∈ wtxt w, 32 ≤ x ∧ x < 128 := fun w hw => by
  obtain ⟨h1, h2, h3⟩ := h.ok w hw
  have hc := m.c4
  have hd := h2.dig m
  have hl := textT_8 h3
  refine ⟨by omega, hd, h3, by simp [wtxt, HOLDS]; omega, fun x hx => ?_⟩
  unfold wtxt at hx
  rcases List.mem_append.mp hx with z | z
  · simp at z; omega
  · rcases List.mem_append.mp z with z | z
    · simp [HOLDS] at z; omega
    · have := textT_signs hd x z; omega
/-- c.. holds .. -/
theorem ev_wish {F : DF} {w : Wn} {fi fj : EM} {env : DEnv} {S : Sto} (hw : w.1 < 10) (hl : (textT w.2).length ≤ 1019) (hi : fi env S = some (.int (w.1 : Int), S)) (hj : fj env S = some (dT w.2, S)) (hF : F [dT w.2] S = some (.ok (.str (textT w.2)), S)) :
    eOp addD (eOp addD (eOp addD (eC (sT "c")) (eCl strDD (aCons fi aNil))) (eC (sT " holds "))) (eCall F (aCons fj aNil)) env S = some (.str (wtxt w), S) := by
  have h1 : eC (sT " holds ") env S = some (.str HOLDS, S) := by simp [sT, cps_holds]
  have hcl : eCall F (aCons fj aNil) env S = some (.str (textT w.2), S) := call_ok (acons_ok hj anil_ok) hF
  have h := ev_addS (ev_addS (ev_addS (cps_c_ env S) (cl_1 hi (str_dig S hw)) (by simp)) h1 (by simp)) hcl (by simp; omega)
  have e : [99] ++ [48 + w.1] ++ HOLDS ++ textT w.2 = wtxt w := by simp [wtxt]
  rw [e] at h
  exact h
theorem need_loop (m : MOk c fs) {ws : List Wn} (h : WOk c fs ws) (S : Sto) : ∃ e', forD (gTupD [2, 3]) (sIf (bOr (bNot (bTru (eCall F_is_wish (aCons (eVar 0) (aCons (eVar 3) aNil))))) (bAnd (bOf (eOp gtD (eVar 2) (eC (.int 0)))) (bOf (eOp geD (eOp ixD (eOp ixD (eVar 1) (eOp subD (eVar 2) (eC (.int 1)))) (eC (.int 0))) (eOp ixD (eVar 3) (eC (.int 0))))))) sNever sNil) (enumL 0 (ws.map wnD)) [some (mD c fs), some (.tup (ws.map wnD)), none, none] S = some (.nx, e', S) := by
  obtain ⟨env', S2, b1, ⟨v2, v3, he⟩, hS⟩ := for_inv (J := fun _ env S1 => (∃ v2 v3, env = [some (mD c fs), some (.tup (ws.map wnD)), v2, v3]) ∧ S1 = S) (g := gTupD [2, 3]) (b := sIf (bOr (bNot (bTru (eCall F_is_wish (aCons (eVar 0) (aCons (eVar 3) aNil))))) (bAnd (bOf (eOp gtD (eVar 2) (eC (.int 0)))) (bOf (eOp geD (eOp ixD (eOp ixD (eVar 1) (eOp subD (eVar 2) (eC (.int 1)))) (eC (.int 0))) (eOp ixD (eVar 3) (eC (.int 0))))))) sNever sNil) (enumL 0 (ws.map wnD)) 0 [some (mD c fs), some (.tup (ws.map wnD)), none, none] S ⟨⟨none, none, rfl⟩, rfl⟩
    (fun i d env S1 hd ⟨⟨v2, v3, he⟩, hS⟩ => by
      subst he hS
      rw [enumL_get, List.getElem?_map] at hd
      cases hg : ws[i]? with
      | none => rw [hg] at hd; cases hd
      | some w =>
        rw [hg] at hd
        simp only [Option.map_some, Option.some.injEq] at hd
        rw [Nat.zero_add] at hd
        subst hd
        obtain ⟨w1, w2, w3⟩ := h.ok w (List.mem_of_getElem? hg)
        have hterm := f_is_term m w.2 19 8 S1 w2 w3 (by omega)
        have hnum : F_is_number [.int (w.1 : Int), .int 0, .int ((c : Int) - 1)] S1 = some (.ok (.bl true), S1) := by
          rw [f_is_number]
          have e1 : (w.1 : Int) ≤ (c : Int) - 1 := by omega
          have e0 : (0 : Int) ≤ (w.1 : Int) := by omega
          rw [decide_eq_true e1, decide_eq_true e0]; rfl
        have hiw : F_is_wish [mD c fs, wnD w] S1 = some (.ok (.bl true), S1) := by
          have q0 : eOp ixD (eVar 1) (eC (.int 0)) [some (mD c fs), some (wnD w)] S1 = some (.int (w.1 : Int), S1) := ix_tup (k := 0) (xs := [.int (w.1 : Int), dT w.2]) rfl rfl rfl
          have q1 : eOp subD (eOp ixD (eVar 0) (eC (.int 0))) (eC (.int 1)) [some (mD c fs), some (wnD w)] S1 = some (.int ((c : Int) - 1), S1) := op_ok (ix_tup (k := 0) (xs := [.int (c : Int), .tup (intsD fs)]) rfl rfl rfl) rfl rfl
          have q2 : eOp ixD (eVar 1) (eC (.int 1)) [some (mD c fs), some (wnD w)] S1 = some (dT w.2, S1) := ix_tup (k := 1) (xs := [.int (w.1 : Int), dT w.2]) rfl rfl rfl
          have q3 : bOf (eOp neD (eCl lenD (aCons (eVar 1) aNil)) (eC (.int 2))) [some (mD c fs), some (wnD w)] S1 = some (false, S1) := bof_ok (op_ok (cl_1 (a := wnD w) rfl (lenD_tup (xs := [.int (w.1 : Int), dT w.2]))) rfl rfl)
          have q4 : eCallD (F_is_term 20) (.int 8) (aCons (eVar 0) (aCons (eOp ixD (eVar 1) (eC (.int 1))) aNil)) [some (mD c fs), some (wnD w)] S1 = some (.bl true, S1) := by
            have hterm' : F_is_term 20 ([mD c fs, dT w.2] ++ [.int 8]) S1 = some (.ok (.bl true), S1) := hterm
            rw [ev_callD, acons_ok (a := mD c fs) (s := S1) rfl (acons_ok q2 rfl)]
            simp only [hterm']
          exact den_rt rfl (seq_nx ((if_f ((or_f (not_b (tru_bl (un_ok (a := wnD w) rfl (isi_tup _ _))))).trans ((or_f q3).trans (not_b (tru_bl (call_ok (acons_ok q0 (acons_ok rfl (acons_ok q1 rfl))) hnum)))))).trans rfl) (ret_rt q4))
        refine ⟨_, [some (mD c fs), some (.tup (ws.map wnD)), some (.int (i : Int)), some (wnD w)], S1, rfl, ?_, ⟨_, _, rfl⟩, rfl⟩
        refine (if_f (s := S1) ((or_f (not_b (tru_bl (call_ok (acons_ok rfl (acons_ok rfl rfl)) hiw)))).trans ?_)).trans rfl
        have hgt : bOf (eOp gtD (eVar 2) (eC (.int 0))) [some (mD c fs), some (.tup (ws.map wnD)), some (.int (i : Int)), some (wnD w)] S1 = some (decide (0 < (i : Int)), S1) := bof_ok (op_ok (a := .int (i : Int)) (b := .int 0) rfl rfl rfl)
        show bAnd _ _ [some (mD c fs), some (.tup (ws.map wnD)), some (.int (i : Int)), some (wnD w)] S1 = _
        rw [ev_and, hgt]
        by_cases hi : 0 < (i : Int)
        · rw [decide_eq_true hi]
          simp only [if_true]
          obtain ⟨j, rfl⟩ : ∃ j, i = j + 1 := ⟨i - 1, by omega⟩
          have hj : j < ws.length := by
            have := (List.getElem?_eq_some_iff.mp hg).1
            omega
          have hgj : ws[j]? = some ws[j] := List.getElem?_eq_getElem hj
          have hasc : ws[j].1 < w.1 := by
            have hp := List.pairwise_iff_getElem.mp h.asc j (j + 1) (by simp; omega) (by simp; exact (List.getElem?_eq_some_iff.mp hg).1) (by omega)
            simp only [List.getElem_map] at hp
            rw [(List.getElem?_eq_some_iff.mp hg).2] at hp
            exact hp
          have q1 : eOp subD (eVar 2) (eC (.int 1)) [some (mD c fs), some (.tup (ws.map wnD)), some (.int ((j + 1 : Nat) : Int)), some (wnD w)] S1 = some (.int (j : Int), S1) := op_ok (a := .int ((j + 1 : Nat) : Int)) (b := .int 1) rfl rfl (by simp [intOp])
          have q2 : eOp ixD (eVar 1) (eOp subD (eVar 2) (eC (.int 1))) [some (mD c fs), some (.tup (ws.map wnD)), some (.int ((j + 1 : Nat) : Int)), some (wnD w)] S1 = some (wnD ws[j], S1) := ix_tup (xs := ws.map wnD) rfl q1 (by rw [List.getElem?_map, hgj]; rfl)
          have q3 : eOp ixD (eOp ixD (eVar 1) (eOp subD (eVar 2) (eC (.int 1)))) (eC (.int 0)) [some (mD c fs), some (.tup (ws.map wnD)), some (.int ((j + 1 : Nat) : Int)), some (wnD w)] S1 = some (.int (ws[j].1 : Int), S1) := ix_tup (k := 0) (xs := [.int (ws[j].1 : Int), dT ws[j].2]) q2 rfl rfl
          have q4 : eOp ixD (eVar 3) (eC (.int 0)) [some (mD c fs), some (.tup (ws.map wnD)), some (.int ((j + 1 : Nat) : Int)), some (wnD w)] S1 = some (.int (w.1 : Int), S1) := ix_tup (k := 0) (xs := [.int (w.1 : Int), dT w.2]) rfl rfl rfl
          have e1 : ¬ (w.1 : Int) ≤ (ws[j].1 : Int) := by omega
          exact bof_ok (op_ok q3 q4 (by simp only [intOp, if_true, decide_eq_false e1]))
        · rw [decide_eq_false hi]
          rfl)
  subst hS
  exact ⟨env', b1⟩
theorem f_wishes_text (m : MOk c fs) {ws : List Wn} (h : WOk c fs ws) (hl : ws.length ≤ 10) (S : Sto) : F_wishes_text [mD c fs, .tup (ws.map wnD)] S = some (.ok (.str (txt (ws.map wtxt))), S) := by
  have hw := wtxt_ok m h
  have a1 := f_need_machine m S
  have a2 : F_need_wishes [mD c fs, .tup (ws.map wnD)] S = some (.ok .non, S) := by
    obtain ⟨e', hf⟩ := need_loop m h S
    have hne : truD S (.tup (ws.map wnD)) = some true := by
      cases hz : ws with
      | nil => exact absurd hz h.ne
      | cons a r => rfl
    have ht : bTru (eVar 1) [some (mD c fs), some (.tup (ws.map wnD)), none, none] S = some (true, S) := by
      rw [ev_tru]
      show (match some (D.tup (ws.map wnD), S) with
        | some (d, s) => (match truD s d with
          | some b => some (b, s)
          | none => none)
        | none => none) = _
      simp only [hne]
    exact den_nx rfl (seq_nx ((if_f ((or_f (not_b (tru_bl (un_ok (a := .tup (ws.map wnD)) rfl (isi_tup _ _))))).trans (not_b ht))).trans rfl) (for_ok (ds := enumL 0 (ws.map wnD)) (s := S) rfl hf))
  have a3 : eComp (tupOf (eVar 1)) (gTupD [2, 3]) bYes (eOp addD (eOp addD (eOp addD (eOp addD (eC (sT "c")) (eCl strDD (aCons (eVar 2) aNil))) (eC (sT " holds "))) (eCall (F_text_of 20) (aCons (eVar 3) aNil))) (eC (sT "\n"))) [2, 3] [some (mD c fs), some (.tup (ws.map wnD)), none, none] S = some (.lst (ws.map fun w => .str (wtxt w ++ [10])), S) := by
    refine ev_compV2 (g1 := fun w : Wn => .int (w.1 : Int)) (g2 := fun w : Wn => dT w.2) (by rw [ev_tupOf]; rfl) (fun w hww => ?_) (by omega)
    obtain ⟨k1, k2, k3, k4, k5⟩ := hw w hww
    have hn : eC (sT "\n") (setAll (wipeD [some (mD c fs), some (.tup (ws.map wnD)), none, none] [2, 3]) [2, 3] [.int (w.1 : Int), dT w.2]) S = some (.str [10], S) := by simp [sT]
    exact ev_addS (ev_wish k1 (textT_8 k3) rfl rfl (f_text_of w.2 19 S k2 (by omega) (by omega))) hn (by simp; omega)
  have e : (ws.map fun w => D.str (wtxt w ++ [10])) = ((ws.map wtxt).map (· ++ [10])).map D.str := by simp
  rw [e] at a3
  have a4 := ev_join (sep := []) (fs := eC (sT "")) (k := 1031) (by simp [sT]) a3 (fun y hy => by
    obtain ⟨p, hp, rfl⟩ := List.mem_map.mp hy
    obtain ⟨w, hww, rfl⟩ := List.mem_map.mp hp
    have := (hw w hww).2.2.2.1
    simp; omega) (by simp; omega)
  rw [joinL_nil] at a4
  exact den_rt rfl (seq_nx (expr_nx (call_ok (acons_ok rfl rfl) a1)) (seq_nx (expr_nx (call_ok (acons_ok rfl (acons_ok rfl rfl)) a2)) (ret_rt a4)))
/-! ### read back -/
theorem wish_back (m : MOk c fs) {w : Wn} (h1 : w.1 < c) (h2 : TOk c fs w.2) (h3 : dpT w.2 ≤ 8) : wishOf c fs (wtxt w) = some (toW w) := by
  have hc := m.c4
  have hd := h2.dig m
  have e : TL.spl HOLDS 0 [] (wtxt w) = [[99, 48 + w.1], textT w.2] := by
    have e1 : TL.spl HOLDS 0 [] ([99, 48 + w.1] ++ (HOLDS ++ textT w.2)) = ([] ++ [99, 48 + w.1]) :: TL.spl HOLDS 0 [] (textT w.2) := TL.spl_part1 (by simp; omega)
    have e2 : TL.spl HOLDS 0 [] (textT w.2) = [[] ++ textT w.2] := TL.spl_last1 (fun z => by have := textT_signs hd 32 z; omega)
    show TL.spl HOLDS 0 [] ([99, 48 + w.1] ++ (HOLDS ++ textT w.2)) = _
    rw [e1, e2]; rfl
  have l0 : lawT c fs 0 [99, 48 + w.1] = some (.c w.1) := law0_iff.mpr ⟨w.1, h1, celL_num (by omega), rfl⟩
  have l7 := lawT_text m w.2 7 h2 (by omega)
  unfold wishOf
  rw [e]
  simp only [l0, l7]
  rfl
theorem wloop_back (m : MOk c fs) : ∀ (ws pre : List Wn) (a : Nat), (∀ w ∈ ws, w.1 < c ∧ TOk c fs w.2 ∧ dpT w.2 ≤ 8) → ((pre ++ ws).map (·.1)).Pairwise (· < ·) → wLoop c fs a (ws.map wtxt) (pre.map toW) = .ok ((pre ++ ws).map toW)
  | [], pre, a, _, _ => by simp [wLoop]
  | w :: ws, pre, a, h, hp => by
    obtain ⟨h1, h2, h3⟩ := h w List.mem_cons_self
    have hb := wish_back m h1 h2 h3
    have hlate : lateB (pre.map toW) (toW w).1 = false := by
      unfold lateB
      cases hg : (pre.map toW).getLast? with
      | none => rfl
      | some u =>
        rw [List.getLast?_map] at hg
        cases hg2 : pre.getLast? with
        | none => rw [hg2] at hg; cases hg
        | some v =>
          rw [hg2] at hg
          simp only [Option.map_some, Option.some.injEq] at hg
          subst hg
          have hv := List.mem_of_getLast? hg2
          rw [List.map_append] at hp
          have := (List.pairwise_append.mp hp).2.2 v.1 (List.mem_map.mpr ⟨v, hv, rfl⟩) w.1 (by simp)
          show decide (((w.1 : Nat) : Int) ≤ ((v.1 : Nat) : Int)) = false
          exact decide_eq_false (by omega)
    have ih := wloop_back m ws (pre ++ [w]) (a + 1) (fun q hq => h q (List.mem_cons_of_mem _ hq)) (by simpa using hp)
    rw [List.map_cons, wLoop]
    simp only [wStep, hb, hlate]
    have e : pre.map toW ++ [toW w] = (pre ++ [w]).map toW := by simp
    simp only [Bool.false_eq_true, if_false]
    rw [e, ih]
    simp
theorem wishes_back (m : MOk c fs) {ws : List Wn} (h : WOk c fs ws) : wishesN c fs (txt (ws.map wtxt)) = .ok (ws.map toW) := by
  have hw := wtxt_ok m h
  have h1 : linesN (txt (ws.map wtxt)) = .ok (ws.map wtxt) := lines_txt (fun z => h.ne (List.map_eq_nil_iff.mp z)) fun p hp z => by
    obtain ⟨w, hww, rfl⟩ := List.mem_map.mp hp
    have := (hw w hww).2.2.2.2 10 z
    omega
  unfold wishesN
  rw [h1]
  exact wloop_back m ws [] 0 h.ok (by simpa using h.asc)
/-! ### what is read, told -/
theorem wLoop_ok : ∀ (r : List (List Nat)) (a : Nat) (found ws : List Wi), (∀ w ∈ found, dpT w.2 ≤ 8) → wLoop c fs a r found = .ok ws → (∀ w ∈ ws, dpT w.2 ≤ 8) ∧ ws.length ≤ found.length + r.length
  | [], a, found, ws, h, e => by simp only [wLoop] at e; cases e; exact ⟨h, by simp⟩
  | x :: r, a, found, ws, h, e => by
    rw [wLoop] at e
    cases hs : wStep c fs found x with
    | none => rw [hs] at e; cases e
    | some w =>
      rw [hs] at e
      have hw : dpT w.2 ≤ 8 := by
        unfold wStep at hs
        split at hs
        · rename_i w' hw'
          split at hs
          · cases hs
          · cases hs; exact wish_dp hw'
        · cases hs
      obtain ⟨i1, i2⟩ := wLoop_ok r (a + 1) (found ++ [w]) ws (fun q hq => by
        rcases List.mem_append.mp hq with z | z
        · exact h q z
        · rw [List.mem_singleton.mp z]; exact hw) e
      exact ⟨i1, by simp at i2 ⊢; omega⟩
theorem nic_wD {w : Wi} (h : dpT w.2 ≤ 8) : Nic 9 (wD w) := ⟨by simp, fun x hx => by
  simp only [List.mem_cons, List.not_mem_nil, or_false] at hx
  rcases hx with rfl | rfl
  · trivial
  · exact (nic_dT w.2).le h⟩
theorem nic_ws {ws : List Wi} (h : ∀ w ∈ ws, dpT w.2 ≤ 8) (hl : ws.length ≤ 1000000) : Nic 10 (.tup (ws.map wD)) := ⟨by simpa using hl, fun x hx => by
  obtain ⟨w, hw, rfl⟩ := List.mem_map.mp hx
  exact nic_wD (h w hw)⟩
theorem nic_wish {x : List Nat} (hx : x.length ≤ 100000) : Nic 10 (resWL (wishesN c fs x)) := by
  unfold wishesN
  cases hL : linesN x with
  | error n => trivial
  | ok L =>
    simp only
    have hll := (lines_len hL).2
    cases hW : wLoop c fs 0 L [] with
    | error n => trivial
    | ok ws =>
      obtain ⟨h1, h2⟩ := wLoop_ok L 0 [] ws (by simp) hW
      simp only [List.length_nil] at h2
      exact nic_ws h1 (by omega)
theorem wish_told (m : MOk c fs) {v : D} (h : Bv v) (S : Sto) : ∃ d N1, (∃ r, F_read_wishes [mD c fs, v] S = some (r, S ++ N1) ∧ toldD r = d) ∧ Nic 10 d ∧ ∀ S2, ∃ N2, F__law_read_wishes [mD c fs, v] S2 = some (.ok d, S2 ++ N2) := by
  rcases h with h | ⟨x, rfl, hx, hc⟩
  · obtain ⟨N1, h1⟩ := f_rw_no m h S
    exact ⟨.int 0, N1, ⟨_, h1, rfl⟩, trivial, fun S2 => f_lw_no h (mD c fs) S2⟩
  · obtain ⟨N1, h1⟩ := f_read_wishes m x S hx
    refine ⟨resWL (wishesN c fs x), N1, ⟨_, h1, ?_⟩, nic_wish hx, fun S2 => f_law_read_wishes m x S2 hx⟩
    cases wishesN c fs x <;> rfl
end
end L2.DL
-- part P31
set_option maxHeartbeats 4000000
/-! P31: the law. -/
namespace L2.DL
open PySem PySem.Spec PyProof.Rows
def codes (l : List String) : List (List Nat) := l.map fun s => (Str.ofString s).cps.toList
def MORE1 : List (List Nat) := codes ["cells 2", "cells 5", "functions 1", "functions", "functions 3", "c0 = c0", "c0 = c1", "c1 = f0(c0)"]
def MORE2 : List (List Nat) := codes ["c0 = f0(c0,c0)", "c0 = f1(c0)", "c9 = c0", "c0 = f0()", "c0= c1", "c0 = f0(c0", ""]
def MORE : List (List Nat) := MORE1 ++ MORE2
def MOREW : List (List Nat) := codes ["c0 holds c0", "c1 holds f0(c0)", "c0 holds", "c0 holds c9", "holds c0", "c0  holds c0"]
def okB (l : List (List Nat)) : Bool := l.all fun p => decide (p.length ≤ 5000) && p.all fun c => decide (c < 1114112)
theorem ql_of {l : List (List Nat)} (h : okB l = true) : QL 5000 l := fun p hp => by
  have := List.all_eq_true.mp h p hp
  rw [Bool.and_eq_true] at this
  exact ⟨of_decide_eq_true this.1, fun c hc => of_decide_eq_true (List.all_eq_true.mp this.2 c hc)⟩
theorem ql_more : QL 5000 MORE := ql_of (by decide +kernel)
theorem ql_moreW : QL 5000 MOREW := ql_of (by decide +kernel)
def L_law_0 : SM := sSeq (sSet 10 (eCall F__law_bent (aCons (eVar 1) (aCons (eVar 4) (aCons (eVar 8) aNil))))) (sIf (bNot (bTru (eCall (F__law_alike 20) (aCons (eTold (xCall F_read_program (aCons (eVar 10) aNil))) (aCons (eCall F__law_read (aCons (eVar 10) aNil)) aNil))))) (sRet (eC (.bl false))) sNil)
def L_law_1 : SM := sSeq (sSet 10 (eCall F__law_bent (aCons (eVar 1) (aCons (eVar 4) (aCons (eLst (aCons (eC (sT "c0 holds c0")) (aCons (eC (sT "c1 holds f0(c0)")) (aCons (eC (sT "c0 holds")) (aCons (eC (sT "c0 holds c9")) (aCons (eC (sT "holds c0")) (aCons (eC (sT "c0  holds c0")) aNil))))))) aNil))))) (sIf (bNot (bTru (eCall (F__law_alike 20) (aCons (eTold (xCall F_read_wishes (aCons (eVar 2) (aCons (eVar 10) aNil)))) (aCons (eCall F__law_read_wishes (aCons (eVar 2) (aCons (eVar 10) aNil))) aNil))))) (sRet (eC (.bl false))) sNil)
section
variable {env : DEnv} {S s1 s2 : Sto} {X Y : EM} {d : D}
theorem alike_t (h1 : X env S = some (d, s1)) (h2 : Y env s1 = some (d, s2)) (hn : Nic 19 d) : bNot (bTru (eCall (F__law_alike 20) (aCons X (aCons Y aNil)))) env S = some (false, s2) :=
  not_b (tru_bl (call_ok (acons_ok h1 (acons_ok h2 rfl)) (f_alike 19 d s2 hn)))
theorem xcall_ok {F : DF} {fa : AM} {as : List D} {r : Except Ex D} (h : fa env S = some (as, s1)) (hF : F as s1 = some (r, s2)) : xCall F fa env S = some (r, s2) := by
  rw [ev_xcall, h]; exact hF
end
section
variable {c : Nat} {fs : List Nat} {ns : List Int} {ls : List NL}
theorem law_a (m : MOk c fs) (hl : ∀ l ∈ ls, NOk c fs l) (h6 : ls.length ≤ 6) (S : Sto) : (sSet 4 (eOp addD (eLst (aCons (eOp addD (eC (sT "cells ")) (eCl strDD (aCons (eOp ixD (eVar 2) (eC (.int 0))) aNil))) (aCons (eOp addD (eC (sT "functions ")) (eM1 joinDD (eC (sT " ")) (eComp (tupOf (eOp ixD (eVar 2) (eC (.int 1)))) (gNameD 5) bYes (eCl strDD (aCons (eVar 5) aNil)) [5]))) aNil))) (eComp (tupOf (eVar 3)) (gNameD 6) bYes (eCall F__law_line_text (aCons (eVar 6) aNil)) [6]))) [some (.scr ns), some (.mu 0), some (mD c fs), some (.tup (ls.map nlD)), none, none, none, none, none, none, none, none, none, none, none, none, none, none] S = some (.nx, [some (.scr ns), some (.mu 0), some (mD c fs), some (.tup (ls.map nlD)), some (.lst ((progL c fs ls).map .str)), none, none, none, none, none, none, none, none, none, none, none, none, none], S) := by
  have k1 := ev_cells (fe := eOp ixD (eVar 2) (eC (.int 0))) (env := [some (.scr ns), some (.mu 0), some (mD c fs), some (.tup (ls.map nlD)), none, none, none, none, none, none, none, none, none, none, none, none, none, none]) (S := S) m (ix_tup (k := 0) (xs := [.int (c : Int), .tup (intsD fs)]) rfl rfl rfl)
  have k2 := ev_funs (fe := eOp ixD (eVar 2) (eC (.int 1))) (i := 5) (env := [some (.scr ns), some (.mu 0), some (mD c fs), some (.tup (ls.map nlD)), none, none, none, none, none, none, none, none, none, none, none, none, none, none]) (S := S) m (by simp) (ix_tup (k := 1) (xs := [.int (c : Int), .tup (intsD fs)]) rfl rfl rfl)
  have k3 := ev_lineTexts (F := F__law_line_text) (fe := eVar 3) (i := 6) (env := [some (.scr ns), some (.mu 0), some (mD c fs), some (.tup (ls.map nlD)), none, none, none, none, none, none, none, none, none, none, none, none, none, none]) (S := S) (by simp) rfl (fun l hl' S => f_law_line_text m (hl l hl') S) (by omega)
  have k4 : eLst (aCons (eOp addD (eC (sT "cells ")) (eCl strDD (aCons (eOp ixD (eVar 2) (eC (.int 0))) aNil))) (aCons (eOp addD (eC (sT "functions ")) (eM1 joinDD (eC (sT " ")) (eComp (tupOf (eOp ixD (eVar 2) (eC (.int 1)))) (gNameD 5) bYes (eCl strDD (aCons (eVar 5) aNil)) [5]))) aNil)) [some (.scr ns), some (.mu 0), some (mD c fs), some (.tup (ls.map nlD)), none, none, none, none, none, none, none, none, none, none, none, none, none, none] S = some (.lst (([cellsLine c, funsLine fs] : List (List Nat)).map .str), S) := lst_ok (acons_ok k1 (acons_ok k2 rfl)) (by simp)
  exact set_nx (ev_addL k4 k3 (by simp; omega))
theorem law_t (m : MOk c fs) (hl : ∀ l ∈ ls, NOk c fs l) (h6 : ls.length ≤ 6) (S : Sto) : (sSet 7 (eM1 joinDD (eC (sT "")) (eComp (lstOf (eVar 4)) (gNameD 6) bYes (eOp addD (eVar 6) (eC (sT "\n"))) [6]))) [some (.scr ns), some (.mu 0), some (mD c fs), some (.tup (ls.map nlD)), some (.lst ((progL c fs ls).map .str)), none, none, none, none, none, none, none, none, none, none, none, none, none] S = some (.nx, [some (.scr ns), some (.mu 0), some (mD c fs), some (.tup (ls.map nlD)), some (.lst ((progL c fs ls).map .str)), none, none, some (.str (txt (progL c fs ls))), none, none, none, none, none, none, none, none, none, none], S) := by
  have hp := progL_ok m hl
  exact set_nx (ev_txt (fe := eVar 4) (i := 6) (Ls := progL c fs ls) (by simp) rfl (fun p hp' => by have := (hp p hp').1; omega) (by simp [progL]; omega))
theorem law_b (m : MOk c fs) (hl : ∀ l ∈ ls, NOk c fs l) (h6 : ls.length ≤ 6) (S : Sto) : ∃ N, (sIf (bOr (bNot (bTru (eCall (F__law_alike 20) (aCons (eCall F_written (aCons (eVar 2) (aCons (eVar 3) aNil))) (aCons (eVar 7) aNil))))) (bNot (bTru (eCall (F__law_alike 20) (aCons (eCall F_read_program (aCons (eVar 7) aNil)) (aCons (eTup (aCons (eVar 2) (aCons (eVar 3) aNil))) aNil)))))) (sRet (eC (.bl false))) sNil) [some (.scr ns), some (.mu 0), some (mD c fs), some (.tup (ls.map nlD)), some (.lst ((progL c fs ls).map .str)), none, none, some (.str (txt (progL c fs ls))), none, none, none, none, none, none, none, none, none, none] S = some (.nx, [some (.scr ns), some (.mu 0), some (mD c fs), some (.tup (ls.map nlD)), some (.lst ((progL c fs ls).map .str)), none, none, some (.str (txt (progL c fs ls))), none, none, none, none, none, none, none, none, none, none], S ++ N) := by
  have hp := progL_ok m hl
  have hx : (txt (progL c fs ls)).length ≤ 100000 := by
    have := txt_len (Ls := progL c fs ls) (k := 20) fun p hp' => (hp p hp').1
    have h2 : (progL c fs ls).length ≤ 8 := by simp [progL]; omega
    have h3 : (progL c fs ls).length * (20 + 1) ≤ 8 * (20 + 1) := Nat.mul_le_mul_right _ h2
    omega
  have hok : okC (txt (progL c fs ls)) := txt_okC fun p hp' x hx => by have := (hp p hp').2 x hx; omega
  obtain ⟨N, h1⟩ := f_read_program (txt (progL c fs ls)) S hx hok
  rw [read_back m hl (by omega)] at h1
  have e : (ls.map toLn).map lnD = ls.map nlD := by rw [List.map_map]; rfl
  have h2 : F_read_program [.str (txt (progL c fs ls))] S = some (.ok (.tup [mD c fs, .tup (ls.map nlD)]), S ++ N) := by
    rw [h1]; simp only [resRP, e]
  have h3 := f_written m hl (by omega) S
  have hn : Nic 19 (.tup [mD c fs, .tup (ls.map nlD)]) := by
    rw [← e]
    refine (nic_prog m.f3 (fun l hl' => ?_) (by simp; omega)).le (by omega)
    obtain ⟨q, hq, rfl⟩ := List.mem_map.mp hl'
    exact lineOf_len m ((hl q hq).back m)
  refine ⟨N, (if_f ((or_f (alike_t (d := .str (txt (progL c fs ls))) (call_ok (acons_ok rfl (acons_ok rfl rfl)) h3) rfl trivial)).trans (alike_t (call_ok (acons_ok rfl rfl) h2) ?_ hn))).trans rfl⟩
  exact tup2_ok (s1 := S ++ N) rfl rfl
theorem law_m1 (S : Sto) : (sSet 8 (eLst (aCons (eC (sT "cells 2")) (aCons (eC (sT "cells 5")) (aCons (eC (sT "functions 1")) (aCons (eC (sT "functions")) (aCons (eC (sT "functions 3")) (aCons (eC (sT "c0 = c0")) (aCons (eC (sT "c0 = c1")) (aCons (eC (sT "c1 = f0(c0)")) aNil)))))))))) [some (.scr ns), some (.mu 0), some (mD c fs), some (.tup (ls.map nlD)), some (.lst ((progL c fs ls).map .str)), none, none, some (.str (txt (progL c fs ls))), none, none, none, none, none, none, none, none, none, none] S = some (.nx, [some (.scr ns), some (.mu 0), some (mD c fs), some (.tup (ls.map nlD)), some (.lst ((progL c fs ls).map .str)), none, none, some (.str (txt (progL c fs ls))), some (.lst (MORE1.map .str)), none, none, none, none, none, none, none, none, none], S) := set_nx (lst_ok rfl (by simp [MORE1, codes]))
theorem law_m2 (S : Sto) : (sSet 8 (eOp addD (eVar 8) (eLst (aCons (eC (sT "c0 = f0(c0,c0)")) (aCons (eC (sT "c0 = f1(c0)")) (aCons (eC (sT "c9 = c0")) (aCons (eC (sT "c0 = f0()")) (aCons (eC (sT "c0= c1")) (aCons (eC (sT "c0 = f0(c0")) (aCons (eC (sT "")) aNil)))))))))) [some (.scr ns), some (.mu 0), some (mD c fs), some (.tup (ls.map nlD)), some (.lst ((progL c fs ls).map .str)), none, none, some (.str (txt (progL c fs ls))), some (.lst (MORE1.map .str)), none, none, none, none, none, none, none, none, none] S = some (.nx, [some (.scr ns), some (.mu 0), some (mD c fs), some (.tup (ls.map nlD)), some (.lst ((progL c fs ls).map .str)), none, none, some (.str (txt (progL c fs ls))), some (.lst (MORE.map .str)), none, none, none, none, none, none, none, none, none], S) := set_nx (ev_addL (A := MORE1) (B := MORE2) rfl (lst_ok rfl (by simp [MORE2, codes])) (by simp [MORE1, MORE2, codes]))
theorem law_c_step (m : MOk c fs) (hl : ∀ l ∈ ls, NOk c fs l) (h6 : ls.length ≤ 6) {S : Sto} (h : Rw ns S) {v9 v10 : Option D} : ∃ w10 S', L_law_0 [some (.scr ns), some (.mu 0), some (mD c fs), some (.tup (ls.map nlD)), some (.lst ((progL c fs ls).map .str)), none, none, some (.str (txt (progL c fs ls))), some (.lst (MORE.map .str)), v9, v10, none, none, none, none, none, none, none] S = some (.nx, [some (.scr ns), some (.mu 0), some (mD c fs), some (.tup (ls.map nlD)), some (.lst ((progL c fs ls).map .str)), none, none, some (.str (txt (progL c fs ls))), some (.lst (MORE.map .str)), v9, w10, none, none, none, none, none, none, none], S') ∧ Rw ns S' := by
  have hp := progL_ok m hl
  obtain ⟨v, S1, b1, b2, b3⟩ := f_bent (L := progL c fs ls) (more := MORE) (fun p hp' => ⟨by have := (hp p hp').1; omega, fun x hx => by have := (hp p hp').2 x hx; omega⟩) (by simp [progL]; omega) ql_more (by simp [MORE, MORE1, codes]) (by simp [MORE, MORE1, MORE2, codes]) h
  obtain ⟨d, N1, ⟨r, r1, r2⟩, hn, hr⟩ := read_told b2 S1
  obtain ⟨N2, hq⟩ := hr (S1 ++ N1)
  have hT := ev_toldD (fx := xCall F_read_program (aCons (eVar 10) aNil)) (env := [some (.scr ns), some (.mu 0), some (mD c fs), some (.tup (ls.map nlD)), some (.lst ((progL c fs ls).map .str)), none, none, some (.str (txt (progL c fs ls))), some (.lst (MORE.map .str)), v9, some v, none, none, none, none, none, none, none]) (S := S1) (xcall_ok (acons_ok rfl rfl) r1)
  rw [r2] at hT
  exact ⟨some v, S1 ++ N1 ++ N2, seq_nx (set_nx (call_ok (acons_ok rfl (acons_ok rfl (acons_ok rfl rfl))) b1)) ((if_f (alike_t hT (call_ok (acons_ok rfl rfl) hq) (hn.le (by omega)))).trans rfl), (b3.app N1).app N2⟩
theorem law_cc (m : MOk c fs) (hl : ∀ l ∈ ls, NOk c fs l) (h6 : ls.length ≤ 6) {S : Sto} (h : Rw ns S) : ∃ v9 v10 S', (sFor (rg1 (aCons (eC (.int 6)) aNil)) (gNameD 9) (sSeq (sSet 10 (eCall F__law_bent (aCons (eVar 1) (aCons (eVar 4) (aCons (eVar 8) aNil))))) (sIf (bNot (bTru (eCall (F__law_alike 20) (aCons (eTold (xCall F_read_program (aCons (eVar 10) aNil))) (aCons (eCall F__law_read (aCons (eVar 10) aNil)) aNil))))) (sRet (eC (.bl false))) sNil))) [some (.scr ns), some (.mu 0), some (mD c fs), some (.tup (ls.map nlD)), some (.lst ((progL c fs ls).map .str)), none, none, some (.str (txt (progL c fs ls))), some (.lst (MORE.map .str)), none, none, none, none, none, none, none, none, none] S = some (.nx, [some (.scr ns), some (.mu 0), some (mD c fs), some (.tup (ls.map nlD)), some (.lst ((progL c fs ls).map .str)), none, none, some (.str (txt (progL c fs ls))), some (.lst (MORE.map .str)), v9, v10, none, none, none, none, none, none, none], S') ∧ Rw ns S' := by
  obtain ⟨env', S2, b1, ⟨v9, v10, he⟩, hS⟩ := for_inv (J := fun _ env S1 => (∃ v9 v10, env = [some (.scr ns), some (.mu 0), some (mD c fs), some (.tup (ls.map nlD)), some (.lst ((progL c fs ls).map .str)), none, none, some (.str (txt (progL c fs ls))), some (.lst (MORE.map .str)), v9, v10, none, none, none, none, none, none, none]) ∧ Rw ns S1) (g := gNameD 9) (b := L_law_0) (rgL 0 6) 0 [some (.scr ns), some (.mu 0), some (mD c fs), some (.tup (ls.map nlD)), some (.lst ((progL c fs ls).map .str)), none, none, some (.str (txt (progL c fs ls))), some (.lst (MORE.map .str)), none, none, none, none, none, none, none, none, none] S ⟨⟨none, none, rfl⟩, h⟩
    (fun i d env S1 hd ⟨⟨v9, v10, he⟩, hS⟩ => by
      subst he
      obtain ⟨w10, S', q1, q2⟩ := law_c_step m hl h6 hS (v9 := some d) (v10 := v10)
      exact ⟨_, _, S', rfl, q1, ⟨_, _, rfl⟩, q2⟩)
  subst he
  exact ⟨v9, v10, S2, for_ok (rg1_ok (n := 6) rfl (by omega)) b1, hS⟩
theorem law_d (m : MOk c fs) {S : Sto} (h : Rw ns S) {v9 v10 : Option D} : ∃ S', (sIf (bNot (bTru (eCall F__law_terms_right (aCons (eVar 1) (aCons (eVar 2) aNil))))) (sRet (eC (.bl false))) sNil) [some (.scr ns), some (.mu 0), some (mD c fs), some (.tup (ls.map nlD)), some (.lst ((progL c fs ls).map .str)), none, none, some (.str (txt (progL c fs ls))), some (.lst (MORE.map .str)), v9, v10, none, none, none, none, none, none, none] S = some (.nx, [some (.scr ns), some (.mu 0), some (mD c fs), some (.tup (ls.map nlD)), some (.lst ((progL c fs ls).map .str)), none, none, some (.str (txt (progL c fs ls))), some (.lst (MORE.map .str)), v9, v10, none, none, none, none, none, none, none], S') ∧ Rw ns S' := by
  obtain ⟨S', q1, q2⟩ := f_terms_right m h
  exact ⟨S', (if_f (not_b (tru_bl (call_ok (acons_ok rfl (acons_ok rfl rfl)) q1)))).trans rfl, q2⟩
theorem law_e (m : MOk c fs) (hl : ∀ l ∈ ls, NOk c fs l) (h6 : ls.length ≤ 6) {S : Sto} (h : Rw ns S) {v9 v10 : Option D} : ∃ (ws : List Wn) (S' : Sto), (sSet 11 (eCall F__law_wishes (aCons (eVar 1) (aCons (eVar 2) (aCons (eVar 3) aNil))))) [some (.scr ns), some (.mu 0), some (mD c fs), some (.tup (ls.map nlD)), some (.lst ((progL c fs ls).map .str)), none, none, some (.str (txt (progL c fs ls))), some (.lst (MORE.map .str)), v9, v10, none, none, none, none, none, none, none] S = some (.nx, [some (.scr ns), some (.mu 0), some (mD c fs), some (.tup (ls.map nlD)), some (.lst ((progL c fs ls).map .str)), none, none, some (.str (txt (progL c fs ls))), some (.lst (MORE.map .str)), v9, v10, some (.tup (ws.map wnD)), none, none, none, none, none, none], S') ∧ WOk c fs ws ∧ Rw ns S' := by
  obtain ⟨ws, S', q1, q2, q3⟩ := f_law_wishes m hl h6 h
  exact ⟨ws, S', set_nx (call_ok (acons_ok rfl (acons_ok rfl (acons_ok rfl rfl))) q1), q2, q3⟩
theorem wok_len (m : MOk c fs) {ws : List Wn} (hw : WOk c fs ws) : ws.length ≤ 4 := by
  have h := lot_len (n := c) (a := 0) hw.asc fun k hk => by
    obtain ⟨w, hww, rfl⟩ := List.mem_map.mp hk
    exact ⟨by omega, (hw.ok w hww).1⟩
  have hc := m.c4
  rw [List.length_map] at h
  omega
theorem law_f (m : MOk c fs) {ws : List Wn} (hw : WOk c fs ws) (S : Sto) {v9 v10 : Option D} : (sSet 4 (eComp (tupOf (eVar 11)) (gTupD [12,13]) bYes (eOp addD (eOp addD (eOp addD (eC (sT "c")) (eCl strDD (aCons (eVar 12) aNil))) (eC (sT " holds "))) (eCall (F__law_text 20) (aCons (eVar 13) aNil))) [12,13])) [some (.scr ns), some (.mu 0), some (mD c fs), some (.tup (ls.map nlD)), some (.lst ((progL c fs ls).map .str)), none, none, some (.str (txt (progL c fs ls))), some (.lst (MORE.map .str)), v9, v10, some (.tup (ws.map wnD)), none, none, none, none, none, none] S = some (.nx, [some (.scr ns), some (.mu 0), some (mD c fs), some (.tup (ls.map nlD)), some (.lst ((ws.map wtxt).map .str)), none, none, some (.str (txt (progL c fs ls))), some (.lst (MORE.map .str)), v9, v10, some (.tup (ws.map wnD)), none, none, none, none, none, none], S) := by
  have hk := wtxt_ok m hw
  have hwl := wok_len m hw
  have h1 : eComp (tupOf (eVar 11)) (gTupD [12,13]) bYes (eOp addD (eOp addD (eOp addD (eC (sT "c")) (eCl strDD (aCons (eVar 12) aNil))) (eC (sT " holds "))) (eCall (F__law_text 20) (aCons (eVar 13) aNil))) [12,13] [some (.scr ns), some (.mu 0), some (mD c fs), some (.tup (ls.map nlD)), some (.lst ((progL c fs ls).map .str)), none, none, some (.str (txt (progL c fs ls))), some (.lst (MORE.map .str)), v9, v10, some (.tup (ws.map wnD)), none, none, none, none, none, none] S = some (.lst (ws.map fun w => .str (wtxt w)), S) := by
    refine ev_compV2 (g1 := fun w : Wn => .int (w.1 : Int)) (g2 := fun w : Wn => dT w.2) (by rw [ev_tupOf]; rfl) (fun w hww => ?_) (by omega)
    obtain ⟨k1, k2, k3, k4, k5⟩ := hk w hww
    exact ev_wish k1 (textT_8 k3) rfl rfl (f_law_text w.2 19 S k2 (by omega) (by omega))
  have e : (ws.map fun w => D.str (wtxt w)) = (ws.map wtxt).map D.str := by simp
  rw [e] at h1
  exact set_nx h1
theorem law_g (m : MOk c fs) {ws : List Wn} (hw : WOk c fs ws) (S : Sto) {v9 v10 : Option D} : (sSet 7 (eM1 joinDD (eC (sT "")) (eComp (lstOf (eVar 4)) (gNameD 6) bYes (eOp addD (eVar 6) (eC (sT "\n"))) [6]))) [some (.scr ns), some (.mu 0), some (mD c fs), some (.tup (ls.map nlD)), some (.lst ((ws.map wtxt).map .str)), none, none, some (.str (txt (progL c fs ls))), some (.lst (MORE.map .str)), v9, v10, some (.tup (ws.map wnD)), none, none, none, none, none, none] S = some (.nx, [some (.scr ns), some (.mu 0), some (mD c fs), some (.tup (ls.map nlD)), some (.lst ((ws.map wtxt).map .str)), none, none, some (.str (txt (ws.map wtxt))), some (.lst (MORE.map .str)), v9, v10, some (.tup (ws.map wnD)), none, none, none, none, none, none], S) := by
  have hk := wtxt_ok m hw
  have hwl := wok_len m hw
  exact set_nx (ev_txt (fe := eVar 4) (i := 6) (Ls := ws.map wtxt) (by simp) rfl (fun p hp' => by
    obtain ⟨w, hww, rfl⟩ := List.mem_map.mp hp'
    have := (hk w hww).2.2.2.1; omega) (by simp; omega))
theorem law_h (m : MOk c fs) {ws : List Wn} (hw : WOk c fs ws) (S : Sto) {v9 v10 : Option D} : ∃ N, (sIf (bOr (bNot (bTru (eCall (F__law_alike 20) (aCons (eCall F_wishes_text (aCons (eVar 2) (aCons (eVar 11) aNil))) (aCons (eVar 7) aNil))))) (bNot (bTru (eCall (F__law_alike 20) (aCons (eCall F_read_wishes (aCons (eVar 2) (aCons (eVar 7) aNil))) (aCons (eVar 11) aNil)))))) (sRet (eC (.bl false))) sNil) [some (.scr ns), some (.mu 0), some (mD c fs), some (.tup (ls.map nlD)), some (.lst ((ws.map wtxt).map .str)), none, none, some (.str (txt (ws.map wtxt))), some (.lst (MORE.map .str)), v9, v10, some (.tup (ws.map wnD)), none, none, none, none, none, none] S = some (.nx, [some (.scr ns), some (.mu 0), some (mD c fs), some (.tup (ls.map nlD)), some (.lst ((ws.map wtxt).map .str)), none, none, some (.str (txt (ws.map wtxt))), some (.lst (MORE.map .str)), v9, v10, some (.tup (ws.map wnD)), none, none, none, none, none, none], S ++ N) := by
  have hk := wtxt_ok m hw
  have hwl := wok_len m hw
  have hx : (txt (ws.map wtxt)).length ≤ 100000 := by
    have := txt_len (Ls := ws.map wtxt) (k := 1030) fun p hp' => by
      obtain ⟨w, hww, rfl⟩ := List.mem_map.mp hp'
      exact (hk w hww).2.2.2.1
    have h3 : (ws.map wtxt).length * (1030 + 1) ≤ 4 * (1030 + 1) := Nat.mul_le_mul_right _ (by simpa using hwl)
    omega
  obtain ⟨N, h1⟩ := f_read_wishes m (txt (ws.map wtxt)) S hx
  rw [wishes_back m hw] at h1
  have e : (ws.map toW).map wD = ws.map wnD := by rw [List.map_map]; rfl
  have h2 : F_read_wishes [mD c fs, .str (txt (ws.map wtxt))] S = some (.ok (.tup (ws.map wnD)), S ++ N) := by
    rw [h1]; simp only [resW, e]
  have h3 := f_wishes_text m hw (by omega) S
  have hn : Nic 19 (.tup (ws.map wnD)) := by
    rw [← e]
    refine (nic_ws (fun w hww => ?_) (by simp; omega)).le (by omega)
    obtain ⟨q, hq, rfl⟩ := List.mem_map.mp hww
    exact (hw.ok q hq).2.2
  exact ⟨N, (if_f ((or_f (alike_t (d := .str (txt (ws.map wtxt))) (call_ok (acons_ok rfl (acons_ok rfl rfl)) h3) rfl trivial)).trans (alike_t (call_ok (acons_ok rfl (acons_ok rfl rfl)) h2) rfl hn))).trans rfl⟩
theorem law_i_step (m : MOk c fs) {ws : List Wn} (hw : WOk c fs ws) {S : Sto} (h : Rw ns S) {v9 v10 : Option D} : ∃ w10 S', L_law_1 [some (.scr ns), some (.mu 0), some (mD c fs), some (.tup (ls.map nlD)), some (.lst ((ws.map wtxt).map .str)), none, none, some (.str (txt (ws.map wtxt))), some (.lst (MORE.map .str)), v9, v10, some (.tup (ws.map wnD)), none, none, none, none, none, none] S = some (.nx, [some (.scr ns), some (.mu 0), some (mD c fs), some (.tup (ls.map nlD)), some (.lst ((ws.map wtxt).map .str)), none, none, some (.str (txt (ws.map wtxt))), some (.lst (MORE.map .str)), v9, w10, some (.tup (ws.map wnD)), none, none, none, none, none, none], S') ∧ Rw ns S' := by
  have hk := wtxt_ok m hw
  have hwl := wok_len m hw
  have hm : eLst (aCons (eC (sT "c0 holds c0")) (aCons (eC (sT "c1 holds f0(c0)")) (aCons (eC (sT "c0 holds")) (aCons (eC (sT "c0 holds c9")) (aCons (eC (sT "holds c0")) (aCons (eC (sT "c0  holds c0")) aNil)))))) [some (.scr ns), some (.mu 0), some (mD c fs), some (.tup (ls.map nlD)), some (.lst ((ws.map wtxt).map .str)), none, none, some (.str (txt (ws.map wtxt))), some (.lst (MORE.map .str)), v9, v10, some (.tup (ws.map wnD)), none, none, none, none, none, none] S = some (.lst (MOREW.map .str), S) := lst_ok rfl (by simp [MOREW, codes])
  obtain ⟨v, S1, b1, b2, b3⟩ := f_bent (L := ws.map wtxt) (more := MOREW) (fun p hp' => by
    obtain ⟨w, hww, rfl⟩ := List.mem_map.mp hp'
    have := hk w hww
    exact ⟨by omega, fun x hx => by have := this.2.2.2.2 x hx; omega⟩) (by simp; omega) ql_moreW (by simp [MOREW, codes]) (by simp [MOREW, codes]) h
  obtain ⟨d, N1, ⟨r, r1, r2⟩, hn, hr⟩ := wish_told m b2 S1
  obtain ⟨N2, hq⟩ := hr (S1 ++ N1)
  have hT := ev_toldD (fx := xCall F_read_wishes (aCons (eVar 2) (aCons (eVar 10) aNil))) (env := [some (.scr ns), some (.mu 0), some (mD c fs), some (.tup (ls.map nlD)), some (.lst ((ws.map wtxt).map .str)), none, none, some (.str (txt (ws.map wtxt))), some (.lst (MORE.map .str)), v9, some v, some (.tup (ws.map wnD)), none, none, none, none, none, none]) (S := S1) (xcall_ok (acons_ok rfl (acons_ok rfl rfl)) r1)
  rw [r2] at hT
  exact ⟨some v, S1 ++ N1 ++ N2, seq_nx (set_nx (call_ok (acons_ok rfl (acons_ok rfl (acons_ok hm rfl))) b1)) ((if_f (alike_t hT (call_ok (acons_ok rfl (acons_ok rfl rfl)) hq) (hn.le (by omega)))).trans rfl), (b3.app N1).app N2⟩
theorem law_i (m : MOk c fs) {ws : List Wn} (hw : WOk c fs ws) {S : Sto} (h : Rw ns S) {u9 u10 : Option D} : ∃ v9 v10 S', (sFor (rg1 (aCons (eC (.int 4)) aNil)) (gNameD 9) (sSeq (sSet 10 (eCall F__law_bent (aCons (eVar 1) (aCons (eVar 4) (aCons (eLst (aCons (eC (sT "c0 holds c0")) (aCons (eC (sT "c1 holds f0(c0)")) (aCons (eC (sT "c0 holds")) (aCons (eC (sT "c0 holds c9")) (aCons (eC (sT "holds c0")) (aCons (eC (sT "c0  holds c0")) aNil))))))) aNil))))) (sIf (bNot (bTru (eCall (F__law_alike 20) (aCons (eTold (xCall F_read_wishes (aCons (eVar 2) (aCons (eVar 10) aNil)))) (aCons (eCall F__law_read_wishes (aCons (eVar 2) (aCons (eVar 10) aNil))) aNil))))) (sRet (eC (.bl false))) sNil))) [some (.scr ns), some (.mu 0), some (mD c fs), some (.tup (ls.map nlD)), some (.lst ((ws.map wtxt).map .str)), none, none, some (.str (txt (ws.map wtxt))), some (.lst (MORE.map .str)), u9, u10, some (.tup (ws.map wnD)), none, none, none, none, none, none] S = some (.nx, [some (.scr ns), some (.mu 0), some (mD c fs), some (.tup (ls.map nlD)), some (.lst ((ws.map wtxt).map .str)), none, none, some (.str (txt (ws.map wtxt))), some (.lst (MORE.map .str)), v9, v10, some (.tup (ws.map wnD)), none, none, none, none, none, none], S') ∧ Rw ns S' := by
  obtain ⟨env', S2, b1, ⟨v9, v10, he⟩, hS⟩ := for_inv (J := fun _ env S1 => (∃ v9 v10, env = [some (.scr ns), some (.mu 0), some (mD c fs), some (.tup (ls.map nlD)), some (.lst ((ws.map wtxt).map .str)), none, none, some (.str (txt (ws.map wtxt))), some (.lst (MORE.map .str)), v9, v10, some (.tup (ws.map wnD)), none, none, none, none, none, none]) ∧ Rw ns S1) (g := gNameD 9) (b := L_law_1) (rgL 0 4) 0 [some (.scr ns), some (.mu 0), some (mD c fs), some (.tup (ls.map nlD)), some (.lst ((ws.map wtxt).map .str)), none, none, some (.str (txt (ws.map wtxt))), some (.lst (MORE.map .str)), u9, u10, some (.tup (ws.map wnD)), none, none, none, none, none, none] S ⟨⟨u9, u10, rfl⟩, h⟩
    (fun i d env S1 hd ⟨⟨v9, v10, he⟩, hS⟩ => by
      subst he
      obtain ⟨w10, S', q1, q2⟩ := law_i_step m hw hS (v9 := some d) (v10 := v10)
      exact ⟨_, _, S', rfl, q1, ⟨_, _, rfl⟩, q2⟩)
  subst he
  exact ⟨v9, v10, S2, for_ok (rg1_ok (n := 4) rfl (by omega)) b1, hS⟩
theorem law_j {ws : List Wn} {S : Sto} (h : Rw ns S) {v9 v10 : Option D} : ∃ (many : Nat) (S' : Sto), (sSet 14 (eOp addD (eC (.int 1)) (eCall F__law_taken (aCons (eVar 1) (aCons (eC (.int 3)) aNil))))) [some (.scr ns), some (.mu 0), some (mD c fs), some (.tup (ls.map nlD)), some (.lst ((ws.map wtxt).map .str)), none, none, some (.str (txt (ws.map wtxt))), some (.lst (MORE.map .str)), v9, v10, some (.tup (ws.map wnD)), none, none, none, none, none, none] S = some (.nx, [some (.scr ns), some (.mu 0), some (mD c fs), some (.tup (ls.map nlD)), some (.lst ((ws.map wtxt).map .str)), none, none, some (.str (txt (ws.map wtxt))), some (.lst (MORE.map .str)), v9, v10, some (.tup (ws.map wnD)), none, none, some (.int (many : Int)), none, none, none], S') ∧ 1 ≤ many ∧ many ≤ 3 ∧ Rw ns S' := by
  obtain ⟨r, S', a1, a2, a3⟩ := f_taken (m := 3) h (by omega) (by omega)
  have a1 : F__law_taken [.mu 0, .int 3] S = some (.ok (.int (r : Int)), S') := a1
  have e : ((1 : Int) + (r : Int)) = ((1 + r : Nat) : Int) := by omega
  have q : eOp addD (eC (.int 1)) (eCall F__law_taken (aCons (eVar 1) (aCons (eC (.int 3)) aNil))) [some (.scr ns), some (.mu 0), some (mD c fs), some (.tup (ls.map nlD)), some (.lst ((ws.map wtxt).map .str)), none, none, some (.str (txt (ws.map wtxt))), some (.lst (MORE.map .str)), v9, v10, some (.tup (ws.map wnD)), none, none, none, none, none, none] S = some (.int ((1 + r : Nat) : Int), S') := op_ok (a := .int 1) (s := S) rfl (call_ok (acons_ok rfl (acons_ok rfl rfl)) a1) (by simp only [addD, der_int, e])
  exact ⟨1 + r, S', set_nx q, by omega, by omega, a3⟩
theorem law_k (m : MOk c fs) (hl : ∀ l ∈ ls, NOk c fs l) (h6 : ls.length ≤ 6) {many : Nat} (m3 : many ≤ 3) {ws : List Wn} {S : Sto} (h : Rw ns S) {v9 v10 : Option D} : ∃ (lot : List Nat) (S' : Sto), (sSet 15 (eCall F__law_pick (aCons (eVar 1) (aCons (eComp (lstOf (eCall F__law_subsets (aCons (eCl lenD (aCons (eVar 3) aNil)) aNil))) (gNameD 16) (bTru (eCall F__law_near (aCons (eVar 16) (aCons (eVar 14) aNil)))) (eVar 16) [16]) aNil)))) [some (.scr ns), some (.mu 0), some (mD c fs), some (.tup (ls.map nlD)), some (.lst ((ws.map wtxt).map .str)), none, none, some (.str (txt (ws.map wtxt))), some (.lst (MORE.map .str)), v9, v10, some (.tup (ws.map wnD)), none, none, some (.int (many : Int)), none, none, none] S = some (.nx, [some (.scr ns), some (.mu 0), some (mD c fs), some (.tup (ls.map nlD)), some (.lst ((ws.map wtxt).map .str)), none, none, some (.str (txt (ws.map wtxt))), some (.lst (MORE.map .str)), v9, v10, some (.tup (ws.map wnD)), none, none, some (.int (many : Int)), some (lotD lot), none, none], S') ∧ LotOk ls.length lot ∧ nearB lot many = true ∧ Rw ns S' := by
  obtain ⟨lots, a1, a2, a3, a4⟩ := f_subsets h6 S
  have hlen : eCl lenD (aCons (eVar 3) aNil) [some (.scr ns), some (.mu 0), some (mD c fs), some (.tup (ls.map nlD)), some (.lst ((ws.map wtxt).map .str)), none, none, some (.str (txt (ws.map wtxt))), some (.lst (MORE.map .str)), v9, v10, some (.tup (ws.map wnD)), none, none, some (.int (many : Int)), none, none, none] S = some (.int (ls.length : Int), S) := cl_1 (a := .tup (ls.map nlD)) rfl (by simp [lenD])
  have hlots : ∀ lot ∈ lots, lot.length ≤ 1000 := fun lot hlot => by
    have := lot_len (a := 0) (a2 lot hlot).asc fun k hk => ⟨by omega, (a2 lot hlot).lt k hk⟩
    omega
  have h1 : compD (gNameD 16) (bTru (eCall F__law_near (aCons (eVar 16) (aCons (eVar 14) aNil)))) (eVar 16) [16] (lots.map lotD) [some (.scr ns), some (.mu 0), some (mD c fs), some (.tup (ls.map nlD)), some (.lst ((ws.map wtxt).map .str)), none, none, some (.str (txt (ws.map wtxt))), some (.lst (MORE.map .str)), v9, v10, some (.tup (ws.map wnD)), none, none, some (.int (many : Int)), none, none, none] S = some ((lots.filter fun lot => nearB lot many).map lotD, S) := by
    clear a1 a3 a4
    induction lots with
    | nil => rfl
    | cons lot r ih =>
      have ih' := ih (fun q hq => a2 q (List.mem_cons_of_mem _ hq)) (fun q hq => hlots q (List.mem_cons_of_mem _ hq))
      have hnr := f_near (lot := lot) (hlots lot List.mem_cons_self) m3 S
      have t1 : bTru (eCall F__law_near (aCons (eVar 16) (aCons (eVar 14) aNil))) [some (.scr ns), some (.mu 0), some (mD c fs), some (.tup (ls.map nlD)), some (.lst ((ws.map wtxt).map .str)), none, none, some (.str (txt (ws.map wtxt))), some (.lst (MORE.map .str)), v9, v10, some (.tup (ws.map wnD)), none, none, some (.int (many : Int)), none, some (lotD lot), none] S = some (nearB lot many, S) := tru_bl (call_ok (acons_ok rfl (acons_ok rfl rfl)) hnr)
      have t2 : eVar 16 [some (.scr ns), some (.mu 0), some (mD c fs), some (.tup (ls.map nlD)), some (.lst ((ws.map wtxt).map .str)), none, none, some (.str (txt (ws.map wtxt))), some (.lst (MORE.map .str)), v9, v10, some (.tup (ws.map wnD)), none, none, some (.int (many : Int)), none, some (lotD lot), none] S = some (lotD lot, S) := rfl
      have g1 : gNameD 16 (lotD lot) (wipeD [some (.scr ns), some (.mu 0), some (mD c fs), some (.tup (ls.map nlD)), some (.lst ((ws.map wtxt).map .str)), none, none, some (.str (txt (ws.map wtxt))), some (.lst (MORE.map .str)), v9, v10, some (.tup (ws.map wnD)), none, none, some (.int (many : Int)), none, none, none] [16]) = some [some (.scr ns), some (.mu 0), some (mD c fs), some (.tup (ls.map nlD)), some (.lst ((ws.map wtxt).map .str)), none, none, some (.str (txt (ws.map wtxt))), some (.lst (MORE.map .str)), v9, v10, some (.tup (ws.map wnD)), none, none, some (.int (many : Int)), none, some (lotD lot), none] := rfl
      rw [List.map_cons, compD, g1]
      dsimp only [Option.bind_some]
      rw [t1]
      dsimp only [Option.bind_some]
      cases hb : nearB lot many with
      | true =>
        rw [if_pos rfl, t2]
        dsimp only [Option.bind_some]
        rw [ih', List.filter_cons, hb]
        rfl
      | false =>
        rw [if_neg (by decide), ih', List.filter_cons, hb]
        rfl
  have hfl : ((lots.filter fun lot => nearB lot many).map lotD).length ≤ 1000 := by
    have := List.length_filter_le (fun lot => nearB lot many) lots
    rw [List.length_map]; omega
  have hfl2 : ((lots.filter fun lot => nearB lot many).map lotD).length ≤ 16777216 := by omega
  have h2 : eComp (lstOf (eCall F__law_subsets (aCons (eCl lenD (aCons (eVar 3) aNil)) aNil))) (gNameD 16) (bTru (eCall F__law_near (aCons (eVar 16) (aCons (eVar 14) aNil)))) (eVar 16) [16] [some (.scr ns), some (.mu 0), some (mD c fs), some (.tup (ls.map nlD)), some (.lst ((ws.map wtxt).map .str)), none, none, some (.str (txt (ws.map wtxt))), some (.lst (MORE.map .str)), v9, v10, some (.tup (ws.map wnD)), none, none, some (.int (many : Int)), none, none, none] S = some (.lst ((lots.filter fun lot => nearB lot many).map lotD), S) := by
    rw [ev_comp, ev_lstOf, call_ok (acons_ok hlen rfl) a1]
    simp only [h1, hfl2, if_true]
  have hne : (lots.filter fun lot => nearB lot many).map lotD ≠ [] := fun z => by
    rw [List.map_eq_nil_iff] at z
    have : ([] : List Nat) ∈ lots.filter fun lot => nearB lot many := List.mem_filter.mpr ⟨a3, by simp [nearB, rgL]⟩
    rw [z] at this
    cases this
  obtain ⟨d, hd, S', p1, p2⟩ := f_pick h hne (by omega)
  obtain ⟨lot, hlot, rfl⟩ := List.mem_map.mp hd
  obtain ⟨q1, q2⟩ := List.mem_filter.mp hlot
  exact ⟨lot, S', set_nx (call_ok (acons_ok rfl (acons_ok h2 rfl)) p1), a2 lot q1, q2, p2⟩
theorem law_l (m : MOk c fs) (hl : ∀ l ∈ ls, NOk c fs l) (h6 : ls.length ≤ 6) {many : Nat} (m1 : 1 ≤ many) (m3 : many ≤ 3) {lot : List Nat} (hlot : LotOk ls.length lot) (hn : nearB lot many = true) {ws : List Wn} (S : Sto) {v9 v10 : Option D} : ∃ N, (sIf (bNot (bTru (eCall (F__law_alike 20) (aCons (eCall F_told (aCons (eVar 2) (aCons (eVar 3) (aCons (eVar 14) (aCons (eVar 15) aNil))))) (aCons (eCall F__law_rows (aCons (eVar 2) (aCons (eVar 3) (aCons (eVar 15) aNil)))) aNil))))) (sRet (eC (.bl false))) sNil) [some (.scr ns), some (.mu 0), some (mD c fs), some (.tup (ls.map nlD)), some (.lst ((ws.map wtxt).map .str)), none, none, some (.str (txt (ws.map wtxt))), some (.lst (MORE.map .str)), v9, v10, some (.tup (ws.map wnD)), none, none, some (.int (many : Int)), some (lotD lot), none, none] S = some (.nx, [some (.scr ns), some (.mu 0), some (mD c fs), some (.tup (ls.map nlD)), some (.lst ((ws.map wtxt).map .str)), none, none, some (.str (txt (ws.map wtxt))), some (.lst (MORE.map .str)), v9, v10, some (.tup (ws.map wnD)), none, none, some (.int (many : Int)), some (lotD lot), none, none], S ++ N) := by
  obtain ⟨N, h1⟩ := f_told m hl h6 m1 m3 hlot hn S
  have h2 := f_rows m (lot := lot) hl h6 (S ++ N)
  exact ⟨N, (if_f (alike_t (d := .str (toldS c ls lot)) (call_ok (acons_ok rfl (acons_ok rfl (acons_ok rfl (acons_ok rfl rfl)))) h1) (call_ok (acons_ok rfl (acons_ok rfl (acons_ok rfl rfl))) h2) trivial)).trans rfl⟩
theorem law_n {many : Nat} {lot : List Nat} {ws : List Wn} (S : Sto) {v9 v10 : Option D} : (sSet 17 (eLst (aCons (eC .non) (aCons (eLst (aCons (eC (.int 0)) aNil)) (aCons (eTup (aCons (eCl lenD (aCons (eVar 3) aNil)) aNil)) (aCons (eTup (aCons (eC (.int 0)) (aCons (eC (.int 0)) aNil))) (aCons (eTup (aCons (eC (.bl true)) aNil)) (aCons (eTup (aCons (eOp subD (eC (.int 0)) (eC (.int 1))) aNil)) aNil)))))))) [some (.scr ns), some (.mu 0), some (mD c fs), some (.tup (ls.map nlD)), some (.lst ((ws.map wtxt).map .str)), none, none, some (.str (txt (ws.map wtxt))), some (.lst (MORE.map .str)), v9, v10, some (.tup (ws.map wnD)), none, none, some (.int (many : Int)), some (lotD lot), none, none] S = some (.nx, [some (.scr ns), some (.mu 0), some (mD c fs), some (.tup (ls.map nlD)), some (.lst ((ws.map wtxt).map .str)), none, none, some (.str (txt (ws.map wtxt))), some (.lst (MORE.map .str)), v9, v10, some (.tup (ws.map wnD)), none, none, some (.int (many : Int)), some (lotD lot), none, some (.lst (badLots ls.length))], S) := by
  have hlen : eCl lenD (aCons (eVar 3) aNil) [some (.scr ns), some (.mu 0), some (mD c fs), some (.tup (ls.map nlD)), some (.lst ((ws.map wtxt).map .str)), none, none, some (.str (txt (ws.map wtxt))), some (.lst (MORE.map .str)), v9, v10, some (.tup (ws.map wnD)), none, none, some (.int (many : Int)), some (lotD lot), none, none] S = some (.int (ls.length : Int), S) := cl_1 (a := .tup (ls.map nlD)) rfl (by simp [lenD])
  have b2 : eLst (aCons (eC (.int 0)) aNil) [some (.scr ns), some (.mu 0), some (mD c fs), some (.tup (ls.map nlD)), some (.lst ((ws.map wtxt).map .str)), none, none, some (.str (txt (ws.map wtxt))), some (.lst (MORE.map .str)), v9, v10, some (.tup (ws.map wnD)), none, none, some (.int (many : Int)), some (lotD lot), none, none] S = some (.lst [.int 0], S) := lst_ok rfl (by simp)
  have b3 := ev_tup1 hlen
  have b4 : eTup (aCons (eC (.int 0)) (aCons (eC (.int 0)) aNil)) [some (.scr ns), some (.mu 0), some (mD c fs), some (.tup (ls.map nlD)), some (.lst ((ws.map wtxt).map .str)), none, none, some (.str (txt (ws.map wtxt))), some (.lst (MORE.map .str)), v9, v10, some (.tup (ws.map wnD)), none, none, some (.int (many : Int)), some (lotD lot), none, none] S = some (.tup [.int 0, .int 0], S) := tup2_ok (s1 := S) rfl rfl
  have b5 : eTup (aCons (eC (.bl true)) aNil) [some (.scr ns), some (.mu 0), some (mD c fs), some (.tup (ls.map nlD)), some (.lst ((ws.map wtxt).map .str)), none, none, some (.str (txt (ws.map wtxt))), some (.lst (MORE.map .str)), v9, v10, some (.tup (ws.map wnD)), none, none, some (.int (many : Int)), some (lotD lot), none, none] S = some (.tup [.bl true], S) := ev_tup1 rfl
  have b6 : eTup (aCons (eOp subD (eC (.int 0)) (eC (.int 1))) aNil) [some (.scr ns), some (.mu 0), some (mD c fs), some (.tup (ls.map nlD)), some (.lst ((ws.map wtxt).map .str)), none, none, some (.str (txt (ws.map wtxt))), some (.lst (MORE.map .str)), v9, v10, some (.tup (ws.map wnD)), none, none, some (.int (many : Int)), some (lotD lot), none, none] S = some (.tup [.int (-1)], S) := ev_tup1 (op_ok (a := .int 0) (b := .int 1) (s := S) rfl rfl rfl)
  exact set_nx (lst_ok (as := badLots ls.length) (acons_ok (a := .non) (s := S) rfl (acons_ok b2 (acons_ok b3 (acons_ok b4 (acons_ok b5 (acons_ok b6 rfl)))))) (by simp [badLots]))
theorem law_z (m : MOk c fs) (hl : ∀ l ∈ ls, NOk c fs l) (h6 : ls.length ≤ 6) {many : Nat} (m1 : 1 ≤ many) (m3 : many ≤ 3) {lot : List Nat} {ws : List Wn} (S : Sto) {v9 v10 : Option D} : (sRet (eOp eqD (eComp (lstOf (eVar 17)) (gNameD 10) (bOf (eOp neD (eTold (xCall F_told (aCons (eVar 2) (aCons (eVar 3) (aCons (eVar 14) (aCons (eVar 10) aNil)))))) (eC (sT "losses")))) (eVar 10) [10]) (eLst aNil))) [some (.scr ns), some (.mu 0), some (mD c fs), some (.tup (ls.map nlD)), some (.lst ((ws.map wtxt).map .str)), none, none, some (.str (txt (ws.map wtxt))), some (.lst (MORE.map .str)), v9, v10, some (.tup (ws.map wnD)), none, none, some (.int (many : Int)), some (lotD lot), none, some (.lst (badLots ls.length))] S = some (.rt (.bl true), [some (.scr ns), some (.mu 0), some (mD c fs), some (.tup (ls.map nlD)), some (.lst ((ws.map wtxt).map .str)), none, none, some (.str (txt (ws.map wtxt))), some (.lst (MORE.map .str)), v9, v10, some (.tup (ws.map wnD)), none, none, some (.int (many : Int)), some (lotD lot), none, some (.lst (badLots ls.length))], S) := by
  have hc : ∀ bs : List D, (∀ v ∈ bs, v ∈ badLots ls.length) → compD (gNameD 10) (bOf (eOp neD (eTold (xCall F_told (aCons (eVar 2) (aCons (eVar 3) (aCons (eVar 14) (aCons (eVar 10) aNil)))))) (eC (sT "losses")))) (eVar 10) [10] bs [some (.scr ns), some (.mu 0), some (mD c fs), some (.tup (ls.map nlD)), some (.lst ((ws.map wtxt).map .str)), none, none, some (.str (txt (ws.map wtxt))), some (.lst (MORE.map .str)), v9, v10, some (.tup (ws.map wnD)), none, none, some (.int (many : Int)), some (lotD lot), none, some (.lst (badLots ls.length))] S = some ([], S) := by
    intro bs
    induction bs with
    | nil => intro _; rfl
    | cons v r ih =>
      intro hv
      have ih' := ih fun q hq => hv q (List.mem_cons_of_mem _ hq)
      have hbad := f_told_bad m hl h6 m1 m3 (hv v List.mem_cons_self) S
      have hT := ev_toldD (fx := xCall F_told (aCons (eVar 2) (aCons (eVar 3) (aCons (eVar 14) (aCons (eVar 10) aNil))))) (env := [some (.scr ns), some (.mu 0), some (mD c fs), some (.tup (ls.map nlD)), some (.lst ((ws.map wtxt).map .str)), none, none, some (.str (txt (ws.map wtxt))), some (.lst (MORE.map .str)), v9, some v, some (.tup (ws.map wnD)), none, none, some (.int (many : Int)), some (lotD lot), none, some (.lst (badLots ls.length))]) (S := S) (xcall_ok (acons_ok rfl (acons_ok rfl (acons_ok rfl (acons_ok rfl rfl)))) hbad)
      have t1 : bOf (eOp neD (eTold (xCall F_told (aCons (eVar 2) (aCons (eVar 3) (aCons (eVar 14) (aCons (eVar 10) aNil)))))) (eC (sT "losses"))) [some (.scr ns), some (.mu 0), some (mD c fs), some (.tup (ls.map nlD)), some (.lst ((ws.map wtxt).map .str)), none, none, some (.str (txt (ws.map wtxt))), some (.lst (MORE.map .str)), v9, some v, some (.tup (ws.map wnD)), none, none, some (.int (many : Int)), some (lotD lot), none, some (.lst (badLots ls.length))] S = some (false, S) := bof_ok (op_ok hT (b := sT "losses") rfl (by simp [toldD, lossV, neD, eqB_str]))
      have g1 : gNameD 10 v (wipeD [some (.scr ns), some (.mu 0), some (mD c fs), some (.tup (ls.map nlD)), some (.lst ((ws.map wtxt).map .str)), none, none, some (.str (txt (ws.map wtxt))), some (.lst (MORE.map .str)), v9, v10, some (.tup (ws.map wnD)), none, none, some (.int (many : Int)), some (lotD lot), none, some (.lst (badLots ls.length))] [10]) = some [some (.scr ns), some (.mu 0), some (mD c fs), some (.tup (ls.map nlD)), some (.lst ((ws.map wtxt).map .str)), none, none, some (.str (txt (ws.map wtxt))), some (.lst (MORE.map .str)), v9, some v, some (.tup (ws.map wnD)), none, none, some (.int (many : Int)), some (lotD lot), none, some (.lst (badLots ls.length))] := rfl
      rw [compD, g1]
      dsimp only [Option.bind_some]
      rw [t1]
      dsimp only [Option.bind_some]
      rw [if_neg (by decide), ih']
  have h1 : eComp (lstOf (eVar 17)) (gNameD 10) (bOf (eOp neD (eTold (xCall F_told (aCons (eVar 2) (aCons (eVar 3) (aCons (eVar 14) (aCons (eVar 10) aNil)))))) (eC (sT "losses")))) (eVar 10) [10] [some (.scr ns), some (.mu 0), some (mD c fs), some (.tup (ls.map nlD)), some (.lst ((ws.map wtxt).map .str)), none, none, some (.str (txt (ws.map wtxt))), some (.lst (MORE.map .str)), v9, v10, some (.tup (ws.map wnD)), none, none, some (.int (many : Int)), some (lotD lot), none, some (.lst (badLots ls.length))] S = some (.lst [], S) := by
    have hsrc : lstOf (eVar 17) [some (.scr ns), some (.mu 0), some (mD c fs), some (.tup (ls.map nlD)), some (.lst ((ws.map wtxt).map .str)), none, none, some (.str (txt (ws.map wtxt))), some (.lst (MORE.map .str)), v9, v10, some (.tup (ws.map wnD)), none, none, some (.int (many : Int)), some (lotD lot), none, some (.lst (badLots ls.length))] S = some (badLots ls.length, S) := by rw [ev_lstOf]; rfl
    rw [ev_comp, hsrc]
    simp only [hc _ (fun v hv => hv)]
    rfl
  have h2 : eLst aNil [some (.scr ns), some (.mu 0), some (mD c fs), some (.tup (ls.map nlD)), some (.lst ((ws.map wtxt).map .str)), none, none, some (.str (txt (ws.map wtxt))), some (.lst (MORE.map .str)), v9, v10, some (.tup (ws.map wnD)), none, none, some (.int (many : Int)), some (lotD lot), none, some (.lst (badLots ls.length))] S = some (.lst [], S) := lst_ok rfl (by simp)
  refine ret_rt (op_ok h1 h2 ?_)
  simp only [eqD]
  rw [ints_nil (by simp)]
  rfl
end
theorem hlaw (ns : List Int) : ∃ S', F_law [.scr ns] [] = some (.ok (.bl true), S') := by
  have hR0 : Rw ns [.lst [.scr ns, .int 0, .int 25060, .int 0]] := ⟨0, 25060, 0, [], rfl, by omega⟩
  have s0 : (sSet 1 (eMut (aCons (eVar 0) (aCons (eC (.int 0)) (aCons (eC (.int 25060)) (aCons (eC (.int 0)) aNil)))))) [some (.scr ns), none, none, none, none, none, none, none, none, none, none, none, none, none, none, none, none, none] [] = some (.nx, [some (.scr ns), some (.mu 0), none, none, none, none, none, none, none, none, none, none, none, none, none, none, none, none], [.lst [.scr ns, .int 0, .int 25060, .int 0]]) := set_nx (by simp)
  obtain ⟨c, fs, S1, a1, hm, hR1⟩ := f_machine hR0
  have m := hm.ok
  obtain ⟨ls, S2, b1, hl, h6, hR2⟩ := f_law_program hm hR1
  obtain ⟨N3, c3⟩ := law_b (ns := ns) m hl h6 S2
  obtain ⟨v9, v10, S4, d1, hR4⟩ := law_cc m hl h6 (hR2.app N3)
  obtain ⟨S5, d2, hR5⟩ := law_d (ls := ls) m hR4 (v9 := v9) (v10 := v10)
  obtain ⟨ws, S6, d3, hw, hR6⟩ := law_e m hl h6 hR5 (v9 := v9) (v10 := v10)
  obtain ⟨N7, d4⟩ := law_h (ns := ns) (ls := ls) m hw S6 (v9 := v9) (v10 := v10)
  obtain ⟨w9, w10, S8, d5, hR8⟩ := law_i (ls := ls) m hw (hR6.app N7) (u9 := v9) (u10 := v10)
  obtain ⟨many, S9, d6, m1, m3, hR9⟩ := law_j (c := c) (fs := fs) (ls := ls) (ws := ws) hR8 (v9 := w9) (v10 := w10)
  obtain ⟨lot, S10, d7, hlot, hn, hR10⟩ := law_k m hl h6 m3 (ws := ws) hR9 (v9 := w9) (v10 := w10)
  obtain ⟨N11, d8⟩ := law_l (ns := ns) m hl h6 m1 m3 hlot hn (ws := ws) S10 (v9 := w9) (v10 := w10)
  have d9 := law_n (ns := ns) (c := c) (fs := fs) (ls := ls) (many := many) (lot := lot) (ws := ws) (S10 ++ N11) (v9 := w9) (v10 := w10)
  have d10 := law_z (ns := ns) m hl h6 m1 m3 (lot := lot) (ws := ws) (S10 ++ N11) (v9 := w9) (v10 := w10)
  have e2 : (sSet 2 (eCall F__law_machine (aCons (eVar 1) aNil))) [some (.scr ns), some (.mu 0), none, none, none, none, none, none, none, none, none, none, none, none, none, none, none, none] [.lst [.scr ns, .int 0, .int 25060, .int 0]] = some (.nx, [some (.scr ns), some (.mu 0), some (mD c fs), none, none, none, none, none, none, none, none, none, none, none, none, none, none, none], S1) := set_nx (call_ok (acons_ok rfl rfl) a1)
  have e3 : (sSet 3 (eCall F__law_program (aCons (eVar 1) (aCons (eVar 2) (aCons (eC (.int 6)) aNil))))) [some (.scr ns), some (.mu 0), some (mD c fs), none, none, none, none, none, none, none, none, none, none, none, none, none, none, none] S1 = some (.nx, [some (.scr ns), some (.mu 0), some (mD c fs), some (.tup (ls.map nlD)), none, none, none, none, none, none, none, none, none, none, none, none, none, none], S2) := set_nx (call_ok (acons_ok rfl (acons_ok rfl (acons_ok rfl rfl))) b1)
  refine ⟨S10 ++ N11, den_rt (e := [some (.scr ns), some (.mu 0), some (mD c fs), some (.tup (ls.map nlD)), some (.lst ((ws.map wtxt).map .str)), none, none, some (.str (txt (ws.map wtxt))), some (.lst (MORE.map .str)), w9, w10, some (.tup (ws.map wnD)), none, none, some (.int (many : Int)), some (lotD lot), none, some (.lst (badLots ls.length))]) rfl ?_⟩
  unfold B_law
  exact seq_nx s0 (seq_nx e2 (seq_nx e3 (seq_nx (law_a m hl h6 S2) (seq_nx (law_t m hl h6 S2) (seq_nx c3 (seq_nx (law_m1 _) (seq_nx (law_m2 _) (seq_nx d1 (seq_nx d2 (seq_nx d3 (seq_nx (law_f m hw S6) (seq_nx (law_g m hw S6) (seq_nx d4 (seq_nx d5 (seq_nx d6 (seq_nx d7 (seq_nx d8 (seq_nx d9 d10))))))))))))))))))
end L2.DL
theorem PySem.Challenge.cw_lostlines_k60_whole_texts_holds : PySem.Challenge.rw_lostlines_k60_whole_texts.Holds :=
  L2.DL.holds_of fun ns _ => L2.DL.hlaw ns
