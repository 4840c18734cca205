import PyProof.Rows.All
import Wide.All
import OpenK.AllK
import Wide.FinOn
import Lean
import PySem.Challenge.RW_xm0814_01
open PySem PySem.W PyProof.Rows
set_option Elab.async false
set_option rowWalk.seconds 0
section
open PySem PySem.W PyProof.Rows
set_option maxRecDepth 100000
set_option maxHeartbeats 8000000
namespace Mine
open_top hd for PySem.Challenge.rw_xm0814_01
end Mine
end
section
open PySem PySem.W PyProof.Rows
set_option maxRecDepth 100000
set_option maxHeartbeats 8000000
namespace Mine
local macro_rules | `(tactic| k_all) => `(tactic| assumption)
theorem twig_tells : ∀ {w : World} {mean : ExcName → Option Value} {mg mb : Str → Option Value} (dp un : Nat) (gd : Option (List Code)) (cn : Str) (cs : Scope) (a : Addr) (ccd : Value) (cl : List (Str × Addr)) (outer : List Env) (A₀ : Around) (base h₀ : Heap) (L : Addr) (m : Str → Option Value) (s : Shared) (Q E : Value → Shared → Prop)
  (H : Addr) (n : Nat) (x y many : Int) (tx ty tm : Tok) (news : List (Addr × Obj)) (_ : Below A₀ base outer h₀) (_ : Fr h₀ L s.heap m) (_ : (hd.heap_39 w.params).In h₀) (_ : News h₀ L s.heap ((H, listOf #[.int x tx, .int y ty] n) :: news)) (_ : Top hd.view_39 (looseW hd.view_39 []) mean mg mb h₀) (_ : cs.kind = .function)
  (_ : ∀ p ∈ news, p.1 ≠ H) (_ : 0 ≤ x) (_ : 0 ≤ y) (_ : y < 70000) (_ : 1 ≤ many) (_ : many ≤ 4) (_ : dp + 1 < recursionLimit) (_ : un + 8 < cLine)
  (_ : ∀ r x' y' t tx' ty' h' tk', 0 ≤ r → r < many → 0 ≤ x' → 0 ≤ y' → y' < 70000 → Fr h₀ L h' m → News h₀ L h' ((H, listOf #[.int x' tx', .int y' ty'] n) :: news) → Q (.int r t) { s with heap := h', toks := tk' }),
  wpAny (model PySem.Challenge.rw_xm0814_01.row.prog w) (ktrTop dp un gd cn cs L a ccd cl outer) (call (.ref 171) [.ref H, .int many tm]) Q E s := by
  k_fill
  intro w mean mg mb dp un gd cn cs a ccd cl outer A₀ base h₀ L m s Q E H n x y many tx ty tm news B F X N T hk hoff hx hy hy2 hm hm2 hd hu hret
  w_on
  refine wpAny_call ?_
  w_strict (k_dflt ktr_enter)
  k_steps
  · refine hret _ _ _ _ _ _ _ _ ?_ ?_ ?_ ?_ ?_ (by k_asm) (by k_asm)
    · exact Int.fmod_nonneg_of_pos _ (by omega)
    · exact Int.fmod_lt_of_pos _ (by omega)
    · exact Int.fdiv_nonneg hx (by omega)
    · exact hy
    · exact hy2
  · refine hret _ _ _ _ _ _ _ _ ?_ ?_ ?_ ?_ ?_ (by k_asm) (by k_asm)
    · exact Int.fmod_nonneg_of_pos _ (by omega)
    · exact Int.fmod_lt_of_pos _ (by omega)
    · exact hx
    · exact Int.fmod_nonneg_of_pos _ (by omega)
    · exact Int.lt_trans (Int.fmod_lt_of_pos _ (by omega)) (by omega)
end Mine
end
section
open PySem PySem.W PyProof.Rows
set_option maxRecDepth 100000
set_option maxHeartbeats 8000000
namespace Mine
local macro_rules | `(tactic| k_all) => `(tactic| assumption)
theorem hedge_low (z : Int) : 0 ≤ z.fmod 65269 + 79 := by
  have := Int.fmod_nonneg_of_pos z (b := 65269) (by omega)
  omega
theorem hedge_high (z : Int) : z.fmod 65269 + 79 < 70000 := by
  have := Int.fmod_lt_of_pos z (b := 65269) (by omega)
  omega
theorem hedge_tells : ∀ {w : World} {mean : ExcName → Option Value} {mg mb : Str → Option Value} (dp un : Nat) (gd : Option (List Code)) (cn : Str) (cs : Scope) (a : Addr) (ccd : Value) (cl : List (Str × Addr)) (outer : List Env) (A₀ : Around) (base h₀ : Heap) (L : Addr) (m : Str → Option Value) (s : Shared) (Q E : Value → Shared → Prop)
  (l : Addr) (vs : List Value) (ns : List Int) (news : List (Addr × Obj)) (_ : Below A₀ base outer h₀) (_ : Fr h₀ L s.heap m) (_ : (hd.heap_39 w.params).In h₀) (_ : News h₀ L s.heap news) (_ : Top hd.view_39 (looseW hd.view_39 []) mean mg mb h₀) (_ : cs.kind = .function)
  (_ : h₀.IsList l vs.toArray) (_ : IntsAre vs ns) (_ : ns.length < 64) (_ : dp + 1 < recursionLimit) (_ : un + 8 < cLine)
  (_ : ∀ H x' y' tx' ty' h' tk', 0 ≤ x' → 0 ≤ y' → y' < 70000 → Fr h₀ L h' m → News h₀ L h' ((H, listOf #[.int x' tx', .int y' ty'] 0) :: news) → (∀ p ∈ news, p.1 < H) → Q (.ref H) { s with heap := h', toks := tk' }),
  wpAny (model PySem.Challenge.rw_xm0814_01.row.prog w) (ktrTop dp un gd cn cs L a ccd cl outer) (call (.ref 164) [.ref l]) Q E s := by
  k_fill
  intro w mean mg mb dp un gd cn cs a ccd cl outer A₀ base h₀ L m s Q E l vs ns news B F X N T hk hl hi hlen hd hu hret
  w_on
  refine wpAny_call ?_
  w_strict (k_dflt ktr_enter)
  rename Fr h₀ _ _ m => FG9
  have hl9 := hl.at fun o e => FG9.keep _ o e
  k_steps
  all_goals (refine hret _ _ _ _ _ _ _ ?_ ?_ ?_ (by k_asm) (by k_asm) (by assumption); (first | assumption | exact Int.le_refl 0 | omega); exact hedge_low _; exact hedge_high _)
end Mine
end
section
open PySem PySem.W PyProof.Rows
set_option maxRecDepth 100000
set_option maxHeartbeats 8000000
namespace Mine
theorem twig_use {w : World} {mean : ExcName → Option Value} {mg mb : Str → Option Value} {dp un : Nat} {gd : Option (List Code)} {cn : Str} {cs : Scope} {a : Addr} {ccd : Value} {cl : List (Str × Addr)} {outer : List Env} {A₀ : Around} {base h₀ : Heap} {L : Addr} {m : Str → Option Value} {s : Shared} {Q E : Value → Shared → Prop}
  {H : Addr} {n : Nat} {x y many : Int} {tx ty tm : Tok} {news : List (Addr × Obj)} {g : Obj → List (Addr × Obj)} (B : Below A₀ base outer h₀) (F : Fr h₀ L s.heap m) (X : (hd.heap_39 w.params).In h₀) (N : News h₀ L s.heap news) (T : Top hd.view_39 (looseW hd.view_39 []) mean mg mb h₀) (hk : cs.kind = .function)
  (U : UpdF H (listOf #[.int x tx, .int y ty] n) news g) (hx : 0 ≤ x) (hy : 0 ≤ y) (hy2 : y < 70000) (hm : 1 ≤ many) (hm2 : many ≤ 4) (hd : dp + 1 < recursionLimit) (hu : un + 8 < cLine)
  (hret : ∀ r x' y' t tx' ty' h' tk', 0 ≤ r → r < many → 0 ≤ x' → 0 ≤ y' → y' < 70000 → Fr h₀ L h' m → News h₀ L h' (g (listOf #[.int x' tx', .int y' ty'] n)) → Q (.int r t) { s with heap := h', toks := tk' }) :
  wpAny (model PySem.Challenge.rw_xm0814_01.row.prog w) (ktrTop dp un gd cn cs L a ccd cl outer) (call (.ref 171) [.ref H, .int many tm]) Q E s := by
  obtain ⟨pre, post, rfl, hg, h1, h2⟩ := U.split
  refine twig_tells dp un gd cn cs a ccd cl outer A₀ base h₀ L m s Q E H n x y many tx ty tm (pre ++ post) B F X ?_ T hk ?_ hx hy hy2 hm hm2 hd hu ?_
  · intro p hp
    rcases List.mem_cons.mp hp with rfl | hp
    · exact N _ (List.mem_append.mpr (.inr (.head _)))
    · rcases List.mem_append.mp hp with hp | hp
      · exact N _ (List.mem_append.mpr (.inl hp))
      · exact N _ (List.mem_append.mpr (.inr (.tail _ hp)))
  · intro p hp
    rcases List.mem_append.mp hp with hp | hp
    · exact h1 p hp
    · exact h2 p hp
  · intro r x' y' t tx' ty' h' tk' a1 a2 a3 a4 a5 F' N'
    refine hret r x' y' t tx' ty' h' tk' a1 a2 a3 a4 a5 F' ?_
    rw [hg]
    intro p hp
    rcases List.mem_append.mp hp with hp | hp
    · exact N' _ (.tail _ (List.mem_append.mpr (.inl hp)))
    · rcases List.mem_cons.mp hp with rfl | hp
      · exact N' _ (.head _)
      · exact N' _ (.tail _ (List.mem_append.mpr (.inr hp)))
theorem hedge_use {w : World} {mean : ExcName → Option Value} {mg mb : Str → Option Value} {dp un : Nat} {gd : Option (List Code)} {cn : Str} {cs : Scope} {a : Addr} {ccd : Value} {cl : List (Str × Addr)} {outer : List Env} {A₀ : Around} {base h₀ : Heap} {L : Addr} {m : Str → Option Value} {s : Shared} {Q E : Value → Shared → Prop}
  {l : Addr} {vs : List Value} {ns : List Int} {news : List (Addr × Obj)} (B : Below A₀ base outer h₀) (F : Fr h₀ L s.heap m) (X : (hd.heap_39 w.params).In h₀) (N : News h₀ L s.heap news) (T : Top hd.view_39 (looseW hd.view_39 []) mean mg mb h₀) (hk : cs.kind = .function)
  (hl : h₀.IsList l vs.toArray) (hi : IntsAre vs ns) (hlen : ¬ ((63 : Int) < (ns.length : Int))) (hd : dp + 1 < recursionLimit) (hu : un + 8 < cLine)
  (hret : ∀ H x' y' tx' ty' h' tk', 0 ≤ x' → 0 ≤ y' → y' < 70000 → Fr h₀ L h' m → News h₀ L h' ((H, listOf #[.int x' tx', .int y' ty'] 0) :: news) → (∀ p ∈ news, p.1 < H) → Q (.ref H) { s with heap := h', toks := tk' }) :
  wpAny (model PySem.Challenge.rw_xm0814_01.row.prog w) (ktrTop dp un gd cn cs L a ccd cl outer) (call (.ref 164) [.ref l]) Q E s :=
  hedge_tells dp un gd cn cs a ccd cl outer A₀ base h₀ L m s Q E l vs ns news B F X N T hk hl hi (by omega) hd hu hret
end Mine
end
section
open PySem PySem.W PyProof.Rows
namespace Mine
abbrev Led := List (Addr × Obj)
/-- one entry of the dict behind an object -/
abbrev ent (P : Params) (x : Str) (t : Tok) (v : Value) : DictEntry := { hash := PyData.keyHash P x, key := .str x t, val := v }
/-- a Component of these samplings -/
def CompIn (P : Params) (nx : Led) (v : Value) (W H : Int) : Prop :=
  ∃ (X d : Addr) (t1 t2 t3 t4 tW tH : Tok) (vi vq : Value), v = .ref X ∧ (X, instObj 52 d) ∈ nx ∧
    (d, dictOf [ent P (Str.ofString "ident") t1 vi, ent P (Str.ofString "across") t2 (.int W tW), ent P (Str.ofString "down") t3 (.int H tH), ent P (Str.ofString "quant") t4 vq] 4) ∈ nx
inductive CompAll (P : Params) (nx : Led) : List Value → List (Int × Int) → Prop
  | nil : CompAll P nx [] []
  | cons {v : Value} {vs : List Value} {z : Int × Int} {zs : List (Int × Int)} : CompIn P nx v z.1 z.2 → CompAll P nx vs zs → CompAll P nx (v :: vs) (z :: zs)
theorem CompIn.mono {P : Params} {nx nx' : Led} {v : Value} {W H : Int} (hs : ∀ p ∈ nx, p ∈ nx') (h : CompIn P nx v W H) : CompIn P nx' v W H := by
  obtain ⟨X, d, t1, t2, t3, t4, tW, tH, vi, vq, e, h1, h2⟩ := h
  exact ⟨X, d, t1, t2, t3, t4, tW, tH, vi, vq, e, hs _ h1, hs _ h2⟩
theorem CompAll.mono {P : Params} {nx nx' : Led} (hs : ∀ p ∈ nx, p ∈ nx') {vs : List Value} {zs : List (Int × Int)} (h : CompAll P nx vs zs) : CompAll P nx' vs zs := by
  induction h with
  | nil => exact .nil
  | cons h _ ih => exact .cons (h.mono hs) ih
theorem CompAll.length {P : Params} {nx : Led} {vs : List Value} {zs : List (Int × Int)} (h : CompAll P nx vs zs) : vs.length = zs.length := by
  induction h with
  | nil => rfl
  | cons _ _ ih => simp [ih]
theorem CompAll.get {P : Params} {nx : Led} {vs : List Value} {zs : List (Int × Int)} (h : CompAll P nx vs zs) : ∀ {k : Nat} (hk : k < zs.length), ∃ v, vs[k]? = some v ∧ CompIn P nx v (zs[k]).1 (zs[k]).2 := by
  induction h with
  | nil => intro k hk; exact absurd hk (Nat.not_lt_zero _)
  | cons h _ ih =>
    intro k hk
    cases k with
    | zero => exact ⟨_, rfl, h⟩
    | succ k => exact ih (Nat.lt_of_succ_lt_succ hk)
theorem CompAll.look {P : Params} {nx : Led} {vs : List Value} {zs : List (Int × Int)} (h : CompAll P nx vs zs) {k : Nat} (hk : k < zs.length) : ∃ v W H, vs[k]? = some v ∧ zs.getD k (1, 1) = (W, H) ∧ (W, H) ∈ zs ∧ CompIn P nx v W H := by
  obtain ⟨v, hv, hc⟩ := h.get hk
  exact ⟨v, zs[k].1, zs[k].2, hv, by simp [List.getD_eq_getElem?_getD, hk], List.getElem_mem hk, hc⟩
def FrameIn (P : Params) (nx : Led) (FR CL : Addr) : Prop :=
  ∃ (d : Addr) (t1 t2 t3 t4 t5 t6 : Tok) (v1 v2 v3 v4 v6 : Value), (FR, instObj 118 d) ∈ nx ∧
    (d, dictOf [ent P (Str.ofString "kind") t1 v1, ent P (Str.ofString "precision") t2 v2, ent P (Str.ofString "height") t3 v3, ent P (Str.ofString "width") t4 v4, ent P (Str.ofString "components") t5 (.ref CL), ent P (Str.ofString "n") t6 v6] 6) ∈ nx
def ScanIn (P : Params) (nx : Led) (SC PL : Addr) : Prop :=
  ∃ (d : Addr) (t1 t2 t3 t4 t5 t6 t7 : Tok) (v2 v3 v4 v5 v6 v7 : Value), (SC, instObj 153 d) ∈ nx ∧
    (d, dictOf [ent P (Str.ofString "places") t1 (.ref PL), ent P (Str.ofString "dc_slots") t2 v2, ent P (Str.ofString "ac_slots") t3 v3, ent P (Str.ofString "start") t4 v4, ent P (Str.ofString "end") t5 v5, ent P (Str.ofString "high") t6 v6, ent P (Str.ofString "low") t7 v7] 7) ∈ nx
abbrev d4 (a b c d : Int) : Dat := .tuple [.int a, .int b, .int c, .int d]
/-- the first n blocks of a row -/
def rowD (pc pl bx0 by_ : Int) (n : Nat) : List Dat := (List.range n).map fun (k : Nat) => d4 pc pl (bx0 + k) by_
/-- the first n rows of a component's blocks -/
def blkD (pc pl bx0 by0 : Int) (W n : Nat) : List Dat := (List.range n).flatMap fun (k : Nat) => rowD pc pl bx0 (by0 + k) W
theorem rowD_succ (pc pl bx0 by_ : Int) (n : Nat) : rowD pc pl bx0 by_ (n + 1) = rowD pc pl bx0 by_ n ++ [d4 pc pl (bx0 + n) by_] := by
  simp [rowD, List.range_succ]
theorem blkD_succ (pc pl bx0 by0 : Int) (W n : Nat) : blkD pc pl bx0 by0 W (n + 1) = blkD pc pl bx0 by0 W n ++ rowD pc pl bx0 (by0 + n) W := by
  simp [blkD, List.range_succ]
theorem rowD_length (pc pl bx0 by_ : Int) (n : Nat) : (rowD pc pl bx0 by_ n).length = n := by simp [rowD]
theorem blkD_length (pc pl bx0 by0 : Int) (W n : Nat) : (blkD pc pl bx0 by0 W n).length = n * W := by
  induction n with
  | zero => simp [blkD]
  | succ n ih => rw [blkD_succ, List.length_append, ih, rowD_length, Nat.succ_mul]
/-- what unit_at tells of the first n places of a scan -/
def unitN (sz : List (Int × Int)) (ps : List Int) (x y : Int) (n : Nat) : List Dat :=
  (List.range n).flatMap fun (k : Nat) => let pl := ps.getD k 0; let z := sz.getD pl.toNat (1, 1); blkD k pl (x * z.1) (y * z.2) z.1.toNat z.2.toNat
theorem unitN_succ (sz : List (Int × Int)) (ps : List Int) (x y : Int) (n : Nat) : unitN sz ps x y (n + 1) = unitN sz ps x y n ++ blkD n (ps.getD n 0) (x * (sz.getD (ps.getD n 0).toNat (1, 1)).1) (y * (sz.getD (ps.getD n 0).toNat (1, 1)).2) (sz.getD (ps.getD n 0).toNat (1, 1)).1.toNat (sz.getD (ps.getD n 0).toNat (1, 1)).2.toNat := by
  simp [unitN, List.range_succ]
/-- samplings are one to four -/
def SzOk (sz : List (Int × Int)) : Prop := ∀ z ∈ sz, 1 ≤ z.1 ∧ z.1 ≤ 4 ∧ 1 ≤ z.2 ∧ z.2 ≤ 4
theorem SzOk.getD {sz : List (Int × Int)} (h : SzOk sz) (k : Nat) : 1 ≤ (sz.getD k (1, 1)).1 ∧ (sz.getD k (1, 1)).1 ≤ 4 ∧ 1 ≤ (sz.getD k (1, 1)).2 ∧ (sz.getD k (1, 1)).2 ≤ 4 := by
  by_cases hk : k < sz.length
  · have e : sz.getD k (1, 1) = sz[k] := by simp [List.getD_eq_getElem?_getD, hk]
    rw [e]; exact h _ (List.getElem_mem hk)
  · have e : sz.getD k (1, 1) = (1, 1) := by simp [List.getD_eq_getElem?_getD, hk]
    rw [e]; decide
theorem mul_le16 {a b : Nat} (ha : a ≤ 4) (hb : b ≤ 4) : a * b ≤ 16 := Nat.mul_le_mul ha hb
theorem unitN_length_le {sz : List (Int × Int)} (h : SzOk sz) (ps : List Int) (x y : Int) (n : Nat) : (unitN sz ps x y n).length ≤ 16 * n := by
  induction n with
  | zero => simp [unitN]
  | succ n ih =>
    have z := h.getD (ps.getD n 0).toNat
    rw [unitN_succ, List.length_append, blkD_length]
    have := mul_le16 (a := (sz.getD (ps.getD n 0).toNat (1, 1)).2.toNat) (b := (sz.getD (ps.getD n 0).toNat (1, 1)).1.toNat) (by omega) (by omega)
    omega
end Mine
end
section
open PySem PySem.W PyProof.Rows
namespace Mine
structure Hold (P : Prop) : Prop where
  out : P
mutual
theorem datIn_fil {h₀ h : Heap} {L I : Addr} {oI : Obj} {nx : Led} (N : News h₀ L h nx) (hI : h.get? I = some oI) (hc1 : oI.cls ≠ .type "tuple") (hc2 : oI.cls ≠ .type "list") : ∀ {v : Value} {d : Dat}, DatIn nx v d → DatIn (nx.filter fun q => decide (q.1 ≠ I)) v d
  | _, _, .none => .none
  | _, _, .bool b => .bool b
  | _, _, .int i t => .int i t
  | _, _, .str x t => .str x t
  | _, _, .bytes b t => .bytes b t
  | _, _, .tuple hm r => .tuple (List.mem_filter.mpr ⟨hm, decide_eq_true fun e => by
      have z := (N _ hm).1
      rw [e, hI] at z
      exact hc1 (congrArg Obj.cls (Option.some.inj z))⟩) (datAll_fil N hI hc1 hc2 r)
  | _, _, .list hm r => .list (List.mem_filter.mpr ⟨hm, decide_eq_true fun e => by
      have z := (N _ hm).1
      rw [e, hI] at z
      exact hc2 (congrArg Obj.cls (Option.some.inj z))⟩) (datAll_fil N hI hc1 hc2 r)
theorem datAll_fil {h₀ h : Heap} {L I : Addr} {oI : Obj} {nx : Led} (N : News h₀ L h nx) (hI : h.get? I = some oI) (hc1 : oI.cls ≠ .type "tuple") (hc2 : oI.cls ≠ .type "list") : ∀ {vs : List Value} {ds : List Dat}, DatAll nx vs ds → DatAll (nx.filter fun q => decide (q.1 ≠ I)) vs ds
  | _, _, .nil => .nil
  | _, _, .cons h r => .cons (datIn_fil N hI hc1 hc2 h) (datAll_fil N hI hc1 hc2 r)
end
def GEnd {σ : Type} (h₀ : Heap) (L : Addr) (led : σ → Led) (Inv : Led → σ → Prop) (fix : (Str → Option Value) → Prop) (nx' : Led) (s₁ s₂ : Shared) : Prop :=
  ∃ h' tk m' c nx'', s₂ = { s₁ with heap := h', toks := tk } ∧ Fr h₀ L h' m' ∧ News h₀ L h' (led c ++ nx'') ∧ (∀ q ∈ nx', q ∈ nx'') ∧ (∀ q ∈ nx'', ∀ b ∈ (led c).map (·.1), q.1 ≠ b) ∧ Inv nx'' c ∧ fix m'
def GPost {σ : Type} (h₀ : Heap) (L : Addr) (led : σ → Led) (Inv : Led → σ → Prop) (fix : (Str → Option Value) → Prop) (nx' : Led) (s₁ : Shared) (Q : Flow → Shared → Prop) (f : Flow) (s₂ : Shared) : Prop :=
  match f with
  | .ret v => Q (.ret v) s₂
  | .brk => Q .next s₂
  | _ => GEnd h₀ L led Inv fix nx' s₁ s₂
section
variable {prog : Program} {w : World} {A : Around} {E : Value → Shared → Prop} {s : Shared} {env : Env} {h₀ : Heap} {x : Str} {body : List Stmt} {Q : Flow → Shared → Prop}
theorem gen_loop {σ : Type} {r : Addr} {b₀ : Int} {t₀ u₀ v₀ : Tok} {n : Nat} {m₀ : Str → Option Value} {nx : Led} (led : σ → Led) (adr : List Addr) (hadr : ∀ c, (led c).map (·.1) = adr) (Inv : Nat → Led → σ → Prop) (stored : List Str) (c₀ : σ)
    (hmono : ∀ i nx nx' c, Inv i nx c → (∀ q ∈ nx, q ∈ nx') → Inv i nx' c)
    (hfil : ∀ i nx c (I : Addr) (h : Heap) oI, Inv i nx c → News h₀ env.locals h nx → h.get? I = some oI → oI.cls = .type "range_iterator" → Inv i (nx.filter fun q => decide (q.1 ≠ I)) c)
    (hh : A.handled = none) (hr : IsRange s.heap r 0 b₀ 1 t₀ u₀ v₀) (hsmall : Builtin.Range.small 0 b₀ 1 = true) (hsz : Builtin.Range.rangeSize 0 b₀ 1 = (n : Int))
    (F : Fr h₀ env.locals s.heap m₀) (N : News h₀ env.locals s.heap (led c₀ ++ nx)) (hoff : ∀ q ∈ nx, ∀ b ∈ adr, q.1 ≠ b) (hI : Inv 0 nx c₀)
    (turn : ∀ i t (u : Str → Option Value) h tk nx' c, i < n → (∀ q ∈ nx, q ∈ nx') → (∀ q ∈ nx', ∀ b ∈ adr, q.1 ≠ b) → Inv i nx' c →
      Fr h₀ env.locals h (fun y => if y = x then some (.int (i : Nat) t) else if stored.contains y then u y else m₀ y) → News h₀ env.locals h (led c ++ nx') →
      wpAny (model prog w) A (execs body env) (GPost h₀ env.locals led (Inv (i + 1)) (fun m' => ∀ y, y ≠ x → stored.contains y = false → m' y = m₀ y) nx' { s with heap := h, toks := tk } Q) E { s with heap := h, toks := tk })
    (done : ∀ (u : Str → Option Value) h tk nx' c, (∀ q ∈ nx, q ∈ nx') → (∀ q ∈ nx', ∀ b ∈ adr, q.1 ≠ b) → Inv n nx' c →
      Fr h₀ env.locals h (fun y => if y = x then u y else if stored.contains y then u y else m₀ y) → News h₀ env.locals h (led c ++ nx') → Q .next { s with heap := h, toks := tk }) :
    wpAny (model prog w) A (pyIter (.ref r)) (fun it s₂ => LoopAtV prog w A h₀ env x body Q E it s₂) E s := by
  refine wpAny_pyIter_range hr hsmall ?_
  have hL0 : env.locals ≠ s.heap.objs.size := Nat.ne_of_lt F.ns.lt
  have W : Walks prog w A s.heap.objs.size [s.heap.objs.size] [s.heap.objs.size] n (fun i v => i < n ∧ ∃ t, v = .int ((0 : Int) + i * 1) t)
      (fun i h => IsRangeIter h s.heap.objs.size ((0 : Int) + (i : Nat) * 1) ((n : Int) - (i : Nat)) 1) := (Walks.range hh _ 0 1 n).bound
  have frm : ∀ (m₁ : Str → Option Value), (∀ y, y ≠ x → stored.contains y = false → m₁ y = m₀ y) → ∀ v : Value, (fun y => if y = x then some v else m₁ y) = fun y => if y = x then some v else if stored.contains y then m₁ y else m₀ y := by
    intro m₁ h v
    funext y
    by_cases h1 : y = x
    · simp [h1]
    · by_cases h2 : stored.contains y = true
      · simp only [if_neg h1, if_pos h2]
      · simp only [if_neg h1, if_neg h2]; exact h y h1 (by simpa using h2)
  refine ⟨_, _, _, n, _, _, m₀, led c₀ ++ nx, fun i m nn => ∃ c tl, nn = led c ++ tl ∧ (∀ q ∈ nx, q ∈ tl) ∧ (∀ q ∈ tl, ∀ b ∈ adr, q.1 ≠ b) ∧ Inv i tl c ∧ ∀ y, y ≠ x → stored.contains y = false → m y = m₀ y, rfl, W, ?_, ?_, ?_,
    (by show IsRangeIter _ _ _ _ _; rw [hsz]; simpa using Heap.get?_push_size _ rfl), F.push _, (fun p hp => ⟨Heap.get?_push_of_some _ (N p hp).1, (N p hp).2⟩), ⟨c₀, nx, rfl, fun _ h => h, hoff, hI, fun _ _ _ => rfl⟩, ?_, ?_⟩
  · intro hm; exact hL0 (List.mem_singleton.mp hm)
  · intro b hb; rw [List.mem_singleton.mp hb]; exact next_is_new F
  · intro p hp hI'; exact absurd (Heap.lt_size (N p hp).1) ((List.mem_singleton.mp hI') ▸ Nat.lt_irrefl _)
  · rintro i v m₁ news₁ s₁ own ⟨hh', tk', rfl⟩ hin ⟨_, t, rfl⟩ ⟨c, tl, rfl, hsub, hofft, hInv, hfix⟩ hoffw hown hget hfp hst F₁ N₁
    have hI0 : h₀.get? s.heap.objs.size = none := next_is_new F
    obtain ⟨oI, hoI, hcI⟩ : ∃ oI, hh'.get? s.heap.objs.size = some oI ∧ oI.cls = .type "range_iterator" := ⟨_, hst, rfl⟩
    have hIown : (s.heap.objs.size, oI) ∈ own := hfp _ (List.mem_singleton.mpr rfl) hI0 _ hoI
    have ownI : ∀ p ∈ own, p.1 = s.heap.objs.size := fun p hp => List.mem_singleton.mp (hown p hp)
    have ledI : ∀ b ∈ adr, b ≠ s.heap.objs.size := fun b hb e => by
      rw [← hadr c] at hb
      obtain ⟨q, hq, rfl⟩ := List.mem_map.mp hb
      exact hoffw q (List.mem_append.mpr (.inl hq)) (List.mem_singleton.mpr e)
    have e1 : (0 : Int) + (i : Nat) * 1 = (i : Nat) := by omega
    rw [e1, frm m₁ hfix] at F₁
    have N₂ : News h₀ env.locals hh' (led c ++ (tl ++ own)) := fun p hp => N₁ p (by
      rcases List.mem_append.mp hp with hp | hp
      · exact List.mem_append.mpr (.inr (List.mem_append.mpr (.inl hp)))
      · rcases List.mem_append.mp hp with hp | hp
        · exact List.mem_append.mpr (.inr (List.mem_append.mpr (.inr hp)))
        · exact List.mem_append.mpr (.inl hp))
    refine wpAny_mono (turn i t m₁ hh' tk' (tl ++ own) c hin (fun q hq => List.mem_append.mpr (.inl (hsub q hq))) ?_ (hmono _ _ _ _ hInv fun q hq => List.mem_append.mpr (.inl hq)) F₁ N₂) (fun f s₂ p => ?_) fun _ _ e => e
    · intro q hq b hb
      rcases List.mem_append.mp hq with hq | hq
      · exact hofft q hq b hb
      · rw [ownI q hq]; exact fun e => ledI b hb e.symm
    have fin : GEnd h₀ env.locals led (Inv (i + 1)) (fun m' => ∀ y, y ≠ x → stored.contains y = false → m' y = m₀ y) (tl ++ own) { s with heap := hh', toks := tk' } s₂ →
        LoopStepU h₀ env.locals [s.heap.objs.size] own (fun m nn => ∃ c tl, nn = led c ++ tl ∧ (∀ q ∈ nx, q ∈ tl) ∧ (∀ q ∈ tl, ∀ b ∈ adr, q.1 ≠ b) ∧ Inv (i + 1) tl c ∧ ∀ y, y ≠ x → stored.contains y = false → m y = m₀ y) { s with heap := hh', toks := tk' } .next s₂ := by
      rintro ⟨h', tk, m', c', nx'', e, F', N', hs', ho', hI', hf'⟩
      have ownIn : ∀ p ∈ own, p ∈ nx'' := fun p hp => hs' p (List.mem_append.mpr (.inr hp))
      have hI2 : h'.get? s.heap.objs.size = some oI := (N' _ (List.mem_append.mpr (.inr (ownIn _ hIown)))).1
      have Nx : News h₀ env.locals h' nx'' := fun p hp => N' p (List.mem_append.mpr (.inr hp))
      refine ⟨rfl, h', tk, m', led c' ++ nx''.filter (fun q => decide (q.1 ≠ s.heap.objs.size)), e, F', ?_, ?_, c', _, rfl, ?_, ?_, hfil _ _ _ _ _ _ hI' Nx hI2 hcI, hf'⟩
      · intro p hp
        rcases List.mem_append.mp hp with hp | hp
        · exact Nx p (ownIn p hp)
        · rcases List.mem_append.mp hp with hp | hp
          · exact N' p (List.mem_append.mpr (.inl hp))
          · exact Nx p (List.mem_filter.mp hp).1
      · intro p hp hpI
        rcases List.mem_append.mp hp with hp | hp
        · exact ledI p.1 (by rw [← hadr c']; exact List.mem_map.mpr ⟨p, hp, rfl⟩) (List.mem_singleton.mp hpI)
        · exact (of_decide_eq_true (List.mem_filter.mp hp).2) (List.mem_singleton.mp hpI)
      · intro q hq
        refine List.mem_filter.mpr ⟨hs' q (List.mem_append.mpr (.inl (hsub q hq))), decide_eq_true fun e => ?_⟩
        exact absurd (Heap.lt_size (N q (List.mem_append.mpr (.inr hq))).1) (by rw [e]; exact Nat.lt_irrefl _)
      · intro q hq b hb
        exact ho' q (List.mem_filter.mp hq).1 b (by rw [hadr]; exact hb)
    cases f with
    | ret v => exact .ret p
    | brk => exact .brk p
    | next => exact .next (fin p)
    | cont => exact .cont (fin p)
  · rintro h' tk m' news' F' N' _ ⟨c, tl, rfl, hsub, hofft, hInv, hfix⟩
    refine done m' h' tk tl c hsub hofft hInv ?_ N'
    have e : (fun y => if y = x then m' y else if stored.contains y then m' y else m₀ y) = m' := by
      funext y
      by_cases h1 : y = x
      · simp [h1]
      · by_cases h2 : stored.contains y = true
        · simp only [if_neg h1, if_pos h2]
        · simp only [if_neg h1, if_neg h2]; exact (hfix y h1 (by simpa using h2)).symm
    rw [e]; exact F'
end
end Mine
end
section
open PySem PySem.W PyProof.Rows
namespace Mine
theorem allLt_mem {d : Addr} {l : Led} (h : AllLt d l) : ∀ p ∈ l, @LT.lt Nat _ p.1 d := by
  induction l with
  | nil => intro p hp; cases hp
  | cons a r ih =>
    intro p hp
    have h1 : @LT.lt Nat _ a.1 d ∧ AllLt d r := h
    rcases List.mem_cons.mp hp with e | hp
    · rw [e]; exact h1.1
    · exact ih h1.2 p hp
theorem cont_tail {a y : Str} {l : List Str} (h : (a :: l).contains y = false) : l.contains y = false := by
  rw [List.contains_cons] at h; exact (Bool.or_eq_false_iff.mp h).2
def FEnd (h₀ : Heap) (L D : Addr) (spec : List Dat) (fix : (Str → Option Value) → Prop) (nx' : Led) (s₁ s₂ : Shared) : Prop :=
  ∃ h' tk m' vs k nx'', s₂ = { s₁ with heap := h', toks := tk } ∧ Fr h₀ L h' m' ∧ News h₀ L h' ((D, listOf vs.toArray k) :: nx'') ∧ (∀ q ∈ nx', q ∈ nx'') ∧ (∀ q ∈ nx'', q.1 ≠ D) ∧ DatAll nx'' vs spec ∧ fix m'
def FPost (h₀ : Heap) (L D : Addr) (spec : List Dat) (fix : (Str → Option Value) → Prop) (nx' : Led) (s₁ : Shared) (Q : Flow → Shared → Prop) (f : Flow) (s₂ : Shared) : Prop :=
  match f with
  | .ret v => Q (.ret v) s₂
  | .brk => Q .next s₂
  | _ => FEnd h₀ L D spec fix nx' s₁ s₂
theorem FPost.next {h₀ : Heap} {L D : Addr} {spec : List Dat} {fix : (Str → Option Value) → Prop} {nx' : Led} {s₁ : Shared} {Q : Flow → Shared → Prop} {h' : Heap} {tk : Nat} {m' : Str → Option Value} {all : Led} (nx'' : Led) {vs : List Value} {k : Nat} (F : Fr h₀ L h' m') (N : News h₀ L h' all) (hm : ∀ q ∈ (D, listOf vs.toArray k) :: nx'', q ∈ all)
    (hs : ∀ q ∈ nx', q ∈ nx'') (ho : ∀ q ∈ nx'', q.1 ≠ D) (hd : DatAll nx'' vs spec) (hf : fix m') : FPost h₀ L D spec fix nx' s₁ Q .next { s₁ with heap := h', toks := tk } :=
  ⟨h', tk, m', vs, k, nx'', rfl, F, fun p hp => N p (hm p hp), hs, ho, hd, hf⟩
theorem d4_in {nx : Led} {T : Addr} {n : Nat} {a b c d : Int} {ta tb tc td : Tok} (h : (T, ({ cls := .type "tuple", data := .seq #[.int a ta, .int b tb, .int c tc, .int d td] n } : Obj)) ∈ nx) : DatIn nx (.ref T) (d4 a b c d) :=
  .tuple (vs := [.int a ta, .int b tb, .int c tc, .int d td]) h (.cons (.int a ta) (.cons (.int b tb) (.cons (.int c tc) (.cons (.int d td) .nil))))
theorem FPost.push {h₀ : Heap} {L D T T2 : Addr} {o2 : Obj} {spec ds : List Dat} {fix : (Str → Option Value) → Prop} {nx' nx : Led} {s₁ : Shared} {Q : Flow → Shared → Prop} {h' : Heap} {tk n k : Nat} {m' : Str → Option Value} {vs : List Value} {a b c d : Int} {ta tb tc td : Tok}
    (F : Fr h₀ L h' m') (N : News h₀ L h' ((T, { cls := .type "tuple", data := .seq #[.int a ta, .int b tb, .int c tc, .int d td] n }) :: (T2, o2) :: (D, listOf (vs.toArray.push (.ref T)) k) :: nx)) (hT : @LT.lt Nat _ D T) (hT2 : @LT.lt Nat _ D T2)
    (hs : ∀ q ∈ nx', q ∈ nx) (ho : ∀ q ∈ nx, q.1 ≠ D) (hd : DatAll nx vs ds) (he : spec = ds ++ [d4 a b c d]) (hf : fix m') : FPost h₀ L D spec fix nx' s₁ Q .next { s₁ with heap := h', toks := tk } := by
  subst he
  refine FPost.next (vs := vs ++ [.ref T]) (k := k) ((T, { cls := .type "tuple", data := .seq #[.int a ta, .int b tb, .int c tc, .int d td] n }) :: (T2, o2) :: nx) F N ?_ (fun q hq => .tail _ (.tail _ (hs q hq))) ?_ ?_ hf
  · intro q hq
    rcases List.mem_cons.mp hq with rfl | hq
    · rw [List.push_toArray]; exact .tail _ (.tail _ (.head _))
    · rcases List.mem_cons.mp hq with rfl | hq
      · exact .head _
      · rcases List.mem_cons.mp hq with rfl | hq
        · exact .tail _ (.head _)
        · exact .tail _ (.tail _ (.tail _ hq))
  · intro q hq
    rcases List.mem_cons.mp hq with rfl | hq
    · exact Nat.ne_of_gt hT
    · rcases List.mem_cons.mp hq with rfl | hq
      · exact Nat.ne_of_gt hT2
      · exact ho q hq
  · exact DatAll.append (DatAll.mono (fun q hq => .tail _ (.tail _ hq)) hd) (DatAll.one (d4_in (.head _)))
section
variable {prog : Program} {w : World} {A : Around} {E : Value → Shared → Prop} {s : Shared} {env : Env} {h₀ : Heap} {x : Str} {body : List Stmt} {Q : Flow → Shared → Prop}
theorem fill_loop {D r : Addr} {vs : List Value} {k : Nat} {b₀ : Int} {t₀ u₀ v₀ : Tok} {n : Nat} {m₀ : Str → Option Value} {nx : Led} (spec : Nat → List Dat) (stored : List Str)
    (hh : A.handled = none) (hr : IsRange s.heap r 0 b₀ 1 t₀ u₀ v₀) (hsmall : Builtin.Range.small 0 b₀ 1 = true) (hsz : Builtin.Range.rangeSize 0 b₀ 1 = (n : Int))
    (F : Fr h₀ env.locals s.heap m₀) (N : News h₀ env.locals s.heap ((D, listOf vs.toArray k) :: nx)) (hoff : ∀ q ∈ nx, q.1 ≠ D) (hd : DatAll nx vs (spec 0))
    (turn : ∀ i t (u : Str → Option Value) h tk nx' vs' k', i < n → (∀ q ∈ nx, q ∈ nx') → (∀ q ∈ nx', q.1 ≠ D) → DatAll nx' vs' (spec i) →
      Fr h₀ env.locals h (fun y => if y = x then some (.int (i : Nat) t) else if stored.contains y then u y else m₀ y) → News h₀ env.locals h ((D, listOf vs'.toArray k') :: nx') →
      wpAny (model prog w) A (execs body env) (FPost h₀ env.locals D (spec (i + 1)) (fun m' => ∀ y, y ≠ x → stored.contains y = false → m' y = m₀ y) nx' { s with heap := h, toks := tk } Q) E { s with heap := h, toks := tk })
    (done : ∀ (u : Str → Option Value) h tk nx' vs' k', (∀ q ∈ nx, q ∈ nx') → (∀ q ∈ nx', q.1 ≠ D) → DatAll nx' vs' (spec n) →
      Fr h₀ env.locals h (fun y => if y = x then u y else if stored.contains y then u y else m₀ y) → News h₀ env.locals h ((D, listOf vs'.toArray k') :: nx') → Q .next { s with heap := h, toks := tk }) :
    wpAny (model prog w) A (pyIter (.ref r)) (fun it s₂ => LoopAtV prog w A h₀ env x body Q E it s₂) E s := by
  refine gen_loop (σ := List Value × Nat) (nx := nx) (fun c => [(D, listOf c.1.toArray c.2)]) [D] (fun _ => rfl) (fun i nn c => DatAll nn c.1 (spec i)) stored (vs, k) (fun i a b c h hs => DatAll.mono hs h)
    (fun i nn c I h oI hd N hI hc => datAll_fil N hI (by rw [hc]; decide) (by rw [hc]; decide) hd) hh hr hsmall hsz F N (fun q hq b hb => by rw [List.mem_singleton.mp hb]; exact hoff q hq) hd ?_ ?_
  · rintro i t u h tk nx' ⟨vs', k'⟩ hi hs ho hI F' N'
    refine wpAny_mono (turn i t u h tk nx' vs' k' hi hs (fun q hq => ho q hq D (List.mem_singleton.mpr rfl)) hI F' N') (fun f s₂ p => ?_) fun _ _ e => e
    have fin : FEnd h₀ env.locals D (spec (i + 1)) (fun m' => ∀ y, y ≠ x → stored.contains y = false → m' y = m₀ y) nx' { s with heap := h, toks := tk } s₂ → GEnd h₀ env.locals (fun c : List Value × Nat => [(D, listOf c.1.toArray c.2)]) (fun nn c => DatAll nn c.1 (spec (i + 1))) (fun m' => ∀ y, y ≠ x → stored.contains y = false → m' y = m₀ y) nx' { s with heap := h, toks := tk } s₂ := by
      rintro ⟨h', tk, m', vs, k, nx'', e, F', N', hs, ho, hd, hf⟩
      exact ⟨h', tk, m', (vs, k), nx'', e, F', N', hs, (fun q hq b hb => by rw [List.mem_singleton.mp hb]; exact ho q hq), hd, hf⟩
    cases f with
    | ret v => exact p
    | brk => exact p
    | next => exact fin p
    | cont => exact fin p
  · rintro u h tk nx' ⟨vs', k'⟩ hs ho hI F' N'
    exact done u h tk nx' vs' k' hs (fun q hq => ho q hq D (List.mem_singleton.mpr rfl)) hI F' N'
end
section
variable {prog : Program} {w : World} {A : Around} {E : Value → Shared → Prop} {s : Shared} {h₀ : Heap} {L : Addr}
theorem item_led {l : Addr} {vs : List Value} {k : Int} {n : Nat} {t : Tok} {v : Value} {nx : Led} {value slice : PySem.Expr} {Q : Value → Shared → Prop} (N : News h₀ L s.heap nx) (hm : (l, listOf vs.toArray n) ∈ nx)
    (h0 : 0 ≤ k) (hhi : k < 2 ^ 63) (hx : vs[k.toNat]? = some v) (h : Q v s)
    (hs : subscripted slice false (.ref l) (.int k t) = operate [.ref l, .int k t] (getItem (.ref l) (.int k t)) := by with_unfolding_all rfl) :
    wpAny (model prog w) A (subscriptTail value slice (.ref l) (.int k t)) Q E s := by
  have hl : s.heap.IsList l vs.toArray := ⟨_, (N _ hm).1, rfl, n, rfl⟩
  exact tail_any hl.typeIs slot_list_getitem.lookup (wpAny_getItem_list hl h0 hhi (by simpa using hx) h) hs
end
end Mine
end
section
open PySem PySem.W PyProof.Rows
set_option maxRecDepth 100000
set_option maxHeartbeats 8000000
namespace Mine
local macro_rules | `(tactic| k_all) => `(tactic| assumption)
local macro_rules | `(tactic| k_mem) => `(tactic| ((repeat (first | exact List.mem_cons_self | ktr_member | refine List.mem_cons_of_mem _ ?_)); done))
local macro_rules | `(tactic| is_list) => `(tactic| exact News.isList (by k_asm) (by k_mem))
local macro_rules | `(tactic| size_fits) => `(tactic| (rw [List.size_toArray, sizeLine_eq]; omega))
local macro_rules | `(tactic| k_room) => `(tactic| ktr_room)
local macro_rules | `(tactic| k_units) => `(tactic| ktr_units)
local macro_rules | `(tactic| walk_at "call type:range") => `(tactic| ((with_reducible show wpAny _ _ (PySem.call _ [_]) _ _ _); (rename Fr _ _ _ _ => F'); (rename News _ _ _ _ => N'); (with_unfolding_all refine range1_rows F' N' ?_); intro _ _ _ _ _ _ _ _ _))
local macro_rules | `(tactic| walk_at "pyIter ref") => `(tactic| ((with_reducible show wpAny _ _ (pyIter (Value.ref _)) (fun it s₂ => LoopAtV _ _ _ _ _ _ _ _ _ it s₂) _ _); refine Hold.out ?_))
local macro_rules | `(tactic| walk_at "call builtin:list.append") => `(tactic| (k_here; (show wpAny _ _ (PySem.call (Value.builtin _) [Value.ref _, _]) _ _ _); k_dflt (refine' append_K ?k1 ?k2 ?k3 ?_ ?z; (case k1 => k_asm); (case k2 => k_asm); (case k3 => k_upd); (case z => size_fits); k_whole); intro h' F' N'; (try k_sweep)))
local macro_rules | `(tactic| walk_at "subscriptTail") => `(tactic| (k_here; (with_reducible show wpAny _ _ (subscriptTail _ _ (Value.ref _) (Value.int _ _)) _ _ _); k_dflt (refine' item_led ?k1 ?k2 ?k3 ?k4 ?k5 ?_); (case k1 => k_asm); (case k2 => k_mem); (case k5 => assumption); (case k3 => omega); (case k4 => omega)))
theorem unit_tells : ∀ {w : World} {mean : ExcName → Option Value} {mg mb : Str → Option Value} (dp un : Nat) (gd : Option (List Code)) (cn : Str) (cs : Scope) (a : Addr) (ccd : Value) (cl : List (Str × Addr)) (outer : List Env) (A₀ : Around) (base h₀ : Heap) (L : Addr) (m : Str → Option Value) (s : Shared) (Q E : Value → Shared → Prop)
  (FR CL SC PL : Addr) (cvs pvs : List Value) (kc kp : Nat) (sz : List (Int × Int)) (ps : List Int) (x y : Int) (tx ty : Tok) (nx : Led) (_ : Below A₀ base outer h₀) (_ : Fr h₀ L s.heap m) (_ : (hd.heap_39 w.params).In h₀) (_ : News h₀ L s.heap nx) (_ : Top hd.view_39 (looseW hd.view_39 []) mean mg mb h₀) (_ : cs.kind = .function)
  (_ : FrameIn w.params nx FR CL) (_ : (CL, listOf cvs.toArray kc) ∈ nx) (_ : CompAll w.params nx cvs sz) (_ : ScanIn w.params nx SC PL) (_ : (PL, listOf pvs.toArray kp) ∈ nx) (_ : IntsAre pvs ps) (_ : ∀ p ∈ ps, 0 ≤ p ∧ p < sz.length) (_ : 1 ≤ ps.length) (_ : ps.length ≤ 3) (_ : SzOk sz) (_ : sz.length ≤ 3)
  (_ : 0 ≤ x) (_ : x < 3) (_ : 0 ≤ y) (_ : y < 3) (_ : dp + 2 < recursionLimit) (_ : un + 16 < cLine)
  (_ : ∀ D vs k nx' h' tk', (∀ q ∈ nx, q ∈ nx') → (∀ q ∈ nx', q.1 ≠ D) → DatAll nx' vs (if ps.length = 1 then [d4 0 (ps.getD 0 0) x y] else unitN sz ps x y ps.length) → Fr h₀ L h' m → News h₀ L h' ((D, listOf vs.toArray k) :: nx') → Q (.ref D) { s with heap := h', toks := tk' }),
  wpAny (model PySem.Challenge.rw_xm0814_01.row.prog w) (ktrTop dp un gd cn cs L a ccd cl outer) (call (.ref 28) [.ref FR, .ref SC, .int x tx, .int y ty]) Q E s := by
  k_fill
  intro w mean mg mb dp un gd cn cs a ccd cl outer A₀ base h₀ L m s Q E FR CL SC PL cvs pvs kc kp sz ps x y tx ty nx B F X N T hk hFR hCL hcv hSC hPL hpv hps hp1 hp3 hsz hsz3 hx hx3 hy hy3 hd hu hret
  w_on
  obtain ⟨fd, f1, f2, f3, f4, f5, f6, fv1, fv2, fv3, fv4, fv6, hFR1, hFR2⟩ := hFR
  obtain ⟨sd, s1, s2, s3, s4, s5, s6, s7, sv2, sv3, sv4, sv5, sv6, sv7, hSC1, hSC2⟩ := hSC
  refine wpAny_call ?_
  w_strict (k_dflt ktr_enter)
  k_steps
  · rename News h₀ _ _ _ => N9
    rename Fr h₀ _ _ _ => F9
    rename (ps.length : Int) = 1 => hone
    refine hret _ [.ref _] 0 _ _ _ (fun q hq => .tail _ hq) ?_ (by rw [if_pos (by omega)]; exact DatAll.one (d4_in (.head _))) F9 N9
    intro q hq
    rcases List.mem_cons.mp hq with rfl | hq
    · k_ne
    · rename _ ∧ AllLt _ nx => hl9
      exact Nat.ne_of_lt (allLt_mem hl9.2 q hq)
  · refine Hold.mk ?_
    rename Fr _ _ _ _ => F9
    rename News _ _ _ _ => N9
    rename IsRange _ _ _ _ _ _ _ _ => R9
    rename ∀ p ∈ nx, p.1 < _ => l9
    refine fill_loop (unitN sz ps x y) [Str.ofString "component", Str.ofString "down", Str.ofString "across", Str.ofString "spot"] (by rfl) R9 (small_one (by omega) (by omega) (by omega) (by omega)) (rangeSize_nat _ _) F9 N9 (fun q hq => Nat.ne_of_lt (l9 q hq)) DatAll.nil ?_ ?_
    · intro i t u h tk nx' vs' k' hi hsub hoff' hd' F' N'
      clear F9 N9 R9
      have hi' : i < ps.length := by omega
      have hpi := hps (ps[i]) (List.getElem_mem hi')
      have hpe : ps.getD ((i : Nat) : Int).toNat 0 = ps[i] := by simp [List.getD_eq_getElem?_getD, hi']
      rw [← hpe] at hpi
      obtain ⟨hp0, hpL⟩ := hpi
      obtain ⟨v, W, H, hv, hz, hzm, hcomp⟩ := hcv.look (k := (ps.getD ((i : Nat) : Int).toNat 0).toNat) (by omega)
      obtain ⟨hW1, hW4, hH1, hH4⟩ := hsz _ hzm
      dsimp only at hW1 hW4 hH1 hH4
      obtain ⟨X, cd, t1, t2, t3, t4, tW, tH, vi, vq, rfl, hX, hXd⟩ := hcomp
      have hSC1' := hsub _ hSC1
      have hSC2' := hsub _ hSC2
      have hFR1' := hsub _ hFR1
      have hFR2' := hsub _ hFR2
      have hCL' := hsub _ hCL
      have hPL' := hsub _ hPL
      have hX' := hsub _ hX
      have hXd' := hsub _ hXd
      k_steps
      refine Hold.mk ?_
      rename Fr _ _ _ _ => F9
      rename News _ _ _ _ => N9
      rename IsRange _ _ _ _ _ _ _ _ => R9
      refine fill_loop (fun d => unitN sz ps x y i ++ blkD (i : Nat) (ps.getD ((i : Nat) : Int).toNat 0) (x * W) (y * H) W.toNat d) [Str.ofString "across", Str.ofString "spot"] (by rfl) R9 (small_one (by omega) (by omega) (by omega) (by omega)) (rangeSize_nat _ _) F9 N9 hoff' (by simpa [blkD] using hd') ?_ ?_
      · intro d td ud hh2 tk2 nx2 vs2 k2 hd2 hsub2 hoff2 hdat2 F2 N2
        clear F9 N9 R9
        have hSC1'' := hsub2 _ hSC1'
        have hSC2'' := hsub2 _ hSC2'
        have hPL'' := hsub2 _ hPL'
        have hX'' := hsub2 _ hX'
        have hXd'' := hsub2 _ hXd'
        k_steps
        refine Hold.mk ?_
        rename Fr _ _ _ _ => F9
        rename News _ _ _ _ => N9
        rename IsRange _ _ _ _ _ _ _ _ => R9
        refine fill_loop (fun a => (unitN sz ps x y i ++ blkD (i : Nat) (ps.getD ((i : Nat) : Int).toNat 0) (x * W) (y * H) W.toNat d) ++ rowD (i : Nat) (ps.getD ((i : Nat) : Int).toNat 0) (x * W) (y * H + (d : Nat)) a) [Str.ofString "spot"] (by rfl) R9 (small_one (by omega) (by omega) (by omega) (by omega)) (rangeSize_nat _ _) F9 N9 hoff2 (by simpa [rowD] using hdat2) ?_ ?_
        · intro a3 ta3 ua3 hh3 tk3 nx3 vs3 k3 hd3 hsub3 hoff3 hdat3 F3 N3
          clear F9 N9 R9
          have hSC1' := hsub3 _ hSC1''
          have hSC2' := hsub3 _ hSC2''
          have hPL' := hsub3 _ hPL''
          have hX' := hsub3 _ hX''
          have hXd' := hsub3 _ hXd''
          have hlen : vs3.length ≤ 1000 := by
            have e1 := hdat3.length
            rw [List.length_append, List.length_append, blkD_length, rowD_length] at e1
            have e2 := unitN_length_le hsz ps x y i
            have e3 := mul_le16 (a := d) (b := W.toNat) (by omega) (by omega)
            omega
          k_steps
          rename Fr _ _ _ _ => F9
          rename News _ _ _ _ => N9
          refine FPost.push F9 N9 (by omega) (by omega) (fun _ h => h) hoff3 hdat3 (by rw [rowD_succ, List.append_assoc, List.append_assoc, List.append_assoc]) ?_
          intro y h1 h2
          have h3 : ¬ y = Str.ofString "spot" := by rintro rfl; exact absurd h2 (by decide)
          dsimp only
          rw [if_neg h3, if_neg h1, h2, if_neg Bool.false_ne_true]
        · intro u3 hh3 tk3 nx3 vs3 k3 hsub3 hoff3 hdat3 F3 N3
          clear F9 N9 R9
          k_steps
          rw [Int.sub_zero] at hdat3
          refine FPost.next nx3 F3 N3 (fun _ h => h) (fun q hq => hsub3 _ hq) hoff3 (by rw [blkD_succ, ← List.append_assoc]; exact hdat3) ?_
          intro y h1 h2
          have h3 : ¬ y = Str.ofString "across" := by rintro rfl; exact absurd h2 (by decide)
          dsimp only
          rw [if_neg h3, cont_tail h2, if_neg Bool.false_ne_true, if_neg h1, h2, if_neg Bool.false_ne_true]
      · intro u2 hh2 tk2 nx2 vs2 k2 hsub2 hoff2 hdat2 F2 N2
        clear F9 N9 R9
        k_steps
        rw [Int.sub_zero] at hdat2
        refine FPost.next nx2 F2 N2 (fun _ h => h) (fun q hq => hsub2 _ hq) hoff2 (by rw [unitN_succ]; rw [show sz.getD (ps.getD i 0).toNat (1, 1) = (W, H) from hz]; exact hdat2) ?_
        intro y h1 h2
        have h3 : ¬ y = Str.ofString "down" := by rintro rfl; exact absurd h2 (by decide)
        have h4 : ¬ y = Str.ofString "component" := by rintro rfl; exact absurd h2 (by decide)
        dsimp only
        rw [if_neg h3, cont_tail (cont_tail h2), if_neg Bool.false_ne_true, if_neg h4, if_neg h1, h2, if_neg Bool.false_ne_true]
    · intro u h tk nx' vs' k' hsub hoff' hd' F' N'
      clear F9 N9 R9
      k_steps
      rename News h₀ _ _ _ => N9
      rename Fr h₀ _ _ _ => F9
      rename ¬ ((ps.length : Int) = 1) => hne
      rw [Int.sub_zero, Int.toNat_natCast] at hd'
      exact hret _ _ _ nx' _ _ hsub hoff' (by rw [if_neg (by omega)]; exact hd') F9 N9
end Mine
end
section
open PySem PySem.W PyProof.Rows
namespace Mine
def GrowEnd {σ : Type} (h₀ : Heap) (L : Addr) (m : Str → Option Value) (led : σ → Led) (Ok : σ → Prop) (R : Led → Value → Prop) (nx' : Led) (adr : List Addr) (I : Addr) (oI : Obj) (C : Addr) (oC : Obj) (D : Addr) (oD : Obj) (s₁ : Shared) (y : Value) (s₂ : Shared) : Prop :=
  ∃ h' tk c nx'', s₂ = { s₁ with heap := h', toks := tk } ∧ Fr h₀ L h' m ∧ News h₀ L h' ((I, oI) :: (C, oC) :: (D, oD) :: (led c ++ nx'')) ∧ (∀ q ∈ nx'', q.1 ≠ I ∧ q.1 ≠ C ∧ q.1 ≠ D) ∧ (∀ q ∈ nx', q ∈ nx'') ∧ (∀ q ∈ nx'', ∀ b ∈ adr, q.1 ≠ b) ∧ Ok c ∧ R nx'' y
section
variable {prog : Program} {w : World} {A : Around} {h₀ : Heap} {L : Addr} {m : Str → Option Value} {env : Env} {elt : PySem.Expr} {x : Str} {scope : Scope} {cl : List (Str × Addr)} {s : Shared} {S : Led → Prop} {P : Nat → Value → Prop} {Fin : List Value → Led → Prop}
theorem grow_rest {σ : Type} {n : Nat} {nx : Led} (led : σ → Led) (adr : List Addr) (hadr : ∀ c, (led c).map (·.1) = adr) (Ok : σ → Prop) (R : Nat → Led → Value → Prop) (c₀ : σ)
    (hmono : ∀ i nx nx' y, R i nx y → (∀ q ∈ nx, q ∈ nx') → R i nx' y) (hok : Ok c₀) (hoff : ∀ q ∈ nx, ∀ b ∈ adr, q.1 ≠ b) (hS : ∀ c nx', (∀ q ∈ nx, q ∈ nx') → S (led c ++ nx'))
    (turn : ∀ i v c ys nx' I oI C oC D m₂ h tk (E' : Value → Shared → Prop), i < n → P i v → Ok c → (∀ q ∈ nx, q ∈ nx') → (∀ q ∈ nx', ∀ b ∈ adr, q.1 ≠ b) → LCg.NsObj oC m₂ → m₂ x = some v → Fr h₀ L h m → News h₀ L h ((I, oI) :: (C, oC) :: (D, LCg.lst ys) :: (led c ++ nx')) →
      (∀ q ∈ nx', q.1 ≠ I ∧ q.1 ≠ C ∧ q.1 ≠ D) → (∀ b ∈ adr, b ≠ I ∧ b ≠ C ∧ b ≠ D) → ((@Ne Nat I C) ∧ (@Ne Nat I D) ∧ (@Ne Nat C D)) →
      wpAny (model prog w) A (eval elt (compEnvC scope cl C env)) (GrowEnd h₀ L m led Ok (R i) nx' adr I oI C oC D (LCg.lst ys) { s with heap := h, toks := tk }) E' { s with heap := h, toks := tk })
    (fin : ∀ ys c nx', Ok c → (∀ q ∈ nx, q ∈ nx') → (∀ q ∈ nx', ∀ b ∈ adr, q.1 ≠ b) → ys.length = n → (∀ i y, ys[i]? = some y → R i nx' y) → Fin ys (led c ++ nx')) :
    LCg.CompRest prog w A h₀ L m env elt x scope cl s S P Fin n 0 [] (led c₀ ++ nx) := by
  have key : ∀ (j i : Nat) (ys : List Value) (c : σ) (nx' : Led), i + j = n → ys.length = i → Ok c → (∀ q ∈ nx, q ∈ nx') → (∀ q ∈ nx', ∀ b ∈ adr, q.1 ≠ b) → (∀ i y, ys[i]? = some y → R i nx' y) →
      LCg.CompRest prog w A h₀ L m env elt x scope cl s S P Fin j i ys (led c ++ nx') := by
    intro j
    induction j with
    | zero =>
      intro i ys c nx' hi hy hok hs ho hR
      exact LCg.CompRest.zero (fin ys c nx' hok hs ho (by omega) hR)
    | succ j ih =>
      intro i ys c nx' hi hy hok hs ho hR
      refine LCg.CompRest.succ ?_
      intro v I oI C oC D m₂ h tk E' hv hC hx F N off ne
      have off' := off.mem
      have offA : ∀ b ∈ adr, b ≠ I ∧ b ≠ C ∧ b ≠ D := by
        intro b hb
        rw [← hadr c] at hb
        obtain ⟨q, hq, rfl⟩ := List.mem_map.mp hb
        exact off' q (List.mem_append.mpr (.inl hq))
      refine wpAny_mono (turn i v c ys nx' I oI C oC D m₂ h tk E' (by omega) hv hok hs ho hC hx F N (fun q hq => off' q (List.mem_append.mpr (.inr hq))) offA ne) (fun y s₂ hq => ?_) fun _ _ e => e
      obtain ⟨h', tk', c', nx'', e, F', N', off2, hs2, ho2, hok2, hR2⟩ := hq
      refine ⟨h', tk', led c' ++ nx'', e, F', N', LCg.Off3.of ?_, hS c' nx'' (fun q hq => hs2 q (hs q hq)), ih (i + 1) _ c' nx'' (by omega) (by rw [List.length_append, hy]; rfl) hok2 (fun q hq => hs2 q (hs q hq)) ho2 ?_⟩
      · intro p hp
        rcases List.mem_append.mp hp with hp | hp
        · exact offA p.1 (by rw [← hadr c']; exact List.mem_map.mpr ⟨p, hp, rfl⟩)
        · exact off2 p hp
      · intro k z hz
        rcases Nat.lt_or_ge k i with hk | hk
        · rw [List.getElem?_append_left (by omega)] at hz
          exact hmono _ _ _ _ (hR k z hz) hs2
        · rw [List.getElem?_append_right (by omega)] at hz
          have hk' : k = i := by
            rcases Nat.lt_or_ge i k with h1 | h1
            · rw [List.getElem?_eq_none (by simp; omega)] at hz; cases hz
            · omega
          subst hk'
          rw [hy, Nat.sub_self] at hz
          cases hz
          exact hR2
  exact key n 0 [] c₀ nx (by omega) rfl hok (fun _ h => h) hoff (by intro i y h; simp at h)
end
end Mine
end
section
open PySem PySem.W PyProof.Rows
namespace Mine
inductive Split : Led → Led → Led → Prop
  | done {nx : Led} : Split nx [] nx
  | cons {p : Addr × Obj} {r cs nx : Led} : Split r cs nx → Split (p :: r) (p :: cs) nx
theorem Split.eq {all cs nx : Led} (h : Split all cs nx) : all = cs ++ nx := by
  induction h with
  | done => rfl
  | cons _ ih => rw [ih]; rfl
/-- no object of the ledger stands at these addresses -/
def Apart (nx : Led) (adr : List Addr) : Prop := ∀ q ∈ nx, ∀ z ∈ adr, q.1 ≠ z
theorem Apart.at {nx : Led} {adr : List Addr} (h : Apart nx adr) {z : Addr} (hz : z ∈ adr) : ∀ q ∈ nx, q.1 ≠ z := fun q hq => h q hq z hz
theorem Apart.nil {adr : List Addr} : Apart [] adr := fun _ h => nomatch h
theorem Apart.more {nx : Led} {adr : List Addr} {z : Addr} (h : Apart nx adr) (hz : ∀ q ∈ nx, q.1 ≠ z) : Apart nx (z :: adr) := fun q hq y hy => by
  rcases List.mem_cons.mp hy with rfl | hy
  · exact hz q hq
  · exact h q hq y hy
theorem off1_mem {D : Addr} {l : Led} (h : LCg.Off1 D l) : ∀ p ∈ l, p.1 ≠ D := by
  induction l with
  | nil => intro p hp; cases hp
  | cons a r ih =>
    intro p hp
    have h1 : (@Ne Nat a.1 D) ∧ LCg.Off1 D r := h
    rcases List.mem_cons.mp hp with e | hp
    · rw [e]; exact h1.1
    · exact ih h1.2 p hp
theorem GrowEnd.add {σ : Type} {h₀ : Heap} {L : Addr} {m : Str → Option Value} {led : σ → Led} {Ok : σ → Prop} {R : Led → Value → Prop} {nx' : Led} {adr : List Addr} {I : Addr} {oI : Obj} {C : Addr} {oC : Obj} {D : Addr} {oD : Obj} {s₁ : Shared} {y : Value} {h' : Heap} {tk : Nat} (c : σ) (add : Led)
    (F : Fr h₀ L h' m) (N : News h₀ L h' (add ++ ((I, oI) :: (C, oC) :: (D, oD) :: (led c ++ nx')))) (hadr : (led c).map (·.1) = adr)
    (hadd : ∀ q ∈ add, ∀ p ∈ (I, oI) :: (C, oC) :: (D, oD) :: (led c ++ nx'), @LT.lt Nat _ p.1 q.1) (hoff : ∀ q ∈ nx', q.1 ≠ I ∧ q.1 ≠ C ∧ q.1 ≠ D) (ho : ∀ q ∈ nx', ∀ b ∈ adr, q.1 ≠ b) (hok : Ok c) (hR : R (add ++ nx') y) :
    GrowEnd h₀ L m led Ok R nx' adr I oI C oC D oD s₁ y { s₁ with heap := h', toks := tk } := by
  refine ⟨h', tk, c, add ++ nx', rfl, F, ?_, ?_, fun q hq => List.mem_append.mpr (.inr hq), ?_, hok, hR⟩
  · intro p hp
    refine N p ?_
    rcases List.mem_cons.mp hp with rfl | hp
    · exact List.mem_append.mpr (.inr (.head _))
    · rcases List.mem_cons.mp hp with rfl | hp
      · exact List.mem_append.mpr (.inr (.tail _ (.head _)))
      · rcases List.mem_cons.mp hp with rfl | hp
        · exact List.mem_append.mpr (.inr (.tail _ (.tail _ (.head _))))
        · rcases List.mem_append.mp hp with hp | hp
          · exact List.mem_append.mpr (.inr (.tail _ (.tail _ (.tail _ (List.mem_append.mpr (.inl hp))))))
          · rcases List.mem_append.mp hp with hp | hp
            · exact List.mem_append.mpr (.inl hp)
            · exact List.mem_append.mpr (.inr (.tail _ (.tail _ (.tail _ (List.mem_append.mpr (.inr hp))))))
  · intro q hq
    rcases List.mem_append.mp hq with hq | hq
    · exact ⟨Nat.ne_of_gt (hadd q hq _ (.head _)), Nat.ne_of_gt (hadd q hq _ (.tail _ (.head _))), Nat.ne_of_gt (hadd q hq _ (.tail _ (.tail _ (.head _))))⟩
    · exact hoff q hq
  · intro q hq b hb
    rcases List.mem_append.mp hq with hq | hq
    · rw [← hadr] at hb
      obtain ⟨p, hp, rfl⟩ := List.mem_map.mp hb
      exact Nat.ne_of_gt (hadd q hq p (.tail _ (.tail _ (.tail _ (List.mem_append.mpr (.inl hp))))))
    · exact ho q hq b hb
abbrev d2 (a b : Int) : Dat := .tuple [.int a, .int b]
def sidesD (sz : List (Int × Int)) : List Dat := sz.map fun z => d2 z.1 z.2
theorem d2_in {nx : Led} {T : Addr} {n : Nat} {a b : Int} {ta tb : Tok} (h : (T, ({ cls := .type "tuple", data := .seq #[.int a ta, .int b tb] n } : Obj)) ∈ nx) : DatIn nx (.ref T) (d2 a b) :=
  .tuple (vs := [.int a ta, .int b tb]) h (.cons (.int a ta) (.cons (.int b tb) .nil))
theorem sides_of {nx : Led} : ∀ (ys : List Value), (∀ (i : Nat) y, ys[i]? = some y → ∃ W H : Int, (1 ≤ W ∧ W ≤ 4 ∧ 1 ≤ H ∧ H ≤ 4) ∧ DatIn nx y (d2 W H)) → ∃ sz, sz.length = ys.length ∧ SzOk sz ∧ DatAll nx ys (sidesD sz)
  | [], _ => ⟨[], rfl, (fun _ h => (nomatch h)), .nil⟩
  | y :: ys, h => by
    obtain ⟨sz, h1, h2, h3⟩ := sides_of ys fun i z hz => h (i + 1) z (by simpa using hz)
    obtain ⟨W, H, hb, hd⟩ := h 0 y rfl
    refine ⟨(W, H) :: sz, by simp [h1], ?_, .cons hd h3⟩
    intro z hz
    rcases List.mem_cons.mp hz with rfl | hz
    · exact hb
    · exact h2 z hz
theorem comps_of {P : Params} {nx : Led} : ∀ (ys : List Value) (sz : List (Int × Int)), ys.length = sz.length → (∀ (i : Nat) y, ys[i]? = some y → CompIn P nx y (sz.getD i (1, 1)).1 (sz.getD i (1, 1)).2) → CompAll P nx ys sz
  | [], [], _, _ => .nil
  | [], _ :: _, h, _ => nomatch h
  | _ :: _, [], h, _ => nomatch h
  | y :: ys, z :: sz, hl, h => .cons (by simpa using h 0 y rfl) (comps_of ys sz (by simpa using hl) fun i w hw => by simpa using h (i + 1) w (by simpa using hw))
theorem dats_of {nx : Led} : ∀ (ys : List Value) (ds : List Dat), ys.length = ds.length → (∀ (i : Nat) y, ys[i]? = some y → ∃ d, ds[i]? = some d ∧ DatIn nx y d) → DatAll nx ys ds
  | [], [], _, _ => .nil
  | [], _ :: _, h, _ => nomatch h
  | _ :: _, [], h, _ => nomatch h
  | y :: ys, z :: ds, hl, h => by
    obtain ⟨d, e, hd⟩ := h 0 y rfl
    cases (Option.some.inj e)
    exact .cons hd (dats_of ys ds (by simpa using hl) fun i w hw => by simpa using h (i + 1) w (by simpa using hw))
/-- the state of a hedge -/
structure Hg where
  (a b : Int) (ta tb : Tok)
abbrev Hg.obj (c : Hg) (k : Nat) : Obj := listOf #[.int c.a c.ta, .int c.b c.tb] k
def Hg.Ok (c : Hg) : Prop := 0 ≤ c.a ∧ 0 ≤ c.b ∧ c.b < 70000
abbrev SideR (nn : Led) (y : Value) : Prop := ∃ W H : Int, (1 ≤ W ∧ W ≤ 4 ∧ 1 ≤ H ∧ H ≤ 4) ∧ DatIn nn y (d2 W H)
theorem sides_end {h₀ : Heap} {L : Addr} {m : Str → Option Value} {nx' cs rest : Led} {H T I : Addr} {oI : Obj} {C : Addr} {oC : Obj} {D : Addr} {oD : Obj} {s₁ : Shared} {h' : Heap} {tk k n : Nat} {a b W Hh : Int} {ta tb tW tH : Tok}
    (F : Fr h₀ L h' m) (N : News h₀ L h' ((T, { cls := .type "tuple", data := .seq #[.int W tW, .int Hh tH] n }) :: (I, oI) :: (C, oC) :: (D, oD) :: (H, listOf #[.int a ta, .int b tb] k) :: rest)) (hr : rest = cs ++ nx')
    (hT : AllLt T ((I, oI) :: (C, oC) :: (D, oD) :: (H, listOf #[.int a ta, .int b tb] k) :: rest)) (hoff : ∀ q ∈ nx', q.1 ≠ I ∧ q.1 ≠ C ∧ q.1 ≠ D) (ho : Apart nx' (H :: cs.map (·.1)))
    (h1 : 0 ≤ a) (h2 : 0 ≤ b) (h3 : b < 70000) (hw : 1 ≤ W ∧ W ≤ 4 ∧ 1 ≤ Hh ∧ Hh ≤ 4) :
    GrowEnd h₀ L m (fun c : Hg => (H, c.obj k) :: cs) Hg.Ok SideR nx' (H :: cs.map (·.1)) I oI C oC D oD s₁ (.ref T) { s₁ with heap := h', toks := tk } := by
  subst hr
  refine GrowEnd.add ⟨a, b, ta, tb⟩ [(T, _)] F N rfl ?_ hoff ho ⟨h1, h2, h3⟩ ⟨W, Hh, hw, d2_in (.head _)⟩
  intro q hq p hp
  rw [List.mem_singleton.mp hq]
  exact allLt_mem hT p hp
section
variable {prog : Program} {w : World} {A : Around} {h₀ : Heap} {L : Addr} {m : Str → Option Value} {env : Env} {elt : PySem.Expr} {x : Str} {scope : Scope} {cl : List (Str × Addr)} {s₁ : Shared} {Fin : Shared → List Value → Led → Prop}
theorem sides_src {r H : Addr} {k : Nat} {a b b₀ : Int} {ta tb t u v : Tok} {n : Nat} {rest cs nx : Led}
    (hh : A.handled = none) (F : Fr h₀ L s₁.heap m) (N : News h₀ L s₁.heap ((H, listOf #[.int a ta, .int b tb] k) :: rest)) (hsp : Split rest cs nx) (hr : IsRange s₁.heap r 0 b₀ 1 t u v) (hsm : Builtin.Range.small 0 b₀ 1 = true) (hn : Builtin.Range.rangeSize 0 b₀ 1 = ((n : Nat) : Int)) (hsz : n ≤ 3)
    (ha : 0 ≤ a) (hb : 0 ≤ b) (hb2 : b < 70000) (hoff : Apart nx (H :: cs.map (·.1)))
    (turn : ∀ (c : Hg) ys nx' I oI C oC D m₂ v h tk (E' : Value → Shared → Prop), 0 ≤ c.a → 0 ≤ c.b → c.b < 70000 → (∀ q ∈ nx, q ∈ nx') → Apart nx' (H :: cs.map (·.1)) → LCg.NsObj oC m₂ → m₂ x = some v → Fr h₀ L h m → News h₀ L h ((I, oI) :: (C, oC) :: (D, LCg.lst ys) :: (H, c.obj k) :: (cs ++ nx')) →
      (∀ q ∈ nx', q.1 ≠ I ∧ q.1 ≠ C ∧ q.1 ≠ D) → (∀ z ∈ H :: cs.map (·.1), z ≠ I ∧ z ≠ C ∧ z ≠ D) → ((@Ne Nat I C) ∧ (@Ne Nat I D) ∧ (@Ne Nat C D)) →
      wpAny (model prog w) A (eval elt (compEnvC scope cl C env)) (GrowEnd h₀ L m (fun c : Hg => (H, c.obj k) :: cs) Hg.Ok SideR nx' (H :: cs.map (·.1)) I oI C oC D (LCg.lst ys) { s₁ with heap := h, toks := tk }) E' { s₁ with heap := h, toks := tk })
    (fin : ∀ ys (c : Hg) sz nx' g, 0 ≤ c.a → 0 ≤ c.b → c.b < 70000 → sz.length = n → SzOk sz → DatAll nx' ys (sidesD sz) → (∀ q ∈ nx, q ∈ nx') → Apart nx' (H :: cs.map (·.1)) → Fin { s₁ with heap := g } ys ((H, c.obj k) :: (cs ++ nx'))) :
    LCg.CompSrc prog w A h₀ L m env elt x scope cl Fin (.ref r) s₁ := by
  have e := hsp.eq
  subst e
  refine LCg.CompSrc.range hh F N hr hsm hn (by rw [sizeLine_eq]; omega) ?_
  intro g
  refine grow_rest (σ := Hg) (nx := nx) (fun c => (H, c.obj k) :: cs) (H :: cs.map (·.1)) (fun _ => rfl) Hg.Ok (fun _ nn y => ∃ W H : Int, (1 ≤ W ∧ W ≤ 4 ∧ 1 ≤ H ∧ H ≤ 4) ∧ DatIn nn y (d2 W H)) ⟨a, b, ta, tb⟩ ?_ ⟨ha, hb, hb2⟩ (fun q hq z hz => hoff q hq z hz) (fun _ _ _ => trivial) ?_ ?_
  · rintro i nn nn' y ⟨W, H, hw, hd⟩ hs
    exact ⟨W, H, hw, DatIn.mono hs hd⟩
  · intro i v c ys nx' I oI C oC D m₂ h tk E' hi hP hok hs ho hC hx F' N' hoff' hadr' hne
    exact turn c ys nx' I oI C oC D m₂ v h tk E' hok.1 hok.2.1 hok.2.2 hs ho hC hx F' N' hoff' hadr' hne
  · intro ys c nx' hok hs ho hl hR
    obtain ⟨sz, h1, h2, h3⟩ := sides_of ys hR
    exact fin ys c sz nx' g hok.1 hok.2.1 hok.2.2 (by omega) h2 h3 hs ho
theorem comps_src {P : Params} {r : Addr} {b₀ : Int} {t u v : Tok} {sz : List (Int × Int)} {all cs nx : Led}
    (hh : A.handled = none) (F : Fr h₀ L s₁.heap m) (N : News h₀ L s₁.heap all) (hsp : Split all cs nx) (hr : IsRange s₁.heap r 0 b₀ 1 t u v) (hsm : Builtin.Range.small 0 b₀ 1 = true) (hn : Builtin.Range.rangeSize 0 b₀ 1 = ((sz.length : Nat) : Int)) (hsz : sz.length ≤ 3)
    (hoff : Apart nx (cs.map (·.1)))
    (turn : ∀ (i : Nat) ti ys nx' I oI C oC D m₂ h tk (E' : Value → Shared → Prop), i < sz.length → (∀ q ∈ nx, q ∈ nx') → Apart nx' (cs.map (·.1)) → LCg.NsObj oC m₂ → m₂ x = some (.int (i : Nat) ti) → Fr h₀ L h m → News h₀ L h ((I, oI) :: (C, oC) :: (D, LCg.lst ys) :: (cs ++ nx')) →
      (∀ q ∈ nx', q.1 ≠ I ∧ q.1 ≠ C ∧ q.1 ≠ D) → (∀ z ∈ cs.map (·.1), z ≠ I ∧ z ≠ C ∧ z ≠ D) → ((@Ne Nat I C) ∧ (@Ne Nat I D) ∧ (@Ne Nat C D)) →
      wpAny (model prog w) A (eval elt (compEnvC scope cl C env)) (GrowEnd h₀ L m (fun _ : Unit => cs) (fun _ => True) (fun nn y => CompIn P nn y (sz.getD i (1, 1)).1 (sz.getD i (1, 1)).2) nx' (cs.map (·.1)) I oI C oC D (LCg.lst ys) { s₁ with heap := h, toks := tk }) E' { s₁ with heap := h, toks := tk })
    (fin : ∀ ys nx' g, CompAll P nx' ys sz → (∀ q ∈ nx, q ∈ nx') → Apart nx' (cs.map (·.1)) → Fin { s₁ with heap := g } ys (cs ++ nx')) :
    LCg.CompSrc prog w A h₀ L m env elt x scope cl Fin (.ref r) s₁ := by
  have e := hsp.eq
  subst e
  refine LCg.CompSrc.range hh F N hr hsm hn (by rw [sizeLine_eq]; omega) ?_
  intro g
  refine grow_rest (σ := Unit) (nx := nx) (fun _ => cs) (cs.map (·.1)) (fun _ => rfl) (fun _ => True) (fun i nn y => CompIn P nn y (sz.getD i (1, 1)).1 (sz.getD i (1, 1)).2) () ?_ trivial (fun q hq z hz => hoff q hq z hz) (fun _ _ _ => trivial) ?_ ?_
  · intro i nn nn' y h hs
    exact CompIn.mono hs h
  · intro i v c ys nx' I oI C oC D m₂ h tk E' hi hP hok hs ho hC hx F' N' hoff' hadr' hne
    obtain ⟨ti, rfl⟩ := hP
    rw [Int.zero_add] at hx
    exact turn i ti ys nx' I oI C oC D m₂ h tk E' hi hs ho hC hx F' N' hoff' hadr' hne
  · intro ys c nx' hok hs ho hl hR
    exact fin ys nx' g (comps_of ys sz hl hR) hs ho
end
theorem comps_end {P : Params} {h₀ : Heap} {L : Addr} {m : Str → Option Value} {nx' cs rest : Led} {X d I : Addr} {oI : Obj} {C : Addr} {oC : Obj} {D : Addr} {oD : Obj} {s₁ : Shared} {h' : Heap} {tk : Nat} {W Hh : Int} {t1 t2 t3 t4 tW tH : Tok} {vi vq : Value} {z : Int × Int}
    (F : Fr h₀ L h' m) (N : News h₀ L h' ((X, instObj 52 d) :: (d, dictOf [ent P (Str.ofString "ident") t1 vi, ent P (Str.ofString "across") t2 (.int W tW), ent P (Str.ofString "down") t3 (.int Hh tH), ent P (Str.ofString "quant") t4 vq] 4) :: (I, oI) :: (C, oC) :: (D, oD) :: rest)) (hr : rest = cs ++ nx')
    (hX : AllLt d ((I, oI) :: (C, oC) :: (D, oD) :: rest)) (hdX : @LT.lt Nat _ d X) (hoff : ∀ q ∈ nx', q.1 ≠ I ∧ q.1 ≠ C ∧ q.1 ≠ D) (ho : Apart nx' (cs.map (·.1))) (hz : z = (W, Hh)) :
    GrowEnd h₀ L m (fun _ : Unit => cs) (fun _ => True) (fun nn y => CompIn P nn y z.1 z.2) nx' (cs.map (·.1)) I oI C oC D oD s₁ (.ref X) { s₁ with heap := h', toks := tk } := by
  subst hr
  subst hz
  refine GrowEnd.add (led := fun _ : Unit => cs) () [(X, _), (d, _)] F N rfl ?_ hoff ho trivial ⟨X, d, t1, t2, t3, t4, tW, tH, vi, vq, rfl, .head _, .tail _ (.head _)⟩
  intro q hq p hp
  have h1 := allLt_mem hX p hp
  rcases List.mem_cons.mp hq with rfl | hq
  · exact Nat.lt_trans h1 hdX
  · rw [List.mem_singleton.mp hq]; exact h1
theorem sidesD_length (sz : List (Int × Int)) : (sidesD sz).length = sz.length := by simp [sidesD]
theorem sides_at {nx : Led} {ys : List Value} {sz : List (Int × Int)} (h : DatAll nx ys (sidesD sz)) {k : Nat} (hk : k < sz.length) :
    ∃ (T : Addr) (n : Nat) (W H : Int) (tW tH : Tok), ys[k]? = some (.ref T) ∧ sz.getD k (1, 1) = (W, H) ∧ (T, ({ cls := .type "tuple", data := .seq #[.int W tW, .int H tH] n } : Obj)) ∈ nx := by
  obtain ⟨v, hv, hd⟩ := h.get (k := k) (by rw [sidesD_length]; exact hk)
  have e : (sidesD sz)[k]'(by rw [sidesD_length]; exact hk) = d2 sz[k].1 sz[k].2 := by simp [sidesD]
  rw [e] at hd
  cases hd with
  | tuple hm hr =>
    cases hr with
    | cons h1 hr =>
      cases hr with
      | cons h2 hr =>
        cases hr
        cases h1
        cases h2
        exact ⟨_, _, _, _, _, _, hv, by simp [List.getD_eq_getElem?_getD, hk], hm⟩
end Mine
end
section
open PySem PySem.W PyProof.Rows
namespace Mine
theorem pop_ints {us : List Value} {l : List Int} (hi : IntsAre us l) : ∀ (k : Nat), k < l.length →
    ∃ (p q : List Value) (v : Int) (t : Tok) (l' : List Int), us = p ++ .int v t :: q ∧ p.length = k ∧ v ∈ l ∧ IntsAre (p ++ q) l' ∧ l'.length + 1 = l.length ∧ ∀ x ∈ l', x ∈ l := by
  induction hi with
  | nil => intro k hk; exact absurd hk (Nat.not_lt_zero _)
  | cons n t r ih =>
    intro k hk
    cases k with
    | zero => exact ⟨[], _, n, t, _, rfl, rfl, .head _, r, rfl, fun x hx => .tail _ hx⟩
    | succ k =>
      obtain ⟨p, q, v, t', l', h1, h2, h3, h4, h5, h6⟩ := ih k (Nat.lt_of_succ_lt_succ hk)
      refine ⟨.int n t :: p, q, v, t', n :: l', by rw [h1]; rfl, by simp [h2], .tail _ h3, .cons n t h4, by simp [h5], ?_⟩
      intro x hx
      rcases List.mem_cons.mp hx with rfl | hx
      · exact .head _
      · exact .tail _ (h6 x hx)
theorem cut_at (q : List Value) (y : Value) : ∀ p : List Value, kl_cut (p ++ y :: q) p.length = some (p, y, q)
  | [] => rfl
  | x :: p => by
    show (match kl_cut (p ++ y :: q) p.length with | some (a, b, c) => some (x :: a, b, c) | none => none) = some (x :: p, y, q)
    rw [cut_at q y p]
theorem updF_upd {d : Addr} {o : Obj} {l : Led} {g : Obj → Led} (U : UpdF d o l g) (o' : Obj) : Upd d o o' l (g o') := by
  induction U with
  | head h => exact .head h
  | tail h _ ih => exact .tail h ih
section
variable {prog : Program} {w : World} {A : Around} {E : Value → Shared → Prop} {s : Shared} {h₀ : Heap} {L D : Addr} {m : Str → Option Value} {news : Led} {n : Nat} {g : Obj → Led}
theorem pop_use {us : List Value} {l : List Int} {i : Int} {u : Tok} {Q : Value → Shared → Prop} (F : Fr h₀ L s.heap m) (N : News h₀ L s.heap news) (U : UpdF D (listOf us.toArray n) news g) (hi : IntsAre us l) (h0 : 0 ≤ i) (h1 : i < (l.length : Int)) (hz : l.length ≤ 1000)
    (h : ∀ us' v t l' h', Fr h₀ L h' m → News h₀ L h' (g (listOf us'.toArray (n + 1))) → IntsAre us' l' → l'.length + 1 = l.length → (∀ x ∈ l', x ∈ l) → v ∈ l → Q (.int v t) { s with heap := h' }) :
    wpAny (model prog w) A (call (.builtin "list.pop") [.ref D, .int i u]) Q E s := by
  obtain ⟨p, q, v, t, l', e1, e2, e3, e4, e5, e6⟩ := pop_ints hi i.toNat (by omega)
  have hl := hi.length
  refine kl_popAt (k := i.toNat) (p := p) (q := q) (y := .int v t) F N ?_ ?_ ?_ (updF_upd U _) ?_ (fun h' F' N' => h (p ++ q) v t l' h' F' N' e4 e5 e6 e3)
  · simp only [Builtin.List.listFitsIndex, Bool.and_eq_true, decide_eq_true_eq]; omega
  · rw [List.size_toArray, hl]
    have e : (if i < 0 then i + (l.length : Int) else i) = i := if_neg (by omega)
    unfold seqIndex?
    dsimp only
    rw [e, if_pos]
    simp [h0, h1]
  · show kl_cut us i.toNat = _
    rw [e1, ← e2]; exact cut_at _ _ _
  · rw [sizeLine_eq]; simp [hl]; omega
end
end Mine
end
section
open PySem PySem.W PyProof.Rows
namespace Mine
def fnBody : Stmt → List Stmt
  | .FunctionDef _ _ b _ _ _ _ _ _ _ => b
  | _ => []
def fnScope : Stmt → Scope
  | .FunctionDef _ _ _ _ _ _ sc _ _ _ => sc
  | _ => default
noncomputable def lawDef : Stmt := PySem.Challenge.rw_xm0814_01.row.prog.main.body.getD 12 (.Pass ⟨0, 0, 0, 0⟩)
/-- the law's cells -/
abbrev cellsL (L : Addr) (o1 o2 o3 o4 o5 o6 o7 o8 : Obj) : Led := [(L + 1 + 1 + 1 + 1 + 1 + 1 + 1 + 1, o8), (L + 1 + 1 + 1 + 1 + 1 + 1 + 1, o7), (L + 1 + 1 + 1 + 1 + 1 + 1, o6), (L + 1 + 1 + 1 + 1 + 1, o5), (L + 1 + 1 + 1 + 1, o4), (L + 1 + 1 + 1, o3), (L + 1 + 1, o2), (L + 1, o1)]
abbrev cellsA (L : Addr) : List Addr := [L + 1 + 1 + 1 + 1 + 1 + 1 + 1 + 1, L + 1 + 1 + 1 + 1 + 1 + 1 + 1, L + 1 + 1 + 1 + 1 + 1 + 1, L + 1 + 1 + 1 + 1 + 1, L + 1 + 1 + 1 + 1, L + 1 + 1 + 1, L + 1 + 1, L + 1]
/-- what stands unturned behind the first statements of the law -/
structure Imm (P : Params) (nx : Led) (FR D1 D2 : Addr) (ys cvs : List Value) (k1 kc : Nat) (sz : List (Int × Int)) : Prop where
  frame : FrameIn P nx FR D2
  cl : (D2, listOf cvs.toArray kc) ∈ nx
  comps : CompAll P nx cvs sz
  sl : (D1, listOf ys.toArray k1) ∈ nx
  sides : DatAll nx ys (sidesD sz)
  ok : SzOk sz
  lo : 1 ≤ sz.length
  hi : sz.length ≤ 3
theorem FrameIn.mono {P : Params} {nx nx' : Led} {FR CL : Addr} (hs : ∀ q ∈ nx, q ∈ nx') (h : FrameIn P nx FR CL) : FrameIn P nx' FR CL := by
  obtain ⟨d, t1, t2, t3, t4, t5, t6, v1, v2, v3, v4, v6, h1, h2⟩ := h
  exact ⟨d, t1, t2, t3, t4, t5, t6, v1, v2, v3, v4, v6, hs _ h1, hs _ h2⟩
theorem Imm.mono {P : Params} {nx nx' : Led} {FR D1 D2 : Addr} {ys cvs : List Value} {k1 kc : Nat} {sz : List (Int × Int)} (hs : ∀ q ∈ nx, q ∈ nx') (h : Imm P nx FR D1 D2 ys cvs k1 kc sz) : Imm P nx' FR D1 D2 ys cvs k1 kc sz :=
  ⟨h.frame.mono hs, hs _ h.cl, h.comps.mono hs, hs _ h.sl, h.sides.mono hs, h.ok, h.lo, h.hi⟩
theorem fr_see {h₀ h : Heap} {L : Addr} {m : Str → Option Value} (F : Fr h₀ L h m) {x : Str} {v : Value} (hx : m x = some v) : Fr h₀ L h (fun y => if y = x then some v else m y) := by
  have e : (fun y => if y = x then some v else m y) = m := funext fun y => by
    by_cases h1 : y = x
    · rw [if_pos h1, h1, hx]
    · rw [if_neg h1]
  rw [e]; exact F
theorem Apart.sub {nx : Led} {adr adr' : List Addr} (h : Apart nx adr) (hs : ∀ z ∈ adr', z ∈ adr) : Apart nx adr' := fun q hq z hz => h q hq z (hs z hz)
theorem news_out {h₀ h : Heap} {L : Addr} {a t b : Addr × Obj} {cs nx : Led} (N : News h₀ L h (a :: t :: b :: (cs ++ nx))) : News h₀ L h (a :: (cs ++ (b :: nx))) := by
  intro p hp
  refine N p ?_
  rcases List.mem_cons.mp hp with rfl | hp
  · exact .head _
  · rcases List.mem_append.mp hp with hp | hp
    · exact .tail _ (.tail _ (.tail _ (List.mem_append.mpr (.inl hp))))
    · rcases List.mem_cons.mp hp with rfl | hp
      · exact .tail _ (.tail _ (.head _))
      · exact .tail _ (.tail _ (.tail _ (List.mem_append.mpr (.inr hp))))
theorem apart_hi {L H a : Addr} (h8 : @LT.lt Nat _ (L + 1 + 1 + 1 + 1 + 1 + 1 + 1 + 1) a) (hH : @LT.lt Nat _ H a) {z : Addr} (hz : z ∈ H :: cellsA L) : a ≠ z := by
  intro e
  rcases List.mem_cons.mp hz with rfl | hz
  · exact absurd hH (e ▸ Nat.lt_irrefl _)
  · have h9 : @LE.le Nat _ z (L + 1 + 1 + 1 + 1 + 1 + 1 + 1 + 1) := by
      simp only [cellsA, List.mem_cons, List.not_mem_nil, or_false] at hz
      rcases hz with e | e | e | e | e | e | e | e <;> (rw [e]; omega)
    exact absurd (Nat.lt_of_le_of_lt h9 h8) (e ▸ Nat.lt_irrefl _)
end Mine
end
section
open PySem PySem.W PyProof.Rows
namespace Mine
section
variable {prog : Program} {w : World} {A : Around} {E : Value → Shared → Prop} {s : Shared} {env : Env} {h₀ : Heap} {x : Str} {px : Pos} {body : List Stmt} {Q : Flow → Shared → Prop}
theorem cell_loop {σ : Type} {r : Addr} {b₀ : Int} {t₀ u₀ v₀ : Tok} {n : Nat} {m₀ : Str → Option Value} {nx : Led} (led : σ → Led) (adr : List Addr) (hadr : ∀ c, (led c).map (·.1) = adr) (Inv : Nat → Led → σ → Prop) (stored : List Str) (c₀ : σ)
    (hmono : ∀ i nx nx' c, Inv i nx c → (∀ q ∈ nx, q ∈ nx') → Inv i nx' c)
    (hfil : ∀ i nx c (I : Addr) (h : Heap) oI, Inv i nx c → News h₀ env.locals h nx → h.get? I = some oI → oI.cls = .type "range_iterator" → Inv i (nx.filter fun q => decide (q.1 ≠ I)) c)
    (hh : A.handled = none) (hr : IsRange s.heap r 0 b₀ 1 t₀ u₀ v₀) (hsmall : Builtin.Range.small 0 b₀ 1 = true) (hsz : Builtin.Range.rangeSize 0 b₀ 1 = (n : Int))
    (F : Fr h₀ env.locals s.heap m₀) (N : News h₀ env.locals s.heap (led c₀ ++ nx)) (hoff : ∀ q ∈ nx, ∀ b ∈ adr, q.1 ≠ b) (hI : Inv 0 nx c₀)
    (turn : ∀ i t (u : Str → Option Value) h tk nx' c, i < n → (∀ q ∈ nx, q ∈ nx') → (∀ q ∈ nx', ∀ b ∈ adr, q.1 ≠ b) → Inv i nx' c →
      Fr h₀ env.locals h (fun y => if stored.contains y then u y else m₀ y) → News h₀ env.locals h (led c ++ nx') →
      wpAny (model prog w) A (assign (.Name x px) env (.int (i : Nat) t)) (fun _ s₃ => wpAny (model prog w) A (execs body env) (GPost h₀ env.locals led (Inv (i + 1)) (fun m' => ∀ y, stored.contains y = false → m' y = m₀ y) nx' { s with heap := h, toks := tk } Q) E s₃) E { s with heap := h, toks := tk })
    (done : ∀ (u : Str → Option Value) h tk nx' c, (∀ q ∈ nx, q ∈ nx') → (∀ q ∈ nx', ∀ b ∈ adr, q.1 ≠ b) → Inv n nx' c →
      Fr h₀ env.locals h (fun y => if stored.contains y then u y else m₀ y) → News h₀ env.locals h (led c ++ nx') → Q .next { s with heap := h, toks := tk }) :
    wpAny (model prog w) A (pyIter (.ref r)) (fun it s₂ => TurnsAt prog w A h₀ env (.Name x px) body Q E it s₂) E s := by
  refine wpAny_pyIter_range hr hsmall ?_
  have hL0 : env.locals ≠ s.heap.objs.size := Nat.ne_of_lt F.ns.lt
  have W : Walks prog w A s.heap.objs.size [s.heap.objs.size] [s.heap.objs.size] n (fun i v => i < n ∧ ∃ t, v = .int ((0 : Int) + i * 1) t)
      (fun i h => IsRangeIter h s.heap.objs.size ((0 : Int) + (i : Nat) * 1) ((n : Int) - (i : Nat)) 1) := (Walks.range hh _ 0 1 n).bound
  have frm : ∀ (m₁ : Str → Option Value), (∀ y, stored.contains y = false → m₁ y = m₀ y) → m₁ = fun y => if stored.contains y then m₁ y else m₀ y := by
    intro m₁ h
    funext y
    by_cases h2 : stored.contains y = true
    · simp only [if_pos h2]
    · simp only [if_neg h2]; exact h y (by simpa using h2)
  refine ⟨_, _, _, n, _, _, _, m₀, led c₀ ++ nx, fun i m nn => ∃ c tl, nn = led c ++ tl ∧ (∀ q ∈ nx, q ∈ tl) ∧ (∀ q ∈ tl, ∀ b ∈ adr, q.1 ≠ b) ∧ Inv i tl c ∧ ∀ y, stored.contains y = false → m y = m₀ y, rfl, KTurns.ofWalks W (fun _ _ _ _ _ _ q => wpAny_pure q), ?_, ?_, ?_,
    (by show IsRangeIter _ _ _ _ _; rw [hsz]; simpa using Heap.get?_push_size _ rfl), F.push _, (fun p hp => ⟨Heap.get?_push_of_some _ (N p hp).1, (N p hp).2⟩), ⟨c₀, nx, rfl, fun _ h => h, hoff, hI, fun _ _ => rfl⟩, ?_, ?_⟩
  · intro hm; exact hL0 (List.mem_singleton.mp hm)
  · intro b hb; rw [List.mem_singleton.mp hb]; exact next_is_new F
  · intro p hp hI'; exact absurd (Heap.lt_size (N p hp).1) ((List.mem_singleton.mp hI') ▸ Nat.lt_irrefl _)
  · rintro i v m₁ news₁ hh' tk' own hin ⟨_, t, rfl⟩ ⟨c, tl, rfl, hsub, hofft, hInv, hfix⟩ hoffw hown hget hfp hst F₁ N₁
    have hI0 : h₀.get? s.heap.objs.size = none := next_is_new F
    obtain ⟨oI, hoI, hcI⟩ : ∃ oI, hh'.get? s.heap.objs.size = some oI ∧ oI.cls = .type "range_iterator" := ⟨_, hst, rfl⟩
    have hIown : (s.heap.objs.size, oI) ∈ own := hfp _ (List.mem_singleton.mpr rfl) hI0 _ hoI
    have ownI : ∀ p ∈ own, p.1 = s.heap.objs.size := fun p hp => List.mem_singleton.mp (hown p hp)
    have ledI : ∀ b ∈ adr, b ≠ s.heap.objs.size := fun b hb e => by
      rw [← hadr c] at hb
      obtain ⟨q, hq, rfl⟩ := List.mem_map.mp hb
      exact hoffw q (List.mem_append.mpr (.inl hq)) (List.mem_singleton.mpr e)
    have e1 : (0 : Int) + (i : Nat) * 1 = (i : Nat) := by omega
    rw [frm m₁ hfix] at F₁
    have N₂ : News h₀ env.locals hh' (led c ++ (tl ++ own)) := fun p hp => N₁ p (by
      rcases List.mem_append.mp hp with hp | hp
      · exact List.mem_append.mpr (.inr (List.mem_append.mpr (.inl hp)))
      · rcases List.mem_append.mp hp with hp | hp
        · exact List.mem_append.mpr (.inr (List.mem_append.mpr (.inr hp)))
        · exact List.mem_append.mpr (.inl hp))
    rw [e1]
    refine wpAny_mono (turn i t m₁ hh' tk' (tl ++ own) c hin (fun q hq => List.mem_append.mpr (.inl (hsub q hq))) ?_ (hmono _ _ _ _ hInv fun q hq => List.mem_append.mpr (.inl hq)) F₁ N₂) (fun _ s₃ p₃ => wpAny_mono p₃ (fun f s₂ p => ?_) fun _ _ e => e) fun _ _ e => e
    · intro q hq b hb
      rcases List.mem_append.mp hq with hq | hq
      · exact hofft q hq b hb
      · rw [ownI q hq]; exact fun e => ledI b hb e.symm
    have fin : GEnd h₀ env.locals led (Inv (i + 1)) (fun m' => ∀ y, stored.contains y = false → m' y = m₀ y) (tl ++ own) { s with heap := hh', toks := tk' } s₂ →
        LoopStepU h₀ env.locals [s.heap.objs.size] own (fun m nn => ∃ c tl, nn = led c ++ tl ∧ (∀ q ∈ nx, q ∈ tl) ∧ (∀ q ∈ tl, ∀ b ∈ adr, q.1 ≠ b) ∧ Inv (i + 1) tl c ∧ ∀ y, stored.contains y = false → m y = m₀ y) { s with heap := hh', toks := tk' } .next s₂ := by
      rintro ⟨h', tk, m', c', nx'', e, F', N', hs', ho', hI', hf'⟩
      have ownIn : ∀ p ∈ own, p ∈ nx'' := fun p hp => hs' p (List.mem_append.mpr (.inr hp))
      have hI2 : h'.get? s.heap.objs.size = some oI := (N' _ (List.mem_append.mpr (.inr (ownIn _ hIown)))).1
      have Nx : News h₀ env.locals h' nx'' := fun p hp => N' p (List.mem_append.mpr (.inr hp))
      refine ⟨rfl, h', tk, m', led c' ++ nx''.filter (fun q => decide (q.1 ≠ s.heap.objs.size)), e, F', ?_, ?_, c', _, rfl, ?_, ?_, hfil _ _ _ _ _ _ hI' Nx hI2 hcI, hf'⟩
      · intro p hp
        rcases List.mem_append.mp hp with hp | hp
        · exact Nx p (ownIn p hp)
        · rcases List.mem_append.mp hp with hp | hp
          · exact N' p (List.mem_append.mpr (.inl hp))
          · exact Nx p (List.mem_filter.mp hp).1
      · intro p hp hpI
        rcases List.mem_append.mp hp with hp | hp
        · exact ledI p.1 (by rw [← hadr c']; exact List.mem_map.mpr ⟨p, hp, rfl⟩) (List.mem_singleton.mp hpI)
        · exact (of_decide_eq_true (List.mem_filter.mp hp).2) (List.mem_singleton.mp hpI)
      · intro q hq
        refine List.mem_filter.mpr ⟨hs' q (List.mem_append.mpr (.inl (hsub q hq))), decide_eq_true fun e => ?_⟩
        exact absurd (Heap.lt_size (N q (List.mem_append.mpr (.inr hq))).1) (by rw [e]; exact Nat.lt_irrefl _)
      · intro q hq b hb
        exact ho' q (List.mem_filter.mp hq).1 b (by rw [hadr]; exact hb)
    cases f with
    | ret v => exact .ret p
    | brk => exact .brk p
    | next => exact .next (fin p)
    | cont => exact .cont (fin p)
  · rintro h' tk m' news' F' N' _ ⟨c, tl, rfl, hsub, hofft, hInv, hfix⟩
    refine done m' h' tk tl c hsub hofft hInv ?_ N'
    rw [← frm m' hfix]; exact F'
end
end Mine
end
section
open PySem PySem.W PyProof.Rows
namespace Mine
section
variable {prog : Program} {w : World} {A : Around} {R : Result → Shared → Prop} {s : Shared}
theorem turn_inner (elt t1 i1 t2 i2 : PySem.Expr) (ifs : List PySem.Expr) (scope : Scope) (pos : Pos) (it acc : Value) (env : Env) :
    compTurn (.ListComp elt [⟨t1, i1, [], 0⟩, ⟨t2, i2, ifs, 0⟩] scope pos) 1 it acc env = (do
      standAt i2.pos
      match ← pyNext it with
      | none => pure (.done .next)
      | some v =>
        letOwnedTupleGo t2 it v
        assign t2 env v
        let mut ok := true
        for c in ifs do
          if ok then ok ← isTrue c env (eval c env)
        if ok then
          (do let _ ← call (.builtin "list.append") [acc, ← eval elt env])
        again (.compLoop (.ListComp elt [⟨t1, i1, [], 0⟩, ⟨t2, i2, ifs, 0⟩] scope pos) 1 it acc env)) := by rfl
theorem turn_outer (elt t1 i1 t2 i2 : PySem.Expr) (ifs : List PySem.Expr) (scope : Scope) (pos : Pos) (it acc : Value) (env : Env) :
    compTurn (.ListComp elt [⟨t1, i1, [], 0⟩, ⟨t2, i2, ifs, 0⟩] scope pos) 0 it acc env = (do
      standAt i1.pos
      match ← pyNext it with
      | none => pure (.done .next)
      | some v =>
        letOwnedTupleGo t1 it v
        assign t1 env v
        let x ← eval i2 env
        standAt i2.pos
        let x ← foldedSetIterable i2 env x
        let _ ← runOwn (.compStart (.ListComp elt [⟨t1, i1, [], 0⟩, ⟨t2, i2, ifs, 0⟩] scope pos) 1 (← holding [x] (pyIter x)) acc env) env
        again (.compLoop (.ListComp elt [⟨t1, i1, [], 0⟩, ⟨t2, i2, ifs, 0⟩] scope pos) 0 it acc env)) := by rfl
theorem loop_inner {elt t1 i1 t2 i2 : PySem.Expr} {ifs : List PySem.Expr} {scope : Scope} {pos : Pos} {it acc : Value} {env : Env} (I : Nat → Shared → Prop)
    (turn : ∀ n s, I n s → wpAny (model prog w) A (pyNext it) (fun r s₁ => match r with
      | none => R (.ok .next) s₁
      | some v => wpAny (model prog w) A (assign t2 env v) (fun _ s₂ =>
          wpAny (model prog w) A (forIn ifs true fun c r => if r = true then do let ok ← isTrue c env (eval c env); pure (ForInStep.yield ok) else pure (ForInStep.yield r)) (fun ok s₃ =>
            if ok = true then wpAny (model prog w) A (eval elt env) (fun x s₄ =>
              wpAny (model prog w) A (call (.builtin "list.append") [acc, x]) (fun _ s₅ => ∃ m, m < n ∧ I m s₅) (notedBy (model prog w) A env fun e s' => R (.error e) s') s₄) (notedBy (model prog w) A env fun e s' => R (.error e) s') s₃
            else ∃ m, m < n ∧ I m s₃) (notedBy (model prog w) A env fun e s' => R (.error e) s') s₂) (notedBy (model prog w) A env fun e s' => R (.error e) s') s₁) (notedBy (model prog w) A env fun e s' => R (.error e) s') s)
    (n : Nat) (h : I n s) (ht : ∀ v, letOwnedTupleGo t2 it v = pure () := by intro _; rfl) :
    codeAny (model prog w) A (.compLoop (.ListComp elt [⟨t1, i1, [], 0⟩, ⟨t2, i2, ifs, 0⟩] scope pos) 1 it acc env) R s := by
  refine codeAny_loop rfl I (fun n s hI => ?_) n h
  show wpAny _ A ((compTurn (.ListComp elt [⟨t1, i1, [], 0⟩, ⟨t2, i2, ifs, 0⟩] scope pos) 1 it acc env).onRaise (fun x => do noteFrame x env; theTreesLotGoes x)) _ _ s
  refine wpAny_noted ?_
  rw [turn_inner]
  refine wpAny_bind (wpAny_standAt (wpAny_bind (wpAny_mono (turn n s hI) (fun r s₁ h₁ => ?_) fun _ _ h' => h')))
  cases r with
  | none => exact wpAny_pure h₁
  | some v =>
    refine wpAny_bind (wpAny_of_eq (ht v) ?_)
    refine wpAny_bind (wpAny_mono h₁ (fun _ s₂ h₂ => wpAny_bind (wpAny_mono h₂ (fun ok s₃ h₃ => ?_) fun _ _ h' => h')) fun _ _ h' => h')
    cases ok with
    | false => exact wpAny_pure ⟨rfl, h₃⟩
    | true =>
      exact wpAny_bind (wpAny_bind (wpAny_mono h₃ (fun x s₄ h₄ => wpAny_bind (wpAny_mono h₄ (fun _ s₅ h₅ => wpAny_pure (wpAny_pure ⟨rfl, h₅⟩)) fun _ _ h' => h')) fun _ _ h' => h'))
theorem loop_outer {elt t1 i1 t2 i2 : PySem.Expr} {ifs : List PySem.Expr} {scope : Scope} {pos : Pos} {it acc : Value} {env : Env} (I : Nat → Shared → Prop)
    (turn : ∀ n s, I n s → wpAny (model prog w) A (pyNext it) (fun r s₁ => match r with
      | none => R (.ok .next) s₁
      | some v => wpAny (model prog w) A (assign t1 env v) (fun _ s₂ =>
          wpAny (model prog w) A (eval i2 env) (fun xv s₃ => wpAny (model prog w) A (pyIter xv) (fun it2 s₄ =>
            codeAny (model prog w) A (.compStart (.ListComp elt [⟨t1, i1, [], 0⟩, ⟨t2, i2, ifs, 0⟩] scope pos) 1 it2 acc env) (fun r s₅ => match r with | .ok _ => ∃ m, m < n ∧ I m s₅ | .error _ => False) s₄)
            (notedBy (model prog w) A env fun e s' => R (.error e) s') s₃)
          (notedBy (model prog w) A env fun e s' => R (.error e) s') s₂) (notedBy (model prog w) A env fun e s' => R (.error e) s') s₁) (notedBy (model prog w) A env fun e s' => R (.error e) s') s)
    (n : Nat) (h : I n s) (ht : ∀ v, letOwnedTupleGo t1 it v = pure () := by intro _; rfl) (hs : ∀ x, foldedSetIterable i2 env x = pure x := by intro _; rfl) :
    codeAny (model prog w) A (.compLoop (.ListComp elt [⟨t1, i1, [], 0⟩, ⟨t2, i2, ifs, 0⟩] scope pos) 0 it acc env) R s := by
  refine codeAny_loop rfl I (fun n s hI => ?_) n h
  show wpAny _ A ((compTurn (.ListComp elt [⟨t1, i1, [], 0⟩, ⟨t2, i2, ifs, 0⟩] scope pos) 0 it acc env).onRaise (fun x => do noteFrame x env; theTreesLotGoes x)) _ _ s
  refine wpAny_noted ?_
  rw [turn_outer]
  refine wpAny_bind (wpAny_standAt (wpAny_bind (wpAny_mono (turn n s hI) (fun r s₁ h₁ => ?_) fun _ _ h' => h')))
  cases r with
  | none => exact wpAny_pure h₁
  | some v =>
    refine wpAny_bind (wpAny_of_eq (ht v) ?_)
    refine wpAny_bind (wpAny_mono h₁ (fun _ s₂ h₂ => wpAny_bind (wpAny_mono h₂ (fun xv s₃ h₃ => ?_) fun _ _ h' => h')) fun _ _ h' => h')
    refine wpAny_bind (wpAny_standAt (wpAny_bind (wpAny_of_eq (hs xv) (wpAny_bind (wpAny_holding (wpAny_mono h₃ (fun it2 s₄ h₄ => ?_) fun _ _ h' => h'))))))
    refine wpAny_bind (wpAny_runOwn (h := none) (codeAny_mono h₄ fun r s₅ hr => ?_))
    cases r with
    | ok f => exact wpAny_pure ⟨rfl, hr⟩
    | error e => exact hr.elim
theorem start_inner {elt t1 i1 t2 i2 : PySem.Expr} {ifs : List PySem.Expr} {scope : Scope} {pos : Pos} {it acc : Value} {env : Env}
    (h0 : codeAny (model prog w) A (.compLoop (.ListComp elt [⟨t1, i1, [], 0⟩, ⟨t2, i2, ifs, 0⟩] scope pos) 1 it acc env) R s)
    (h : wpAny (model prog w) A (pyIter it) (fun it' s' => codeAny (model prog w) A (.compLoop (.ListComp elt [⟨t1, i1, [], 0⟩, ⟨t2, i2, ifs, 0⟩] scope pos) 1 it' acc env) R s')
      (notedBy (model prog w) A env fun x s' => R (.error x) s') s) :
    codeAny (model prog w) A (.compStart (.ListComp elt [⟨t1, i1, [], 0⟩, ⟨t2, i2, ifs, 0⟩] scope pos) 1 it acc env) R s := by
  refine codeAny_of_tree ?_
  show wpAny _ _ ((compStart (.ListComp elt [⟨t1, i1, [], 0⟩, ⟨t2, i2, ifs, 0⟩] scope pos) 1 it acc env).onRaise (fun x => do noteFrame x env; standAt theWindowsPlace)) _ _ s
  refine wpAny_notedAt ?_
  unfold compStart
  show wpAny _ _ (ask >>= _) _ _ s
  refine wpAny_bind (wpAny_askSetting (wpAny_ite ?_))
  split
  · first
      | exact wpAny_bind (wpAny_pure (wpAny_pure (And.intro rfl h0)))
      | exact wpAny_pure (And.intro rfl h0)
  · first
      | exact wpAny_bind (wpAny_rule (wpAny_bind (wpAny_standAt (wpAny_bind (wpAny_mono h (fun it' s' h' => wpAny_pure (And.intro rfl h')) fun _ _ x => x)))))
      | (refine wpAny_bind (wpAny_rule ?_); show wpAny _ _ (standAt i2.pos >>= _) _ _ s; exact wpAny_bind (wpAny_standAt (wpAny_bind (wpAny_mono h (fun it' s' h' => wpAny_pure (And.intro rfl h')) fun _ _ x => x))))
end
end Mine
end
section
open PySem PySem.W PyProof.Rows
open PyProof.Rows.LCg (NsObj lst ns_obj fr_but news_but lst_snoc)
namespace Mine
section
variable {prog : Program} {w : World} {A : Around} {h₀ : Heap} {L : Addr} {m : Str → Option Value} {env : Env} {elt c i1 i2 : PySem.Expr} {x1 x2 : Str} {p1 p2 : Pos} {scope : Scope} {cl : List (Str × Addr)} {pos : Pos} {s : Shared}
/-- what the test of a turn says -/
def TestEnd (h₀ : Heap) (L : Addr) (m : Str → Option Value) (all : Led) (b : Bool) (s₁ : Shared) (ok : Bool) (s₂ : Shared) : Prop :=
  ok = b ∧ ∃ h' tk, s₂ = { s₁ with heap := h', toks := tk } ∧ Fr h₀ L h' m ∧ News h₀ L h' all
theorem inner_fill {R : Result → Shared → Prop} {n2 : Nat} {p : Nat → Bool} {f : Nat → Dat} {cs nx : Led} {v1 : Value} {C D I : Addr} {ys0 : List Value} {ds0 : List Dat} {m₂ : Str → Option Value} {h1 : Heap} {tk1 : Nat}
    (hh : A.handled = none) (hx2 : scope.names.lookup x2 = some .local) (hkind : scope.kind = .function) (hx12 : x1 ≠ x2) (hb : ys0.length + n2 ≤ 10000)
    (hit : IsRangeIter h1 I ((0 : Int) + ((0 : Nat) : Int) * 1) ((n2 : Int) - ((0 : Nat) : Int)) 1) (F : Fr h₀ L h1 m) (hn : h1.Ns C m₂) (hm1 : m₂ x1 = some v1) (N : News h₀ L h1 ((D, lst ys0) :: (cs ++ nx)))
    (hIL : L ≠ I) (hI0 : h₀.get? I = none) (hC0 : h₀.get? C = none) (hD0 : h₀.get? D = none) (hCL : C ≠ L) (hDL : D ≠ L) (hCI : C ≠ I) (hDI : D ≠ I) (hCD : C ≠ D)
    (offn : ∀ q ∈ nx, q.1 ≠ I ∧ q.1 ≠ C ∧ q.1 ≠ D) (offc : ∀ z ∈ cs.map (·.1), z ≠ I ∧ z ≠ C ∧ z ≠ D) (hap : Apart nx (cs.map (·.1))) (hd : DatAll nx ys0 ds0)
    (test : ∀ (j : Nat) tj oI oC m₃ ys h tk nx' (E' : Value → Shared → Prop), j < n2 → (∀ q ∈ nx, q ∈ nx') → Apart nx' (cs.map (·.1)) → NsObj oC m₃ → m₃ x1 = some v1 → m₃ x2 = some (.int (j : Nat) tj) → Fr h₀ L h m → News h₀ L h ((I, oI) :: (C, oC) :: (D, lst ys) :: (cs ++ nx')) →
      (∀ q ∈ nx', q.1 ≠ I ∧ q.1 ≠ C ∧ q.1 ≠ D) →
      wpAny (model prog w) A (isTrue c (compEnvC scope cl C env) (eval c (compEnvC scope cl C env))) (TestEnd h₀ L m ((I, oI) :: (C, oC) :: (D, lst ys) :: (cs ++ nx')) (p j) { s with heap := h, toks := tk }) E' { s with heap := h, toks := tk })
    (el : ∀ (j : Nat) tj oI oC m₃ ys h tk nx' (E' : Value → Shared → Prop), j < n2 → p j = true → (∀ q ∈ nx, q ∈ nx') → Apart nx' (cs.map (·.1)) → NsObj oC m₃ → m₃ x1 = some v1 → m₃ x2 = some (.int (j : Nat) tj) → Fr h₀ L h m → News h₀ L h ((I, oI) :: (C, oC) :: (D, lst ys) :: (cs ++ nx')) →
      (∀ q ∈ nx', q.1 ≠ I ∧ q.1 ≠ C ∧ q.1 ≠ D) →
      wpAny (model prog w) A (eval elt (compEnvC scope cl C env)) (GrowEnd h₀ L m (fun _ : Unit => cs) (fun _ => True) (fun nn y => DatIn nn y (f j)) nx' (cs.map (·.1)) I oI C oC D (lst ys) { s with heap := h, toks := tk }) E' { s with heap := h, toks := tk })
    (hR : ∀ h' tk ys nx' m', Fr h₀ L h' m → h'.Ns C m' → News h₀ L h' ((D, lst ys) :: (cs ++ nx')) → (∀ q ∈ nx, q ∈ nx') → (∀ q ∈ nx', q.1 ≠ I ∧ q.1 ≠ C ∧ q.1 ≠ D) → Apart nx' (cs.map (·.1)) → DatAll nx' ys (ds0 ++ ((List.range n2).filter p).map f) → ys.length ≤ ys0.length + n2 → R (.ok .next) { s with heap := h', toks := tk }) :
    codeAny (model prog w) A (.compLoop (.ListComp elt [⟨.Name x1 p1, i1, [], 0⟩, ⟨.Name x2 p2, i2, [c], 0⟩] scope pos) 1 (.ref I) (.ref D) (compEnvC scope cl C env)) R { s with heap := h1, toks := tk1 } := by
  have W := LCg.range_walks (prog := prog) (w := w) (A := A) (I := I) hh 0 n2
  refine loop_inner
    (fun k s' => ∃ h' tk j ys m' nx', s' = { s with heap := h', toks := tk } ∧ j ≤ n2 ∧ k = n2 + 1 - j ∧ ys.length ≤ ys0.length + j ∧ IsRangeIter h' I ((0 : Int) + (j : Nat) * 1) ((n2 : Int) - (j : Nat)) 1 ∧ Fr h₀ L h' m ∧ h'.Ns C m' ∧ m' x1 = some v1 ∧
      News h₀ L h' ((D, lst ys) :: (cs ++ nx')) ∧ (∀ q ∈ nx, q ∈ nx') ∧ (∀ q ∈ nx', q.1 ≠ I ∧ q.1 ≠ C ∧ q.1 ≠ D) ∧ Apart nx' (cs.map (·.1)) ∧ DatAll nx' ys (ds0 ++ ((List.range j).filter p).map f)) ?_ (n2 + 1)
    ⟨h1, tk1, 0, ys0, m₂, nx, rfl, Nat.zero_le _, rfl, Nat.le_refl _, hit, F, hn, hm1, N, fun _ h => h, offn, hap, by simpa using hd⟩
  rintro k s' ⟨h', tk, j, ys, m', nx', rfl, hj, rfl, hyl, hst', F', hn', hm', N', hs', off', hap', hd'⟩
  have offA : ∀ q ∈ (D, lst ys) :: (cs ++ nx'), q.1 ≠ I ∧ q.1 ≠ C := by
    intro q hq
    rcases List.mem_cons.mp hq with rfl | hq
    · exact ⟨hDI, Ne.symm hCD⟩
    · rcases List.mem_append.mp hq with hq | hq
      · have := offc q.1 (List.mem_map.mpr ⟨q, hq, rfl⟩)
        exact ⟨this.1, this.2.1⟩
      · exact ⟨(off' q hq).1, (off' q hq).2.1⟩
  by_cases hlt : j < n2
  · refine W.item j _ _ _ hlt hst' fun v h₂ tk₂ hPv hst₂ hk₂ => ?_
    obtain ⟨tj, rfl⟩ := hPv
    rw [Int.zero_add]
    refine wpAny_assign_Name (wpAny_storeName_local (lookup_relabel_local hx2) (hn'.at' fun o e => hk₂ _ o (by simpa using hCI) e) (fun h₃ hn₃ hs₃ => ?_) (by simp [compEnvC, relabel, hkind]))
    have hst₃ : IsRangeIter h₃ I ((0 : Int) + ((j + 1 : Nat) : Int) * 1) ((n2 : Int) - ((j + 1 : Nat) : Int)) 1 := W.frame _ _ _ hst₂ fun b hb o e => hs₃.extBut b o (by rw [List.mem_singleton.mp hb]; exact Ne.symm hCI) e
    obtain ⟨oI, heI, hoI⟩ : ∃ oI : Obj, h₃.get? I = some oI ∧ ∀ h : Heap, h.get? I = some oI → IsRangeIter h I ((0 : Int) + ((j + 1 : Nat) : Int) * 1) ((n2 : Int) - ((j + 1 : Nat) : Int)) 1 := ⟨_, hst₃, fun _ e => e⟩
    obtain ⟨oC, heC, hoC⟩ := ns_obj hn₃
    have F₃ : Fr h₀ L h₃ m := (fr_but F' hk₂ hIL hI0).change hs₃ hCL hC0
    have N₃ : News h₀ L h₃ ((I, oI) :: (C, oC) :: (D, lst ys) :: (cs ++ nx')) := fun q hq => by
      rcases List.mem_cons.mp hq with rfl | hq
      · exact ⟨heI, Ne.symm hIL, hI0⟩
      · rcases List.mem_cons.mp hq with rfl | hq
        · exact ⟨heC, hCL, hC0⟩
        · have z := news_but N' hk₂ (fun q hq => (offA q hq).1) q hq
          exact ⟨hs₃.extBut _ _ (offA q hq).2 z.1, z.2⟩
    have hm3 : (fun z => if z = x2 then some (Value.int (j : Nat) tj) else m' z) x1 = some v1 := by simp [hx12, hm']
    refine wpAny_tests_one (wpAny_mono (test j tj oI oC _ ys h₃ _ nx' _ hlt hs' hap' hoC hm3 (by simp) F₃ N₃ off') (fun ok s₄ h₄ => ?_) fun _ _ e => e)
    obtain ⟨rfl, h₄, tk₄, rfl, F₄, N₄⟩ := h₄
    have hR1 : (List.range (j + 1)).filter p = (List.range j).filter p ++ (if p j then [j] else []) := by
      rw [List.range_succ, List.filter_append]
      congr 1
      cases h : p j <;> simp [h]
    cases hpj : p j with
    | false =>
      simp only [Bool.false_eq_true, if_false]
      refine ⟨n2 + 1 - (j + 1), by omega, h₄, tk₄, j + 1, ys, _, nx', rfl, hlt, rfl, by omega, hoI h₄ (N₄ _ (.head _)).1, F₄, hoC.ns (N₄ _ (.tail _ (.head _))).1, hm3, fun q hq => N₄ q (.tail _ (.tail _ hq)), hs', off', hap', ?_⟩
      rw [hR1, hpj]; simpa using hd'
    | true =>
      simp only [if_true]
      refine wpAny_mono (el j tj oI oC _ ys h₄ _ nx' _ hlt hpj hs' hap' hoC hm3 (by simp) F₄ N₄ off') (fun y s₅ h₅ => ?_) fun _ _ e => e
      obtain ⟨h₅, tk₅, _, nx₅, rfl, F₅, N₅, off₅, hs₅, hap₅, _, hd₅⟩ := h₅
      have zD := (N₅ (D, lst ys) (.tail _ (.tail _ (.head _)))).1
      refine append_at (hsz := by show ys.toArray.size ≤ sizeLine; rw [List.size_toArray, sizeLine_eq]; omega) zD fun h₆ hs₆ hD₆ => ?_
      refine ⟨n2 + 1 - (j + 1), by omega, h₆, tk₅, j + 1, ys ++ [y], _, nx₅, rfl, hlt, rfl, by rw [List.length_append, List.length_singleton]; omega, hoI h₆ (hs₆.extBut I oI (Ne.symm hDI) (N₅ _ (.head _)).1), F₅.change hs₆ hDL hD0,
        (hoC.ns (N₅ _ (.tail _ (.head _))).1).sameBut hs₆ hCD, hm3, fun q hq => ?_, fun q hq => hs₅ q (hs' q hq), off₅, hap₅, ?_⟩
      · rcases List.mem_cons.mp hq with rfl | hq
        · exact ⟨hD₆.trans (congrArg some (lst_snoc ys y)), hDL, hD0⟩
        · have z := N₅ q (.tail _ (.tail _ (.tail _ hq)))
          refine ⟨hs₆.extBut _ _ ?_ z.1, z.2⟩
          rcases List.mem_append.mp hq with hq | hq
          · exact (offc q.1 (List.mem_map.mpr ⟨q, hq, rfl⟩)).2.2
          · exact (off₅ q hq).2.2
      · rw [hR1, hpj]
        have := DatAll.append (DatAll.mono hs₅ hd') (DatAll.one hd₅)
        simpa [List.append_assoc] using this
  · have hin : j = n2 := by omega
    subst hin
    refine W.done _ _ _ hst' fun h₂ tk₂ hk₂ => ?_
    exact hR h₂ tk₂ ys nx' m' (fr_but F' hk₂ hIL hI0) (hn'.at' fun o e => hk₂ _ o (by simpa using hCI) e) (news_but N' hk₂ fun q hq => (offA q hq).1) hs' off' hap' hd' hyl
end
end Mine
end
section
open PySem PySem.W PyProof.Rows
open PyProof.Rows.LCg (NsObj lst ns_obj fr_but news_but lst_snoc)
namespace Mine
section
variable {prog : Program} {w : World} {A : Around} {E : Value → Shared → Prop} {h₀ : Heap} {L : Addr} {m : Str → Option Value} {env : Env} {elt c i1 i2 : PySem.Expr} {x1 x2 : Str} {p1 p2 : Pos} {scope : Scope} {cl : List (Str × Addr)} {pos : Pos} {s s₁ : Shared}
def spec2 (n1 n2 : Nat) (p : Nat → Nat → Bool) (f : Nat → Nat → Dat) : List Dat := (List.range n1).flatMap fun i => ((List.range n2).filter (p i)).map (f i)
theorem spec2_succ (n1 n2 : Nat) (p : Nat → Nat → Bool) (f : Nat → Nat → Dat) : spec2 (n1 + 1) n2 p f = spec2 n1 n2 p f ++ ((List.range n2).filter (p n1)).map (f n1) := by
  simp [spec2, List.range_succ]
/-- where the second iterable of a turn ends -/
def IterEnd (h₀ : Heap) (L : Addr) (m : Str → Option Value) (all : Led) (b2 : Int) (s₁ : Shared) (xv : Value) (s₂ : Shared) : Prop :=
  ∃ r h' tk t u v, xv = .ref r ∧ s₂ = { s₁ with heap := h', toks := tk } ∧ IsRange h' r 0 b2 1 t u v ∧ Fr h₀ L h' m ∧ News h₀ L h' all
theorem block2 {n1 n2 : Nat} {b b2 : Int} {r : Addr} {t u v : Tok} {p : Nat → Nat → Bool} {f : Nat → Nat → Dat} {cs nx : Led} {RR : Value → Addr → Result → Shared → Prop}
    (hh : A.handled = none) (hr : IsRange s₁.heap r 0 b 1 t u v) (hsm : Builtin.Range.small 0 b 1 = true) (hn1 : Builtin.Range.rangeSize 0 b 1 = ((n1 : Nat) : Int)) (hsm2 : Builtin.Range.small 0 b2 1 = true) (hn2 : Builtin.Range.rangeSize 0 b2 1 = ((n2 : Nat) : Int)) (hb1 : n1 ≤ 50) (hb2 : n2 ≤ 50)
    (hcell : ∀ y ∈ scope.names, y.2 ≠ .cell) (hkind : scope.kind = .function) (hx1 : scope.names.lookup x1 = some .local) (hx2 : scope.names.lookup x2 = some .local) (hx12 : x1 ≠ x2) (hs2 : ∀ cenv x, foldedSetIterable i2 cenv x = pure x)
    (F : Fr h₀ L s₁.heap m) (N : News h₀ L s₁.heap (cs ++ nx)) (hap : Apart nx (cs.map (·.1)))
    (iter : ∀ (i : Nat) ti I oI C oC D m₃ ys h tk nx' (E' : Value → Shared → Prop), i < n1 → (∀ q ∈ nx, q ∈ nx') → Apart nx' (cs.map (·.1)) → NsObj oC m₃ → m₃ x1 = some (.int (i : Nat) ti) → Fr h₀ L h m → News h₀ L h ((I, oI) :: (C, oC) :: (D, lst ys) :: (cs ++ nx')) →
      (∀ q ∈ nx', q.1 ≠ I ∧ q.1 ≠ C ∧ q.1 ≠ D) → (∀ z ∈ cs.map (·.1), z ≠ I ∧ z ≠ C ∧ z ≠ D) →
      wpAny (model prog w) A (eval i2 (compEnvC scope cl C env)) (IterEnd h₀ L m ((I, oI) :: (C, oC) :: (D, lst ys) :: (cs ++ nx')) b2 { s₁ with heap := h, toks := tk }) E' { s₁ with heap := h, toks := tk })
    (test : ∀ (i j : Nat) ti tj I oI C oC D m₃ ys h tk nx' (E' : Value → Shared → Prop), i < n1 → j < n2 → (∀ q ∈ nx, q ∈ nx') → Apart nx' (cs.map (·.1)) → NsObj oC m₃ → m₃ x1 = some (.int (i : Nat) ti) → m₃ x2 = some (.int (j : Nat) tj) → Fr h₀ L h m → News h₀ L h ((I, oI) :: (C, oC) :: (D, lst ys) :: (cs ++ nx')) →
      (∀ q ∈ nx', q.1 ≠ I ∧ q.1 ≠ C ∧ q.1 ≠ D) → (∀ z ∈ cs.map (·.1), z ≠ I ∧ z ≠ C ∧ z ≠ D) →
      wpAny (model prog w) A (isTrue c (compEnvC scope cl C env) (eval c (compEnvC scope cl C env))) (TestEnd h₀ L m ((I, oI) :: (C, oC) :: (D, lst ys) :: (cs ++ nx')) (p i j) { s₁ with heap := h, toks := tk }) E' { s₁ with heap := h, toks := tk })
    (el : ∀ (i j : Nat) ti tj I oI C oC D m₃ ys h tk nx' (E' : Value → Shared → Prop), i < n1 → j < n2 → p i j = true → (∀ q ∈ nx, q ∈ nx') → Apart nx' (cs.map (·.1)) → NsObj oC m₃ → m₃ x1 = some (.int (i : Nat) ti) → m₃ x2 = some (.int (j : Nat) tj) → Fr h₀ L h m → News h₀ L h ((I, oI) :: (C, oC) :: (D, lst ys) :: (cs ++ nx')) →
      (∀ q ∈ nx', q.1 ≠ I ∧ q.1 ≠ C ∧ q.1 ≠ D) → (∀ z ∈ cs.map (·.1), z ≠ I ∧ z ≠ C ∧ z ≠ D) →
      wpAny (model prog w) A (eval elt (compEnvC scope cl C env)) (GrowEnd h₀ L m (fun _ : Unit => cs) (fun _ => True) (fun nn y => DatIn nn y (f i j)) nx' (cs.map (·.1)) I oI C oC D (lst ys) { s₁ with heap := h, toks := tk }) E' { s₁ with heap := h, toks := tk })
    (hRR : ∀ D C h tk m' ys nx', Fr h₀ L h m → News h₀ L h ((D, lst ys) :: (cs ++ nx')) → h.Ns C m' → h₀.get? C = none → h₀.get? D = none → C ≠ L → D ≠ L → C ≠ D → (∀ q ∈ cs ++ nx', q.1 ≠ C ∧ q.1 ≠ D) → (∀ q ∈ nx, q ∈ nx') → Apart nx' (cs.map (·.1)) → DatAll nx' ys (spec2 n1 n2 p f) → RR (.ref D) C (.ok .next) { s₁ with heap := h, toks := tk }) :
    wpAny (model prog w) A (pyIter (.ref r)) (fun it s₂ => wpAny (model prog w) A (newList []) (fun acc s₃ => wpAny (model prog w) A (newFunctionEnv scope env.globals cl [] env.qual none .none (some env)) (fun cenv s₄ =>
      codeAny (model prog w) A (.compStart (.ListComp elt [⟨.Name x1 p1, i1, [], 0⟩, ⟨.Name x2 p2, i2, [c], 0⟩] scope pos) 0 it acc { cenv with scope := relabel scope env }) (RR acc cenv.locals) s₄) E s₃) E s₂) E s₁ := by
  refine wpAny_pyIter_range hr hsm ?_
  generalize hI : s₁.heap.objs.size = I
  generalize hH1 : s₁.heap.push { cls := .type "range_iterator", data := .fields #[rawInt 0, rawInt (Builtin.Range.rangeSize 0 b 1), rawInt 1] } = H1
  have hD1 : H1.objs.size = I + 1 := by rw [← hH1, Heap.size_push, hI]
  have up1 : ∀ b o, s₁.heap.get? b = some o → H1.get? b = some o := fun b o e => hH1 ▸ Heap.get?_push_of_some _ e
  have hit1 : IsRangeIter H1 I ((0 : Int) + ((0 : Nat) : Int) * 1) ((n1 : Int) - ((0 : Nat) : Int)) 1 := by
    show H1.get? I = _
    rw [← hH1, ← hI, hn1]; simpa using Heap.get?_push_size _ rfl
  have F1 : Fr h₀ L H1 m := F.keeps up1
  have N1 : News h₀ L H1 (cs ++ nx) := N.grown up1
  refine wpAny_newObj_type (wpAny_newFunctionEnv hcell (by intro y hy; simp at hy) (fun h₁ hns₁ hsb₁ => ?_) hkind)
  dsimp only at hns₁ hsb₁ ⊢
  generalize hD : H1.objs.size = D at hns₁ hsb₁ ⊢
  generalize hH2 : H1.push { cls := .type "list", dict := none, data := .seq ([] : List Value).toArray } = H2 at hns₁ hsb₁ ⊢
  have hC1 : H2.objs.size = D + 1 := by rw [← hH2, Heap.size_push, hD]
  generalize hC : H2.objs.size = C at hns₁ hsb₁ hC1 ⊢
  have hDI1 : D = I + 1 := by rw [← hD, hD1]
  have hlt : ∀ b o, s₁.heap.get? b = some o → b < I := fun b o e => hI ▸ Heap.lt_size e
  have lt1 : ∀ b o, H1.get? b = some o → b < D := fun b o e => hD ▸ Heap.lt_size e
  have up2 : ∀ b o, H1.get? b = some o → h₁.get? b = some o := fun b o e => hsb₁.extBut b o (by have := lt1 b o e; rw [hC1]; exact Nat.ne_of_lt (Nat.lt_succ_of_lt this)) (Heap.get?_push_of_some _ (by rw [← hH2]; exact Heap.get?_push_of_some _ e))
  have hacc : h₁.get? D = some (lst []) := hsb₁.extBut _ _ (by rw [hC1]; exact Nat.ne_of_lt (Nat.lt_succ_self _)) (Heap.get?_push_of_some _ (by rw [← hH2, ← hD]; exact Heap.get?_push_size _ rfl))
  have fresh₀ : ∀ a, I ≤ a → h₀.get? a = none := fun a ha => by
    cases e : h₀.get? a with
    | none => rfl
    | some o => exact absurd (hlt a o (F.keep a o e)) (Nat.not_lt.mpr ha)
  have hI0 := fresh₀ I (Nat.le_refl _)
  have hD0 := fresh₀ D (by rw [hDI1]; exact Nat.le_succ _)
  have hC0 := fresh₀ C (by rw [hC1, hDI1]; exact Nat.le_succ_of_le (Nat.le_succ _))
  have hLI : L < I := hI ▸ F.ns.lt
  have hIL : L ≠ I := Nat.ne_of_lt hLI
  have hDL : D ≠ L := by rw [hDI1]; exact Nat.ne_of_gt (Nat.lt_succ_of_lt hLI)
  have hCL : C ≠ L := by rw [hC1, hDI1]; exact Nat.ne_of_gt (Nat.lt_succ_of_lt (Nat.lt_succ_of_lt hLI))
  have hCI : C ≠ I := by rw [hC1, hDI1]; exact Nat.ne_of_gt (Nat.lt_succ_of_lt (Nat.lt_succ_self _))
  have hDI : D ≠ I := by rw [hDI1]; exact Nat.ne_of_gt (Nat.lt_succ_self _)
  have hCD : C ≠ D := by rw [hC1]; exact Nat.ne_of_gt (Nat.lt_succ_self _)
  have offl : ∀ q ∈ cs ++ nx, q.1 ≠ I ∧ q.1 ≠ C ∧ q.1 ≠ D := fun q hq => by
    have := hlt _ _ (N q hq).1
    refine ⟨Nat.ne_of_lt this, ?_, ?_⟩
    · rw [hC1, hDI1]; exact Nat.ne_of_lt (Nat.lt_succ_of_lt (Nat.lt_succ_of_lt this))
    · rw [hDI1]; exact Nat.ne_of_lt (Nat.lt_succ_of_lt this)
  have offc : ∀ z ∈ cs.map (·.1), z ≠ I ∧ z ≠ C ∧ z ≠ D := fun z hz => by
    obtain ⟨q, hq, rfl⟩ := List.mem_map.mp hz
    exact offl q (List.mem_append.mpr (.inl hq))
  have W := LCg.range_walks (prog := prog) (w := w) (A := A) (I := I) hh 0 n1
  have loop : ∀ s₃ : Shared, s₃ = { s₁ with heap := h₁, toks := s₁.toks + ([] : List (Str × Value)).length } →
      codeAny (model prog w) A (.compLoop (.ListComp elt [⟨.Name x1 p1, i1, [], 0⟩, ⟨.Name x2 p2, i2, [c], 0⟩] scope pos) 0 (.ref I) (.ref D) (compEnvC scope cl C env)) (RR (.ref D) C) s₃ := by
    rintro s₃ rfl
    refine loop_outer (hs := hs2 _)
      (fun k s' => ∃ h' tk i ys m' nx', s' = { s₁ with heap := h', toks := tk } ∧ i ≤ n1 ∧ k = n1 + 1 - i ∧ ys.length ≤ i * n2 ∧ IsRangeIter h' I ((0 : Int) + (i : Nat) * 1) ((n1 : Int) - (i : Nat)) 1 ∧ Fr h₀ L h' m ∧ h'.Ns C m' ∧
        News h₀ L h' ((D, lst ys) :: (cs ++ nx')) ∧ (∀ q ∈ nx, q ∈ nx') ∧ (∀ q ∈ nx', q.1 ≠ I ∧ q.1 ≠ C ∧ q.1 ≠ D) ∧ Apart nx' (cs.map (·.1)) ∧ DatAll nx' ys (spec2 i n2 p f)) ?_ (n1 + 1)
      ⟨h₁, _, 0, [], _, nx, rfl, Nat.zero_le _, rfl, by simp, up2 I _ hit1, F1.keeps up2, hns₁, fun q hq => ?_, fun _ h => h, fun q hq => offl q (List.mem_append.mpr (.inr hq)), hap, by simpa [spec2] using DatAll.nil⟩
    · rintro k s' ⟨h', tk, i, ys, m', nx', rfl, hi, rfl, hyl, hst', F', hn', N', hs', off', hap', hd'⟩
      have offA : ∀ q ∈ (D, lst ys) :: (cs ++ nx'), q.1 ≠ I ∧ q.1 ≠ C := by
        intro q hq
        rcases List.mem_cons.mp hq with rfl | hq
        · exact ⟨hDI, Ne.symm hCD⟩
        · rcases List.mem_append.mp hq with hq | hq
          · have := offc q.1 (List.mem_map.mpr ⟨q, hq, rfl⟩)
            exact ⟨this.1, this.2.1⟩
          · exact ⟨(off' q hq).1, (off' q hq).2.1⟩
      by_cases hlt : i < n1
      · refine W.item i _ _ _ hlt hst' fun v h₂ tk₂ hPv hst₂ hk₂ => ?_
        obtain ⟨ti, rfl⟩ := hPv
        rw [Int.zero_add]
        refine wpAny_assign_Name (wpAny_storeName_local (lookup_relabel_local hx1) (hn'.at' fun o e => hk₂ _ o (by simpa using hCI) e) (fun h₃ hn₃ hs₃ => ?_) (by simp [compEnvC, relabel, hkind]))
        have hst₃ : IsRangeIter h₃ I ((0 : Int) + ((i + 1 : Nat) : Int) * 1) ((n1 : Int) - ((i + 1 : Nat) : Int)) 1 := W.frame _ _ _ hst₂ fun b hb o e => hs₃.extBut b o (by rw [List.mem_singleton.mp hb]; exact Ne.symm hCI) e
        obtain ⟨oI, heI, hcI, hoI⟩ : ∃ oI : Obj, h₃.get? I = some oI ∧ oI.cls = .type "range_iterator" ∧ ∀ h : Heap, h.get? I = some oI → IsRangeIter h I ((0 : Int) + ((i + 1 : Nat) : Int) * 1) ((n1 : Int) - ((i + 1 : Nat) : Int)) 1 := ⟨_, hst₃, rfl, fun _ e => e⟩
        obtain ⟨oC, heC, hoC⟩ := ns_obj hn₃
        have F₃ : Fr h₀ L h₃ m := (fr_but F' hk₂ hIL hI0).change hs₃ hCL hC0
        have N₃ : News h₀ L h₃ ((I, oI) :: (C, oC) :: (D, lst ys) :: (cs ++ nx')) := fun q hq => by
          rcases List.mem_cons.mp hq with rfl | hq
          · exact ⟨heI, Ne.symm hIL, hI0⟩
          · rcases List.mem_cons.mp hq with rfl | hq
            · exact ⟨heC, hCL, hC0⟩
            · have z := news_but N' hk₂ (fun q hq => (offA q hq).1) q hq
              exact ⟨hs₃.extBut _ _ (offA q hq).2 z.1, z.2⟩
        refine wpAny_mono (iter i ti I oI C oC D _ ys h₃ _ nx' _ hlt hs' hap' hoC (by simp) F₃ N₃ off' offc) (fun xv s₄ h₄ => ?_) fun _ _ e => e
        obtain ⟨r2, h₄, tk₄, t2, u2, v2, rfl, rfl, hr2, F₄, N₄⟩ := h₄
        refine wpAny_pyIter_range hr2 hsm2 ?_
        dsimp only
        generalize hI2 : h₄.objs.size = I2
        generalize hH5 : h₄.push { cls := .type "range_iterator", data := .fields #[rawInt 0, rawInt (Builtin.Range.rangeSize 0 b2 1), rawInt 1] } = h₅
        have lt4 : ∀ b o, h₄.get? b = some o → b < I2 := fun b o e => hI2 ▸ Heap.lt_size e
        have up5 : ∀ b o, h₄.get? b = some o → h₅.get? b = some o := fun b o e => hH5 ▸ Heap.get?_push_of_some _ e
        have hit5 : IsRangeIter h₅ I2 ((0 : Int) + ((0 : Nat) : Int) * 1) ((n2 : Int) - ((0 : Nat) : Int)) 1 := by
          show h₅.get? I2 = _
          rw [← hH5, ← hI2, hn2]; simpa using Heap.get?_push_size _ rfl
        have F₅ : Fr h₀ L h₅ m := F₄.keeps up5
        have N₅ : News h₀ L h₅ ((I, oI) :: (C, oC) :: (D, lst ys) :: (cs ++ nx')) := N₄.grown up5
        have ltI : I < I2 := lt4 _ _ (N₄ (I, oI) (.head _)).1
        have ltC : C < I2 := lt4 _ _ (N₄ (C, oC) (.tail _ (.head _))).1
        have ltD : D < I2 := lt4 _ _ (N₄ (D, lst ys) (.tail _ (.tail _ (.head _)))).1
        have ltl : ∀ q ∈ cs ++ nx', q.1 < I2 := fun q hq => lt4 _ _ (N₄ q (.tail _ (.tail _ (.tail _ hq)))).1
        have hI20 : h₀.get? I2 = none := by
          cases e : h₀.get? I2 with
          | none => rfl
          | some o => exact absurd (lt4 _ _ (F₄.keep _ _ e)) (Nat.lt_irrefl _)
        have hLI2 : L < I2 := hI2 ▸ F₄.ns.lt
        have N₅' : News h₀ L h₅ ((D, lst ys) :: (cs ++ ((I, oI) :: nx'))) := fun q hq => by
          rcases List.mem_cons.mp hq with rfl | hq
          · exact N₅ _ (.tail _ (.tail _ (.head _)))
          · rcases List.mem_append.mp hq with hq | hq
            · exact N₅ _ (.tail _ (.tail _ (.tail _ (List.mem_append.mpr (.inl hq)))))
            · rcases List.mem_cons.mp hq with rfl | hq
              · exact N₅ _ (.head _)
              · exact N₅ _ (.tail _ (.tail _ (.tail _ (List.mem_append.mpr (.inr hq)))))
        have offc2 : ∀ z ∈ cs.map (·.1), z ≠ I2 ∧ z ≠ C ∧ z ≠ D := fun z hz => by
          obtain ⟨q, hq, rfl⟩ := List.mem_map.mp hz
          exact ⟨Nat.ne_of_lt (ltl q (List.mem_append.mpr (.inl hq))), (offc q.1 hz).2⟩
        have ap2 : ∀ nn : Led, (∀ q ∈ (I, oI) :: nx', q ∈ nn) → ∀ q ∈ nx, q ∈ nn := fun nn h q hq => h q (.tail _ (hs' q hq))
        have inner : codeAny (model prog w) A (.compLoop (.ListComp elt [⟨.Name x1 p1, i1, [], 0⟩, ⟨.Name x2 p2, i2, [c], 0⟩] scope pos) 1 (.ref I2) (.ref D) (compEnvC scope cl C env))
            (fun r s₅ => match r with | .ok _ => (∃ km, km < n1 + 1 - i ∧ ∃ h' tk i ys m' nx', s₅ = { s₁ with heap := h', toks := tk } ∧ i ≤ n1 ∧ km = n1 + 1 - i ∧ ys.length ≤ i * n2 ∧ IsRangeIter h' I ((0 : Int) + (i : Nat) * 1) ((n1 : Int) - (i : Nat)) 1 ∧ Fr h₀ L h' m ∧ h'.Ns C m' ∧
              News h₀ L h' ((D, lst ys) :: (cs ++ nx')) ∧ (∀ q ∈ nx, q ∈ nx') ∧ (∀ q ∈ nx', q.1 ≠ I ∧ q.1 ≠ C ∧ q.1 ≠ D) ∧ Apart nx' (cs.map (·.1)) ∧ DatAll nx' ys (spec2 i n2 p f)) | .error _ => False) { s₁ with heap := h₅, toks := tk₄ } := by
          refine inner_fill (s := s₁) (v1 := .int (i : Nat) ti) (nx := (I, oI) :: nx') (ds0 := spec2 i n2 p f) (p := p i) (f := f i) hh hx2 hkind hx12 ?_ hit5 F₅ (hoC.ns (N₅ _ (.tail _ (.head _))).1) (by simp) N₅' (Nat.ne_of_lt hLI2) hI20 hC0 hD0 hCL hDL (Nat.ne_of_lt ltC) (Nat.ne_of_lt ltD) hCD ?_ offc2 ?_ (DatAll.mono (fun q hq => .tail _ hq) hd') ?_ ?_ ?_
          · have := Nat.mul_le_mul (Nat.le_trans hi hb1) hb2
            omega
          · intro q hq
            rcases List.mem_cons.mp hq with rfl | hq
            · exact ⟨Nat.ne_of_lt ltI, Ne.symm hCI, Ne.symm hDI⟩
            · exact ⟨Nat.ne_of_lt (ltl q (List.mem_append.mpr (.inr hq))), (off' q hq).2⟩
          · intro q hq z hz
            rcases List.mem_cons.mp hq with rfl | hq
            · exact Ne.symm (offc z hz).1
            · exact hap' q hq z hz
          · intro j tj oI2 oC2 m₃ ys2 h tk nn E' hj hsub hapn hC2 hm1 hm2 F6 N6 off6
            exact test i j ti tj I2 oI2 C oC2 D m₃ ys2 h tk nn E' hlt hj (ap2 nn hsub) hapn hC2 hm1 hm2 F6 N6 off6 offc2
          · intro j tj oI2 oC2 m₃ ys2 h tk nn E' hj hp hsub hapn hC2 hm1 hm2 F6 N6 off6
            exact el i j ti tj I2 oI2 C oC2 D m₃ ys2 h tk nn E' hlt hj hp (ap2 nn hsub) hapn hC2 hm1 hm2 F6 N6 off6 offc2
          · intro h6 tk6 ys6 nn m6 F6 hn6 N6 hsub off6 hap6 hd6 hl6
            have hIn : (I, oI) ∈ nn := hsub _ (.head _)
            have hI6 : h6.get? I = some oI := (N6 _ (.tail _ (List.mem_append.mpr (.inr hIn)))).1
            have Nn : News h₀ L h6 nn := fun q hq => N6 q (.tail _ (List.mem_append.mpr (.inr hq)))
            refine ⟨n1 + 1 - (i + 1), by omega, h6, tk6, i + 1, ys6, m6, nn.filter (fun q => decide (q.1 ≠ I)), rfl, hlt, rfl, ?_, hoI h6 hI6, F6, hn6, ?_, ?_, ?_, ?_, ?_⟩
            · rw [Nat.succ_mul]; omega
            · intro q hq
              refine N6 q ?_
              rcases List.mem_cons.mp hq with rfl | hq
              · exact .head _
              · rcases List.mem_append.mp hq with hq | hq
                · exact .tail _ (List.mem_append.mpr (.inl hq))
                · exact .tail _ (List.mem_append.mpr (.inr (List.mem_filter.mp hq).1))
            · intro q hq
              exact List.mem_filter.mpr ⟨hsub q (.tail _ (hs' q hq)), decide_eq_true (off' q (hs' q hq)).1⟩
            · intro q hq
              have z := List.mem_filter.mp hq
              exact ⟨of_decide_eq_true z.2, (off6 q z.1).2⟩
            · intro q hq z hz
              exact hap6 q (List.mem_filter.mp hq).1 z hz
            · rw [spec2_succ]
              exact datAll_fil Nn hI6 (by rw [hcI]; decide) (by rw [hcI]; decide) hd6
        exact start_inner inner ((LCg.range_walks (prog := prog) (w := w) (A := A) (I := I2) hh 0 n2).self 0 _ _ _ hit5 inner)
      · obtain rfl : i = n1 := Nat.le_antisymm hi (Nat.not_lt.mp hlt)
        refine W.done _ _ _ hst' fun h₂ tk₂ hk₂ => ?_
        refine hRR _ _ h₂ tk₂ m' ys nx' (fr_but F' hk₂ hIL hI0) (news_but N' hk₂ fun q hq => (offA q hq).1) (hn'.at' fun o e => hk₂ _ o (by simpa using hCI) e) hC0 hD0 hCL hDL hCD ?_ hs' hap' hd'
        intro q hq
        rcases List.mem_append.mp hq with hq | hq
        · exact (offc q.1 (List.mem_map.mpr ⟨q, hq, rfl⟩)).2
        · exact (off' q hq).2
    · rcases List.mem_cons.mp hq with rfl | hq
      · exact ⟨hacc, hDL, hD0⟩
      · exact ⟨up2 _ _ (N1 q hq).1, (N1 q hq).2⟩
  exact codeAny_compStart_list (loop _ rfl) (W.self 0 _ _ _ (up2 I _ hit1) (loop _ rfl))
end
end Mine
end
section
open PySem PySem.W PyProof.Rows
open PyProof.Rows.LCg (NsObj lst ns_obj fr_but news_but lst_snoc)
namespace Mine
section
variable (prog : Program) (w : World) (A : Around) (h₀ : Heap) (L : Addr) (m : Str → Option Value) (env : Env) (elt c i2 : PySem.Expr) (x1 x2 : Str) (scope : Scope) (cl : List (Str × Addr)) (s₁ : Shared)
abbrev IterOb (n1 : Nat) (b2 : Int) (cs nx : Led) : Prop := ∀ (i : Nat) ti I oI C oC D m₃ ys h tk nx' (E' : Value → Shared → Prop), i < n1 → (∀ q ∈ nx, q ∈ nx') → Apart nx' (cs.map (·.1)) → NsObj oC m₃ → m₃ x1 = some (.int (i : Nat) ti) → Fr h₀ L h m → News h₀ L h ((I, oI) :: (C, oC) :: (D, lst ys) :: (cs ++ nx')) →
      (∀ q ∈ nx', q.1 ≠ I ∧ q.1 ≠ C ∧ q.1 ≠ D) → (∀ z ∈ cs.map (·.1), z ≠ I ∧ z ≠ C ∧ z ≠ D) →
      wpAny (model prog w) A (eval i2 (compEnvC scope cl C env)) (IterEnd h₀ L m ((I, oI) :: (C, oC) :: (D, lst ys) :: (cs ++ nx')) b2 { s₁ with heap := h, toks := tk }) E' { s₁ with heap := h, toks := tk }
abbrev TestOb (n1 n2 : Nat) (p : Nat → Nat → Bool) (cs nx : Led) : Prop := ∀ (i j : Nat) ti tj I oI C oC D m₃ ys h tk nx' (E' : Value → Shared → Prop), i < n1 → j < n2 → (∀ q ∈ nx, q ∈ nx') → Apart nx' (cs.map (·.1)) → NsObj oC m₃ → m₃ x1 = some (.int (i : Nat) ti) → m₃ x2 = some (.int (j : Nat) tj) → Fr h₀ L h m → News h₀ L h ((I, oI) :: (C, oC) :: (D, lst ys) :: (cs ++ nx')) →
      (∀ q ∈ nx', q.1 ≠ I ∧ q.1 ≠ C ∧ q.1 ≠ D) → (∀ z ∈ cs.map (·.1), z ≠ I ∧ z ≠ C ∧ z ≠ D) →
      wpAny (model prog w) A (isTrue c (compEnvC scope cl C env) (eval c (compEnvC scope cl C env))) (TestEnd h₀ L m ((I, oI) :: (C, oC) :: (D, lst ys) :: (cs ++ nx')) (p i j) { s₁ with heap := h, toks := tk }) E' { s₁ with heap := h, toks := tk }
abbrev ElOb (n1 n2 : Nat) (p : Nat → Nat → Bool) (f : Nat → Nat → Dat) (cs nx : Led) : Prop := ∀ (i j : Nat) ti tj I oI C oC D m₃ ys h tk nx' (E' : Value → Shared → Prop), i < n1 → j < n2 → p i j = true → (∀ q ∈ nx, q ∈ nx') → Apart nx' (cs.map (·.1)) → NsObj oC m₃ → m₃ x1 = some (.int (i : Nat) ti) → m₃ x2 = some (.int (j : Nat) tj) → Fr h₀ L h m → News h₀ L h ((I, oI) :: (C, oC) :: (D, lst ys) :: (cs ++ nx')) →
      (∀ q ∈ nx', q.1 ≠ I ∧ q.1 ≠ C ∧ q.1 ≠ D) → (∀ z ∈ cs.map (·.1), z ≠ I ∧ z ≠ C ∧ z ≠ D) →
      wpAny (model prog w) A (eval elt (compEnvC scope cl C env)) (GrowEnd h₀ L m (fun _ : Unit => cs) (fun _ => True) (fun nn y => DatIn nn y (f i j)) nx' (cs.map (·.1)) I oI C oC D (lst ys) { s₁ with heap := h, toks := tk }) E' { s₁ with heap := h, toks := tk }
def Src2 (y : Str) (Q : Flow → Shared → Prop) (xv : Value) : Prop :=
  ∃ (n1 n2 : Nat) (b b2 : Int) (r : Addr) (t u v : Tok) (p : Nat → Nat → Bool) (f : Nat → Nat → Dat) (cs nx : Led), xv = .ref r ∧ A.handled = none ∧ IsRange s₁.heap r 0 b 1 t u v ∧ Builtin.Range.small 0 b 1 = true ∧ Builtin.Range.rangeSize 0 b 1 = ((n1 : Nat) : Int) ∧ Builtin.Range.small 0 b2 1 = true ∧ Builtin.Range.rangeSize 0 b2 1 = ((n2 : Nat) : Int) ∧ n1 ≤ 50 ∧ n2 ≤ 50 ∧
    Fr h₀ L s₁.heap m ∧ News h₀ L s₁.heap (cs ++ nx) ∧ Apart nx (cs.map (·.1)) ∧ IterOb prog w A h₀ L m env i2 x1 scope cl s₁ n1 b2 cs nx ∧ TestOb prog w A h₀ L m env c x1 x2 scope cl s₁ n1 n2 p cs nx ∧ ElOb prog w A h₀ L m env elt x1 x2 scope cl s₁ n1 n2 p f cs nx ∧
    ∀ D h tk ys nx', Fr h₀ L h (fun z => if z = y then some (.ref D) else m z) → News h₀ L h ((D, lst ys) :: (cs ++ nx')) → (∀ q ∈ nx, q ∈ nx') → Apart nx' (cs.map (·.1)) → (∀ q ∈ cs ++ nx', q.1 ≠ D) → DatAll nx' ys (spec2 n1 n2 p f) → Q .next { s₁ with heap := h, toks := tk }
end
section
variable {prog : Program} {w : World} {A : Around} {E : Value → Shared → Prop} {h₀ : Heap} {L : Addr} {m : Str → Option Value} {env : Env} {elt c i1 i2 : PySem.Expr} {x1 x2 y : Str} {p1 p2 py : Pos} {scope : Scope} {cl : List (Str × Addr)} {pos spos : Pos} {s s₁ : Shared} {Q : Flow → Shared → Prop}
theorem Src2.intro {n1 n2 : Nat} {b b2 : Int} {r : Addr} {t u v : Tok} {all cs nx : Led} (p : Nat → Nat → Bool) (f : Nat → Nat → Dat) (hh : A.handled = none) (F : Fr h₀ L s₁.heap m) (N : News h₀ L s₁.heap all) (hsp : Split all cs nx) (hr : IsRange s₁.heap r 0 b 1 t u v) (hsm : Builtin.Range.small 0 b 1 = true) (hn1 : Builtin.Range.rangeSize 0 b 1 = ((n1 : Nat) : Int)) (hsm2 : Builtin.Range.small 0 b2 1 = true) (hn2 : Builtin.Range.rangeSize 0 b2 1 = ((n2 : Nat) : Int)) (hb1 : n1 ≤ 50) (hb2 : n2 ≤ 50)
    (hap : Apart nx (cs.map (·.1))) (iter : IterOb prog w A h₀ L m env i2 x1 scope cl s₁ n1 b2 cs nx) (test : TestOb prog w A h₀ L m env c x1 x2 scope cl s₁ n1 n2 p cs nx) (el : ElOb prog w A h₀ L m env elt x1 x2 scope cl s₁ n1 n2 p f cs nx)
    (fin : ∀ D h tk ys nx', Fr h₀ L h (fun z => if z = y then some (.ref D) else m z) → News h₀ L h ((D, lst ys) :: (cs ++ nx')) → (∀ q ∈ nx, q ∈ nx') → Apart nx' (cs.map (·.1)) → (∀ q ∈ cs ++ nx', q.1 ≠ D) → DatAll nx' ys (spec2 n1 n2 p f) → Q .next { s₁ with heap := h, toks := tk }) :
    Src2 prog w A h₀ L m env elt c i2 x1 x2 scope cl s₁ y Q (.ref r) :=
  ⟨n1, n2, b, b2, r, t, u, v, p, f, cs, nx, rfl, hh, hr, hsm, hn1, hsm2, hn2, hb1, hb2, F, hsp.eq ▸ N, hap, iter, test, el, fin⟩
theorem assign_comp2 (_F₀ : Fr h₀ L s.heap m) (hLe : env.locals = L)
    (hsw : swapsWith (.ListComp elt [⟨.Name x1 p1, i1, [], 0⟩, ⟨.Name x2 p2, i2, [c], 0⟩] scope pos) (some (.Name y py)) spos.line env = pure true)
    (hclos : closureFor scope env = pure cl) (hcell : ∀ z ∈ scope.names, z.2 ≠ .cell) (hkind : scope.kind = .function)
    (hnames : ∀ z ∈ scope.names, z.2 = .local → scope.names.lookup z.1 = some .local) (hx1 : scope.names.lookup x1 = some .local) (hx2 : scope.names.lookup x2 = some .local) (hx12 : x1 ≠ x2)
    (hy : env.kindOf y = some .local) (hp : (env.scope.kind == .class || (env.scope.kind == .module && env.locals != env.globals)) = false)
    (h : wpAny (model prog w) A (eval i1 env) (fun xv s₁ => Src2 prog w A h₀ L m env elt c i2 x1 x2 scope cl s₁ y Q xv) E s)
    (hs : ∀ x, foldedSetIterable i1 env x = pure x := by intro _; rfl) (hs2 : ∀ cenv x, foldedSetIterable i2 cenv x = pure x := by intro _ _; rfl) :
    wpAny (model prog w) A (exec (.Assign [.Name y py] (.ListComp elt [⟨.Name x1 p1, i1, [], 0⟩, ⟨.Name x2 p2, i2, [c], 0⟩] scope pos) spos) env) Q E s := by
  subst hLe
  rw [exec_Assign_Name_used _ _ _ _ hsw]
  refine wpAny_bind (wpAny_standAt (wpAny_bind ?_))
  show wpAny _ A (do let _ ← comprehension (.ListComp elt [⟨.Name x1 p1, i1, [], 0⟩, ⟨.Name x2 p2, i2, [c], 0⟩] scope pos) scope env _ (newList []) false (eval i1 env) (some (assign (.Name y py) env))) _ _ s
  refine wpAny_bind (wpAny_mono (wpAny_comprehension_free (use := some (assign (.Name y py) env)) (Q := fun _ s' => Q .next s') rfl hs hclos hkind hnames
    (wpAny_mono h (fun xv s₁ h₁ => ?_) fun _ _ e => e)) (fun _ s' hq => wpAny_pure (wpAny_pure hq)) fun _ _ e => e)
  obtain ⟨n1, n2, b, b2, r, t, u, v, p, f, cs, nx, rfl, hh, hr, hsm, hn1, hsm2, hn2, hb1, hb2, F, N, hap, iter, test, el, fin⟩ := h₁
  refine block2 hh hr hsm hn1 hsm2 hn2 hb1 hb2 hcell hkind hx1 hx2 hx12 hs2 F N hap iter test el ?_
  intro D C h' tk m' ys nx' F' N' hn hC₀ hD₀ hCL hDL hCD offC hs' hap' hd'
  show wpAny _ A (assign (.Name y py) env (.ref D)) _ _ _
  refine wpAny_assign_Name (wpAny_storeName_local hy F'.ns (fun h₂ hn₂ hs₂ => ?_) hp)
  have hL₀ : h₀.get? env.locals = none := Heap.get?_none_of_le F'.above
  have F₂ : Fr h₀ env.locals h₂ (fun z => if z = y then some (.ref D) else m z) := ⟨hn₂, fun b o e => hs₂.extBut b o (fun q => by rw [q, hL₀] at e; cases e) (F'.keep b o e), F'.above⟩
  refine ⟨m', hn.sameBut hs₂ hCL, fun h'' hs'' => fin D h'' _ ys nx' (F₂.change hs'' hCL hC₀) (fun p hp => ?_) hs' hap' (fun q hq => (offC q hq).2) hd'⟩
  have z : h₂.get? p.1 = some p.2 := hs₂.extBut _ _ (N' p hp).2.1 (N' p hp).1
  refine ⟨hs''.extBut _ _ ?_ z, (N' p hp).2⟩
  rcases List.mem_cons.mp hp with rfl | hp
  · exact Ne.symm hCD
  · exact (offC p hp).1
end
end Mine
end
section
open PySem PySem.W PyProof.Rows
open PyProof.Rows.LCg (NsObj lst ns_obj fr_but news_but lst_snoc)
namespace Mine
theorem d2_at {nx : Led} {vs : List Value} {pl : List (Int × Int)} (h : DatAll nx vs (sidesD pl)) {k : Nat} (hk : k < pl.length) :
    ∃ (T : Addr) (n : Nat) (W H : Int) (tW tH : Tok), vs[k]? = some (.ref T) ∧ pl[k]? = some (W, H) ∧ (T, ({ cls := .type "tuple", data := .seq #[.int W tW, .int H tH] n } : Obj)) ∈ nx := by
  obtain ⟨T, n, W, H, tW, tH, h1, h2, h3⟩ := sides_at h hk
  refine ⟨T, n, W, H, tW, tH, h1, ?_, h3⟩
  rw [List.getD_eq_getElem?_getD, List.getElem?_eq_getElem hk] at h2
  rw [List.getElem?_eq_getElem hk]
  exact congrArg some h2
section
variable (prog : Program) (w : World) (A : Around) (h₀ : Heap) (L : Addr) (m : Str → Option Value) (env : Env) (elt : PySem.Expr) (x1 x2 : Str) (scope : Scope) (cl : List (Str × Addr)) (s₁ : Shared)
abbrev PairOb (f : Int → Int → Dat) (pl : List (Int × Int)) (cs nx : Led) : Prop := ∀ (a b : Int) ta tb I oI C oC D m₃ ys h tk nx' (E' : Value → Shared → Prop), (a, b) ∈ pl → (∀ q ∈ nx, q ∈ nx') → Apart nx' (cs.map (·.1)) → NsObj oC m₃ → m₃ x1 = some (.int a ta) → m₃ x2 = some (.int b tb) → Fr h₀ L h m → News h₀ L h ((I, oI) :: (C, oC) :: (D, lst ys) :: (cs ++ nx')) →
      (∀ q ∈ nx', q.1 ≠ I ∧ q.1 ≠ C ∧ q.1 ≠ D) → (∀ z ∈ cs.map (·.1), z ≠ I ∧ z ≠ C ∧ z ≠ D) →
      wpAny (model prog w) A (eval elt (compEnvC scope cl C env)) (GrowEnd h₀ L m (fun _ : Unit => cs) (fun _ => True) (fun nn y => DatIn nn y (f a b)) nx' (cs.map (·.1)) I oI C oC D (lst ys) { s₁ with heap := h, toks := tk }) E' { s₁ with heap := h, toks := tk }
def PairSrc (Q : Value → Shared → Prop) (xv : Value) : Prop :=
  ∃ (DI : Addr) (k : Nat) (vs : List Value) (f : Int → Int → Dat) (pl : List (Int × Int)) (cs nx : Led), xv = .ref DI ∧ A.handled = none ∧ Fr h₀ L s₁.heap m ∧ News h₀ L s₁.heap (cs ++ nx) ∧ Apart nx (cs.map (·.1)) ∧ (DI, listOf vs.toArray k) ∈ nx ∧ DatAll nx vs (sidesD pl) ∧ pl.length ≤ 1000 ∧ PairOb prog w A h₀ L m env elt x1 x2 scope cl s₁ f pl cs nx ∧
    ∀ D h tk ys nx', Fr h₀ L h m → News h₀ L h ((D, lst ys) :: (cs ++ nx')) → (∀ q ∈ nx, q ∈ nx') → Apart nx' (cs.map (·.1)) → (∀ q ∈ cs ++ nx', q.1 ≠ D) → DatAll nx' ys (pl.map fun z => f z.1 z.2) → Q (.ref D) { s₁ with heap := h, toks := tk }
end
section
variable {prog : Program} {w : World} {A : Around} {E : Value → Shared → Prop} {h₀ : Heap} {L : Addr} {m : Str → Option Value} {env : Env} {elt iter : PySem.Expr} {x1 x2 : Str} {p1 p2 tp : Pos} {kk : Nat} {scope : Scope} {cl : List (Str × Addr)} {pos : Pos} {s s₁ : Shared} {Q : Value → Shared → Prop}
theorem PairSrc.intro {DI : Addr} {k : Nat} {vs : List Value} {all cs nx : Led} (f : Int → Int → Dat) (pl : List (Int × Int)) (hh : A.handled = none) (F : Fr h₀ L s₁.heap m) (N : News h₀ L s₁.heap all) (hsp : Split all cs nx) (hap : Apart nx (cs.map (·.1))) (hm : (DI, listOf vs.toArray k) ∈ nx) (hd : DatAll nx vs (sidesD pl)) (hz : pl.length ≤ 1000)
    (el : PairOb prog w A h₀ L m env elt x1 x2 scope cl s₁ f pl cs nx)
    (fin : ∀ D h tk ys nx', Fr h₀ L h m → News h₀ L h ((D, lst ys) :: (cs ++ nx')) → (∀ q ∈ nx, q ∈ nx') → Apart nx' (cs.map (·.1)) → (∀ q ∈ cs ++ nx', q.1 ≠ D) → DatAll nx' ys (pl.map fun z => f z.1 z.2) → Q (.ref D) { s₁ with heap := h, toks := tk }) :
    PairSrc prog w A h₀ L m env elt x1 x2 scope cl s₁ Q (.ref DI) :=
  ⟨DI, k, vs, f, pl, cs, nx, rfl, hh, F, hsp.eq ▸ N, hap, hm, hd, hz, el, fin⟩
theorem pair_block {DI : Addr} {k : Nat} {vs : List Value} {f : Int → Int → Dat} {pl : List (Int × Int)} {cs nx : Led} {RR : Value → Addr → Result → Shared → Prop}
    (hh : A.handled = none) (F : Fr h₀ L s₁.heap m) (N : News h₀ L s₁.heap (cs ++ nx)) (hap : Apart nx (cs.map (·.1))) (hm : (DI, listOf vs.toArray k) ∈ nx) (hd : DatAll nx vs (sidesD pl)) (hz : pl.length ≤ 1000)
    (hcell : ∀ y ∈ scope.names, y.2 ≠ .cell) (hkind : scope.kind = .function) (hx1 : scope.names.lookup x1 = some .local) (hx2 : scope.names.lookup x2 = some .local) (hx12 : x1 ≠ x2)
    (el : PairOb prog w A h₀ L m env elt x1 x2 scope cl s₁ f pl cs nx)
    (hRR : ∀ D C h tk m' ys nx', Fr h₀ L h m → News h₀ L h ((D, lst ys) :: (cs ++ nx')) → h.Ns C m' → h₀.get? C = none → h₀.get? D = none → C ≠ L → D ≠ L → C ≠ D → (∀ q ∈ cs ++ nx', q.1 ≠ C ∧ q.1 ≠ D) → (∀ q ∈ nx, q ∈ nx') → Apart nx' (cs.map (·.1)) → DatAll nx' ys (pl.map fun z => f z.1 z.2) → RR (.ref D) C (.ok .next) { s₁ with heap := h, toks := tk }) :
    wpAny (model prog w) A (pyIter (.ref DI)) (fun it s₂ => wpAny (model prog w) A (newList []) (fun acc s₃ => wpAny (model prog w) A (newFunctionEnv scope env.globals cl [] env.qual none .none (some env)) (fun cenv s₄ =>
      codeAny (model prog w) A (.compStart (.ListComp elt [⟨.Tuple [.Name x1 p1, .Name x2 p2] kk tp, iter, [], 0⟩] scope pos) 0 it acc { cenv with scope := relabel scope env }) (RR acc cenv.locals) s₄) E s₃) E s₂) E s₁ := by
  have hlen : vs.length = pl.length := by rw [hd.length, sidesD_length]
  have hl : s₁.heap.IsList DI vs.toArray := ⟨_, (N _ (List.mem_append.mpr (.inr hm))).1, rfl, k, rfl⟩
  refine wpAny_pyIter_list hl ?_
  generalize hI : s₁.heap.objs.size = I
  generalize hH1 : s₁.heap.push { cls := .type "list_iterator", data := .fields #[.ref DI, .int 0 0] } = H1
  have hD1 : H1.objs.size = I + 1 := by rw [← hH1, Heap.size_push, hI]
  have up1 : ∀ b o, s₁.heap.get? b = some o → H1.get? b = some o := fun b o e => hH1 ▸ Heap.get?_push_of_some _ e
  have hit1 : H1.IsListIter I DI 0 := ⟨{ cls := .type "list_iterator", data := .fields #[.ref DI, .int 0 0] }, by rw [← hH1, ← hI]; exact Heap.get?_push_size _ rfl, rfl, rfl⟩
  have F1 : Fr h₀ L H1 m := F.keeps up1
  have N1 : News h₀ L H1 (cs ++ nx) := N.grown up1
  refine wpAny_newObj_type (wpAny_newFunctionEnv hcell (by intro y hy; simp at hy) (fun h₁ hns₁ hsb₁ => ?_) hkind)
  dsimp only at hns₁ hsb₁ ⊢
  generalize hD : H1.objs.size = D at hns₁ hsb₁ ⊢
  generalize hH2 : H1.push { cls := .type "list", dict := none, data := .seq ([] : List Value).toArray } = H2 at hns₁ hsb₁ ⊢
  have hC1 : H2.objs.size = D + 1 := by rw [← hH2, Heap.size_push, hD]
  generalize hC : H2.objs.size = C at hns₁ hsb₁ hC1 ⊢
  have hDI1 : D = I + 1 := by rw [← hD, hD1]
  have hlt : ∀ b o, s₁.heap.get? b = some o → b < I := fun b o e => hI ▸ Heap.lt_size e
  have lt1 : ∀ b o, H1.get? b = some o → b < D := fun b o e => hD ▸ Heap.lt_size e
  have up2 : ∀ b o, H1.get? b = some o → h₁.get? b = some o := fun b o e => hsb₁.extBut b o (by have := lt1 b o e; rw [hC1]; exact Nat.ne_of_lt (Nat.lt_succ_of_lt this)) (Heap.get?_push_of_some _ (by rw [← hH2]; exact Heap.get?_push_of_some _ e))
  have hacc : h₁.get? D = some (lst []) := hsb₁.extBut _ _ (by rw [hC1]; exact Nat.ne_of_lt (Nat.lt_succ_self _)) (Heap.get?_push_of_some _ (by rw [← hH2, ← hD]; exact Heap.get?_push_size _ rfl))
  have fresh₀ : ∀ a, I ≤ a → h₀.get? a = none := fun a ha => by
    cases e : h₀.get? a with
    | none => rfl
    | some o => exact absurd (hlt a o (F.keep a o e)) (Nat.not_lt.mpr ha)
  have hI0 := fresh₀ I (Nat.le_refl _)
  have hD0 := fresh₀ D (by rw [hDI1]; exact Nat.le_succ _)
  have hC0 := fresh₀ C (by rw [hC1, hDI1]; exact Nat.le_succ_of_le (Nat.le_succ _))
  have hLI : L < I := hI ▸ F.ns.lt
  have hIL : L ≠ I := Nat.ne_of_lt hLI
  have hDL : D ≠ L := by rw [hDI1]; exact Nat.ne_of_gt (Nat.lt_succ_of_lt hLI)
  have hCL : C ≠ L := by rw [hC1, hDI1]; exact Nat.ne_of_gt (Nat.lt_succ_of_lt (Nat.lt_succ_of_lt hLI))
  have hCI : C ≠ I := by rw [hC1, hDI1]; exact Nat.ne_of_gt (Nat.lt_succ_of_lt (Nat.lt_succ_self _))
  have hDI : D ≠ I := by rw [hDI1]; exact Nat.ne_of_gt (Nat.lt_succ_self _)
  have hCD : C ≠ D := by rw [hC1]; exact Nat.ne_of_gt (Nat.lt_succ_self _)
  have offl : ∀ q ∈ cs ++ nx, q.1 ≠ I ∧ q.1 ≠ C ∧ q.1 ≠ D := fun q hq => by
    have := hlt _ _ (N q hq).1
    refine ⟨Nat.ne_of_lt this, ?_, ?_⟩
    · rw [hC1, hDI1]; exact Nat.ne_of_lt (Nat.lt_succ_of_lt (Nat.lt_succ_of_lt this))
    · rw [hDI1]; exact Nat.ne_of_lt (Nat.lt_succ_of_lt this)
  have offc : ∀ z ∈ cs.map (·.1), z ≠ I ∧ z ≠ C ∧ z ≠ D := fun z hz => by
    obtain ⟨q, hq, rfl⟩ := List.mem_map.mp hz
    exact offl q (List.mem_append.mpr (.inl hq))
  have hne : DI ≠ I := (offl _ (List.mem_append.mpr (.inr hm))).1
  have W := Walks.list (prog := prog) (w := w) (A := A) hh I DI hne vs.toArray
  have loop : ∀ s₃ : Shared, s₃ = { s₁ with heap := h₁, toks := s₁.toks + ([] : List (Str × Value)).length } →
      codeAny (model prog w) A (.compLoop (.ListComp elt [⟨.Tuple [.Name x1 p1, .Name x2 p2] kk tp, iter, [], 0⟩] scope pos) 0 (.ref I) (.ref D) (compEnvC scope cl C env)) (RR (.ref D) C) s₃ := by
    rintro s₃ rfl
    refine kcp_loop
      (fun k s' => ∃ h' tk i ys m' nx', s' = { s₁ with heap := h', toks := tk } ∧ i ≤ vs.length ∧ k = vs.length + 1 - i ∧ ys.length = i ∧ h'.IsListIter I DI i ∧ Fr h₀ L h' m ∧ h'.Ns C m' ∧
        News h₀ L h' ((D, lst ys) :: (cs ++ nx')) ∧ (∀ q ∈ nx, q ∈ nx') ∧ (∀ q ∈ nx', q.1 ≠ I ∧ q.1 ≠ C ∧ q.1 ≠ D) ∧ Apart nx' (cs.map (·.1)) ∧ DatAll nx' ys ((pl.take i).map fun z => f z.1 z.2)) ?_ (vs.length + 1)
      ⟨h₁, _, 0, [], _, nx, rfl, Nat.zero_le _, rfl, rfl, hit1.at fun o e => up2 _ o e, F1.keeps up2, hns₁, fun q hq => ?_, fun _ h => h, fun q hq => offl q (List.mem_append.mpr (.inr hq)), hap, by simpa using DatAll.nil⟩
    · rintro k' s' ⟨h', tk, i, ys, m', nx', rfl, hi, rfl, hyl, hit', F', hn', N', hs', off', hap', hd'⟩
      have offA : ∀ q ∈ (D, lst ys) :: (cs ++ nx'), q.1 ≠ I ∧ q.1 ≠ C := by
        intro q hq
        rcases List.mem_cons.mp hq with rfl | hq
        · exact ⟨hDI, Ne.symm hCD⟩
        · rcases List.mem_append.mp hq with hq | hq
          · have := offc q.1 (List.mem_map.mpr ⟨q, hq, rfl⟩)
            exact ⟨this.1, this.2.1⟩
          · exact ⟨(off' q hq).1, (off' q hq).2.1⟩
      have inN : ∀ q ∈ nx', q ∈ (D, lst ys) :: (cs ++ nx') := fun q hq => .tail _ (List.mem_append.mpr (.inr hq))
      have hm' := hs' _ hm
      have hl' : h'.IsList DI vs.toArray := ⟨_, (N' _ (inN _ hm')).1, rfl, _, rfl⟩
      by_cases hlt : i < vs.length
      · refine W.item i _ _ _ (by simpa using hlt) ⟨hit', hl'⟩ fun v h₂ tk₂ hPv hst₂ hk₂ => ?_
        obtain ⟨T, nT, a, b, ta, tb, hv, hp, hT⟩ := d2_at (DatAll.mono hs' hd) (k := i) (by omega)
        have hve : v = .ref T := by
          have e : vs[i]? = some v := by simpa using hPv
          exact Option.some.inj (e.symm.trans hv)
        subst hve
        refine letGo_listiter hst₂.1 ?_
        have up₂ : ∀ c o, c ≠ I → h'.get? c = some o → h₂.get? c = some o := fun c o hc e => hk₂ c o (by simpa using hc) e
        have hTt : h₂.IsTuple T #[.int a ta, .int b tb] := ⟨_, up₂ _ _ (off' _ hT).1 (N' _ (inN _ hT)).1, rfl, _, rfl⟩
        refine kcp_assign (env := compEnvC scope cl C env) hh hTt (lookup_relabel_local hx1) (lookup_relabel_local hx2) (by simp [compEnvC, relabel, hkind]) (hn'.at' fun o e => up₂ _ o hCI e) fun h₄ tk₄ hn₄ hs₄ => ?_
        have up : ∀ c o, c ≠ I → c ≠ C → h'.get? c = some o → h₄.get? c = some o := fun c o h1 h2 e => hs₄ c o h2 (up₂ c o h1 e)
        have hI₄ : h₄.IsListIter I DI (i + 1) := hst₂.1.at fun o e => hs₄ I o (Ne.symm hCI) e
        obtain ⟨oI, heI, hoI⟩ : ∃ oI : Obj, h₄.get? I = some oI ∧ ∀ h : Heap, h.get? I = some oI → h.IsListIter I DI (i + 1) := by
          obtain ⟨o, e, r⟩ := hI₄
          exact ⟨o, e, fun _ e' => ⟨o, e', r⟩⟩
        obtain ⟨oC, heC, hoC⟩ := ns_obj hn₄
        have F₄ : Fr h₀ L h₄ m := ⟨F'.ns.at' fun o e => up _ o hIL (Ne.symm hCL) e, fun c o e => up c o (fun q => by rw [q, hI0] at e; cases e) (fun q => by rw [q, hC0] at e; cases e) (F'.keep c o e), F'.above⟩
        have N₄ : News h₀ L h₄ ((I, oI) :: (C, oC) :: (D, lst ys) :: (cs ++ nx')) := fun q hq => by
          rcases List.mem_cons.mp hq with rfl | hq
          · exact ⟨heI, Ne.symm hIL, hI0⟩
          · rcases List.mem_cons.mp hq with rfl | hq
            · exact ⟨heC, hCL, hC0⟩
            · have z := N' q hq
              exact ⟨up _ _ (offA q hq).1 (offA q hq).2 z.1, z.2⟩
        refine wpAny_mono (el a b ta tb I oI C oC D _ ys h₄ _ nx' _ (List.mem_of_getElem? hp) hs' hap' hoC (by simp [hx12]) (by simp) F₄ N₄ off' offc) (fun y s₅ h₅ => ?_) fun _ _ e => e
        obtain ⟨h₅, tk₅, _, nx₅, rfl, F₅, N₅, off₅, hs₅, ho₅, _, hR₅⟩ := h₅
        have zI := (N₅ (I, oI) List.mem_cons_self).1
        have zC := (N₅ (C, oC) (List.mem_cons_of_mem _ List.mem_cons_self)).1
        have zD := (N₅ (D, lst ys) (List.mem_cons_of_mem _ (List.mem_cons_of_mem _ List.mem_cons_self))).1
        refine append_at (hsz := by show ys.toArray.size ≤ sizeLine; rw [List.size_toArray, hyl, sizeLine_eq]; omega) zD fun h₆ hs₆ hD₆ => ?_
        refine ⟨vs.length + 1 - (i + 1), by omega, h₆, tk₅, i + 1, ys ++ [y], _, nx₅, rfl, hlt, rfl, by rw [List.length_append, List.length_singleton, hyl], hoI h₆ (hs₆.extBut I oI (Ne.symm hDI) zI), F₅.change hs₆ hDL hD0,
          (hoC.ns zC).sameBut hs₆ hCD, fun q hq => ?_, fun q hq => hs₅ q (hs' q hq), off₅, fun q hq z hz => ho₅ q hq z hz, ?_⟩
        · rcases List.mem_cons.mp hq with rfl | hq
          · exact ⟨hD₆.trans (congrArg some (lst_snoc ys y)), hDL, hD0⟩
          · have z := N₅ q (.tail _ (.tail _ (.tail _ hq)))
            refine ⟨hs₆.extBut _ _ ?_ z.1, z.2⟩
            rcases List.mem_append.mp hq with hq | hq
            · exact (offc q.1 (List.mem_map.mpr ⟨q, hq, rfl⟩)).2.2
            · exact (off₅ q hq).2.2
        · rw [List.take_succ, hp, List.map_append]
          exact DatAll.append (DatAll.mono hs₅ hd') (DatAll.one hR₅)
      · obtain rfl : i = vs.length := Nat.le_antisymm hi (Nat.not_lt.mp hlt)
        refine W.done _ _ _ ⟨by simpa using hit', hl'⟩ fun h₂ tk₂ hk₂ => ?_
        have ht : pl.take vs.length = pl := List.take_of_length_le (by omega)
        rw [ht] at hd'
        refine hRR _ _ h₂ tk₂ m' ys nx' (fr_but F' hk₂ hIL hI0) (news_but N' hk₂ fun q hq => (offA q hq).1) (hn'.at' fun o e => hk₂ _ o (by simpa using hCI) e) hC0 hD0 hCL hDL hCD ?_ hs' hap' hd'
        intro q hq
        rcases List.mem_append.mp hq with hq | hq
        · exact (offc q.1 (List.mem_map.mpr ⟨q, hq, rfl⟩)).2
        · exact (off' q hq).2
    · rcases List.mem_cons.mp hq with rfl | hq
      · exact ⟨hacc, hDL, hD0⟩
      · exact ⟨up2 _ _ (N1 q hq).1, (N1 q hq).2⟩
  exact codeAny_compStart_list (loop _ rfl) (W.self 0 _ _ _ ⟨hit1.at fun o e => up2 _ o e, (hl.at fun o e => up1 _ o e).at fun o e => up2 _ o e⟩ (loop _ rfl))
theorem pair_comp (_F₀ : Fr h₀ L s.heap m)
    (hclos : closureFor scope env = pure cl) (hcell : ∀ y ∈ scope.names, y.2 ≠ .cell) (hkind : scope.kind = .function)
    (hnames : ∀ y ∈ scope.names, y.2 = .local → scope.names.lookup y.1 = some .local) (hx1 : scope.names.lookup x1 = some .local) (hx2 : scope.names.lookup x2 = some .local) (hx12 : x1 ≠ x2)
    (h : wpAny (model prog w) A (eval iter env) (fun xv s₁ => PairSrc prog w A h₀ L m env elt x1 x2 scope cl s₁ Q xv) E s)
    (hs : ∀ x, foldedSetIterable iter env x = pure x := by intro _; rfl) :
    wpAny (model prog w) A (eval (.ListComp elt [⟨.Tuple [.Name x1 p1, .Name x2 p2] kk tp, iter, [], 0⟩] scope pos) env) Q E s := by
  rw [eval_ListComp]
  refine wpAny_comprehension_free (use := none) rfl hs hclos hkind hnames (wpAny_mono h (fun xv s₁ h₁ => ?_) fun _ _ e => e)
  obtain ⟨DI, k, vs, f, pl, cs, nx, rfl, hh, F, N, hap, hm, hd, hz, el, fin⟩ := h₁
  refine pair_block hh F N hap hm hd hz hcell hkind hx1 hx2 hx12 el ?_
  intro D C h' tk m' ys nx' F' N' hn hC₀ hD₀ hCL hDL hCD offC hs' hap' hd'
  refine ⟨m', hn, fun h'' hs'' => fin D h'' tk ys nx' (F'.change hs'' hCL hC₀) (fun q hq => ?_) hs' hap' (fun q hq => (offC q hq).2) hd'⟩
  refine ⟨hs''.extBut _ _ ?_ (N' q hq).1, (N' q hq).2⟩
  rcases List.mem_cons.mp hq with rfl | hq
  · exact Ne.symm hCD
  · exact (offC q hq).1
end
end Mine
end
section
open PySem PySem.W PyProof.Rows
open PyProof.Rows.LCg (NsObj lst)
namespace Mine
theorem d4_out {nx : Led} {v : Value} {a b c d : Int} (h : DatIn nx v (d4 a b c d)) : ∃ (T : Addr) (n : Nat) (ta tb tc td : Tok), v = .ref T ∧ (T, ({ cls := .type "tuple", data := .seq #[.int a ta, .int b tb, .int c tc, .int d td] n } : Obj)) ∈ nx := by
  cases h with
  | tuple hm hr =>
    cases hr with
    | cons h1 hr =>
      cases hr with
      | cons h2 hr =>
        cases hr with
        | cons h3 hr =>
          cases hr with
          | cons h4 hr =>
            cases hr
            cases h1
            cases h2
            cases h3
            cases h4
            exact ⟨_, _, _, _, _, _, rfl, hm⟩
def CopyEnd (h₀ : Heap) (L : Addr) (m : Str → Option Value) (all : Led) (T : Addr) (s₁ : Shared) (y : Value) (s₂ : Shared) : Prop :=
  y = .ref T ∧ ∃ h' tk, s₂ = { s₁ with heap := h', toks := tk } ∧ Fr h₀ L h' m ∧ News h₀ L h' all
section
variable {prog : Program} {w : World} {A : Around} {h₀ : Heap} {L : Addr} {m : Str → Option Value} {env : Env} {elt : PySem.Expr} {x : Str} {scope : Scope} {cl : List (Str × Addr)} {s₁ : Shared} {Fin : Shared → List Value → Led → Prop}
theorem copy_src {D : Addr} {k : Nat} {vs : List Value} {ds : List Dat} {nx : Led} (hh : A.handled = none) (F : Fr h₀ L s₁.heap m) (N : News h₀ L s₁.heap nx) (hm : (D, listOf vs.toArray k) ∈ nx) (hd : DatAll nx vs ds) (hz : ds.length ≤ 1000) (h4 : ∀ d ∈ ds, ∃ a b c e, d = d4 a b c e)
    (turn : ∀ (T : Addr) (n : Nat) (a b c e : Int) (ta tb tc te : Tok) ys nx' I oI C oC D m₂ h tk (E' : Value → Shared → Prop), NsObj oC m₂ → m₂ x = some (.ref T) → (T, ({ cls := .type "tuple", data := .seq #[.int a ta, .int b tb, .int c tc, .int e te] n } : Obj)) ∈ nx' → Fr h₀ L h m → News h₀ L h ((I, oI) :: (C, oC) :: (D, lst ys) :: nx') →
      (∀ q ∈ nx', q.1 ≠ I ∧ q.1 ≠ C ∧ q.1 ≠ D) → ((@Ne Nat I C) ∧ (@Ne Nat I D) ∧ (@Ne Nat C D)) →
      wpAny (model prog w) A (eval elt (compEnvC scope cl C env)) (CopyEnd h₀ L m ((I, oI) :: (C, oC) :: (D, lst ys) :: nx') T { s₁ with heap := h, toks := tk }) E' { s₁ with heap := h, toks := tk })
    (fin : ∀ ys nx' g, DatAll nx' ys ds → (∀ q ∈ nx, q ∈ nx') → Fin { s₁ with heap := g } ys nx') :
    LCg.CompSrc prog w A h₀ L m env elt x scope cl Fin (.ref D) s₁ := by
  have hl := hd.length
  refine LCg.CompSrc.ledger hh F N hm (by rw [sizeLine_eq]; show vs.length ≤ _; omega) ?_
  intro g
  refine grow_rest (σ := Unit) (nx := nx) (fun _ => []) [] (fun _ => rfl) (fun _ => True) (fun i nn y => ∃ d, ds[i]? = some d ∧ DatIn nn y d) () ?_ trivial (fun q hq z hz => (nomatch hz)) (fun _ nx' hs => .inr ⟨_, hs _ hm, rfl, _, rfl⟩) ?_ ?_
  · rintro i nn nn' y ⟨d, hd, hi⟩ hs
    exact ⟨d, hd, DatIn.mono hs hi⟩
  · intro i v c ys nx' I oI C oC D' m₂ h tk E' hi hP _ hs _ hC hx F' N' hoff' _ hne
    have hi' : i < ds.length := by rw [← hl]; exact hi
    have hv : vs[i]? = some v := by simpa using hP
    obtain ⟨v', hv', hdv⟩ := (DatAll.mono hs hd).get (k := i) hi'
    obtain rfl : v' = v := Option.some.inj (hv'.symm.trans hv)
    obtain ⟨a, b, c, e, he⟩ := h4 _ (List.getElem_mem hi')
    have hdv2 := hdv
    rw [he] at hdv2
    obtain ⟨T, n, ta, tb, tc, te, rfl, hT⟩ := d4_out hdv2
    refine wpAny_mono (turn T n a b c e ta tb tc te ys nx' I oI C oC D' m₂ h tk E' hC hx hT F' N' hoff' hne) (fun y s₂ hq => ?_) fun _ _ e => e
    obtain ⟨rfl, h', tk', rfl, F2, N2⟩ := hq
    exact ⟨h', tk', (), nx', rfl, F2, N2, hoff', fun _ h => h, (fun q hq z hz => (nomatch hz)), trivial, _, List.getElem?_eq_getElem hi', hdv⟩
  · intro ys c nx' _ hs _ hly hR
    exact fin ys nx' g (dats_of ys ds (by rw [hly, ← hl]; rfl) hR) hs
end
theorem rowD_d4 {pc pl bx by_ : Int} {n : Nat} {d : Dat} (h : d ∈ rowD pc pl bx by_ n) : ∃ a b c e, d = d4 a b c e := by
  obtain ⟨k, _, rfl⟩ := List.mem_map.mp h
  exact ⟨_, _, _, _, rfl⟩
theorem blkD_d4 {pc pl bx by_ : Int} {W n : Nat} {d : Dat} (h : d ∈ blkD pc pl bx by_ W n) : ∃ a b c e, d = d4 a b c e := by
  obtain ⟨k, _, hk⟩ := List.mem_flatMap.mp h
  exact rowD_d4 hk
theorem unitN_d4 {sz : List (Int × Int)} {ps : List Int} {x y : Int} {n : Nat} {d : Dat} (h : d ∈ unitN sz ps x y n) : ∃ a b c e, d = d4 a b c e := by
  obtain ⟨k, _, hk⟩ := List.mem_flatMap.mp h
  exact blkD_d4 hk
def specU (sz : List (Int × Int)) (ps : List Int) (x y : Int) : List Dat := if ps.length = 1 then [d4 0 (ps.getD 0 0) x y] else unitN sz ps x y ps.length
theorem specU_d4 {sz : List (Int × Int)} {ps : List Int} {x y : Int} {d : Dat} (h : d ∈ specU sz ps x y) : ∃ a b c e, d = d4 a b c e := by
  unfold specU at h
  split at h
  · exact ⟨_, _, _, _, List.mem_singleton.mp h⟩
  · exact unitN_d4 h
theorem specU_len {sz : List (Int × Int)} {ps : List Int} {x y : Int} (hz : SzOk sz) (h3 : ps.length ≤ 3) : (specU sz ps x y).length ≤ 1000 := by
  unfold specU
  split
  · simp
  · have := unitN_length_le hz ps x y ps.length
    omega
theorem specU_ok {sz : List (Int × Int)} {ps : List Int} {x y : Int} : ∀ d ∈ specU sz ps x y, kqdOk 8 d = true := by
  intro d hd
  obtain ⟨a, b, c, e, rfl⟩ := specU_d4 hd
  rfl
end Mine
end
section
open PySem PySem.W PyProof.Rows
set_option maxRecDepth 100000
set_option maxHeartbeats 8000000
set_option rowWalk.seconds 0
namespace Mine
local macro_rules | `(tactic| k_all) => `(tactic| first | assumption | (refine Apart.at (by assumption) ?_; (repeat (first | exact List.mem_cons_self | apply List.mem_cons_of_mem)); done))
local macro_rules | `(tactic| k_mem) => `(tactic| ((repeat (first | exact List.mem_cons_self | ktr_member | refine List.mem_cons_of_mem _ ?_)); done))
local macro_rules | `(tactic| is_list) => `(tactic| exact News.isList (by k_asm) (by k_mem))
local macro_rules | `(tactic| size_fits) => `(tactic| (rw [List.size_toArray, sizeLine_eq]; omega))
local macro_rules | `(tactic| k_room) => `(tactic| ktr_room)
local macro_rules | `(tactic| k_units) => `(tactic| ktr_units)
local macro_rules | `(tactic| walk_at "call type:range") => `(tactic| ((with_reducible show wpAny _ _ (PySem.call _ [_]) _ _ _); (rename Fr _ _ _ _ => F'); (rename News _ _ _ _ => N'); (with_unfolding_all refine range1_rows F' N' ?_); intro _ _ _ _ _ _ _ _ _))
local macro_rules | `(tactic| walk_at "pyIter ref") => `(tactic| ((with_reducible show wpAny _ _ (pyIter (Value.ref _)) (fun it s₂ => LoopAtV _ _ _ _ _ _ _ _ _ it s₂) _ _); refine Hold.out ?_))
local macro_rules | `(tactic| walk_at "call builtin:list.append") => `(tactic| (k_here; (show wpAny _ _ (PySem.call (Value.builtin _) [Value.ref _, _]) _ _ _); k_dflt (refine' append_K ?k1 ?k2 ?k3 ?_ ?z; (case k1 => k_asm); (case k2 => k_asm); (case k3 => k_upd); (case z => size_fits); k_whole); intro h' F' N'; (try k_sweep)))
local macro_rules | `(tactic| walk_at "subscriptTail") => `(tactic| (k_here; (with_reducible show wpAny _ _ (subscriptTail _ _ (Value.ref _) (Value.int _ _)) _ _ _); k_dflt (refine' item_led ?k1 ?k2 ?k3 ?k4 ?k5 ?_); (case k1 => k_asm); (case k2 => k_mem); (case k5 => assumption); (case k3 => omega); (case k4 => omega)))
local macro_rules | `(tactic| walk_at "call builtin:len") => `(tactic| (k_here; (with_reducible show wpAny _ _ (PySem.call (Value.builtin "len") [Value.ref _]) _ _ _); k_dflt (refine' kst_len ?k1 ?k2 ?k3 ?k4 ?_); (case k1 => k_asm); (case k2 => k_mem); (case k3 => assumption); (case k4 => omega)))
local macro_rules | `(tactic| walk_at "call type:list") => `(tactic| (k_here; (with_reducible show wpAny _ _ (PySem.call (Value.type "list") [Value.ref _]) _ _ _); (rename IsRange _ _ _ _ _ _ _ _ => rgX); (k_dflt (refine' kll_range ?k0 ?k1 ?k2 ?k3 ?k4 ?k5 ?k6 ?_); (case k0 => rfl); (case k1 => k_asm); (case k2 => k_asm); (case k3 => exact rgX); (case k4 => exact small_one (by omega) (by omega) (by omega) (by omega)); (case k5 => exact rangeSize_nat _ _); (case k6 => omega)); intro D' vs' c' h' tk' F' N' l1 hI'; (try k_lt l1)))
local macro_rules | `(tactic| walk_at "call type:list") => `(tactic| (k_here; (with_reducible show wpAny _ _ (PySem.call (Value.type "list") [Value.ref _]) _ _ _); k_dflt (refine' list_copyK ?k1 ?k2 ?k3 ?_ ?z; (case k1 => k_asm); (case k2 => k_asm); (case k3 => is_list); (case z => size_fits)); intro D' c' h' F' N' l1; (try k_lt l1)))
local macro_rules | `(tactic| walk_at "call ref") => `(tactic| ((with_reducible show wpAny _ _ (PySem.call (Value.ref 28) _) _ _ _); refine Hold.out ?_))
local macro_rules | `(tactic| walk_at "eval ListComp") => `(tactic| (refine Hold.out ?_))
local macro_rules | `(tactic| walk_at "CompSrc") => `(tactic| (refine Hold.out ?_))
local macro_rules | `(tactic| walk_at "compareOp Eq ref ref") => `(tactic| (refine Hold.out ?_))
local macro_rules | `(tactic| walk_at "call type:tuple") => `(tactic| (refine Hold.out ?_))
theorem mem13 {p a1 a2 a3 a4 a5 a6 a7 a8 a9 b1 b2 b3 b4 : Addr × Obj} {nx : Led} (h : p ∈ nx) : p ∈ a1 :: a2 :: a3 :: a4 :: a5 :: a6 :: a7 :: a8 :: a9 :: b1 :: b2 :: b3 :: b4 :: nx :=
  .tail _ (.tail _ (.tail _ (.tail _ (.tail _ (.tail _ (.tail _ (.tail _ (.tail _ (.tail _ (.tail _ (.tail _ (.tail _ h))))))))))))
theorem tail9 : ∀ {w : World} {mean : ExcName → Option Value} {mg mb : Str → Option Value} {L fa : Addr} {cd : Value} {h₀ : Heap} {m : Str → Option Value} {s : Shared} {Q : Flow → Shared → Prop}
  (DU SA D1 D2 FR : Addr) (sz : List (Int × Int)) (ss : List Int) (x y : Int) (tx ty : Tok) (ys sv cvs dvs : List Value) (k1 ks kc kd : Nat) (nx : Led) (o1 o2 o3 o4 o5 o6 o7 o8 : Obj)
  (_ : Below callerA h₀ [] h₀) (_ : Fr h₀ L s.heap (fun y => if y = Str.ofString "due" then some (.ref DU) else if y = Str.ofString "frame" then some (.ref FR) else m y)) (_ : (hd.heap_39 w.params).In h₀)
  (_ : News h₀ L s.heap (cellsL L o1 o2 o3 o4 o5 o6 o7 o8 ++ nx)) (_ : Top hd.view_39 (looseW hd.view_39 []) mean mg mb h₀)
  (_ : o3.data = .cell (some (.ref SA))) (_ : o4.data = .cell (some (.int x tx))) (_ : o5.data = .cell (some (.int y ty)))
  (_ : Apart nx (cellsA L)) (_ : Imm w.params nx FR D1 D2 ys cvs k1 kc sz) (_ : 0 ≤ x) (_ : x < 3) (_ : 0 ≤ y) (_ : y < 3) (_ : (SA, listOf sv.toArray ks) ∈ nx) (_ : IntsAre sv ss) (_ : 1 ≤ ss.length) (_ : ss.length ≤ 3) (_ : ∀ p ∈ ss, 0 ≤ p ∧ p < (sz.length : Int))
  (_ : (DU, listOf dvs.toArray kd) ∈ nx) (_ : DatAll nx dvs (specU sz ss x y))
  (_ : ∀ h' tk' m', Fr h₀ L h' m' → Q (.ret (.bool true)) { s with heap := h', toks := tk' }),
  wpAny (model PySem.Challenge.rw_xm0814_01.row.prog w) (callerA.deeper (envOfC (Str.ofString "law") (fnScope lawDef) L fa cd)) (execs ((fnBody lawDef).drop 9) (envOfC (Str.ofString "law") (fnScope lawDef) L fa cd)) Q (fun _ _ => False) s := by
  k_fill
  intro w mean mg mb L fa cd h₀ m s Q DU SA D1 D2 FR sz ss x y tx ty ys sv cvs dvs k1 ks kc kd nx o1 o2 o3 o4 o5 o6 o7 o8 B F X N T c3 c4 c5 hap him hx hx3 hy hy3 hSA hsi hs1 hs3 hsp hDU hdd hQ
  change wpAny _ (callerA.deeper (envOfC _ ⟨_, _, _, _, _⟩ _ _ _)) (execs (_ :: _) (envOfC _ ⟨_, _, _, _, _⟩ _ _ _)) _ _ _
  w_on
  dsimp only [cellsL, cellsA] at N hap
  simp only [List.cons_append, List.nil_append] at N
  have hsl := hsi.length
  k_steps
  refine Hold.mk ?_
  rename Fr h₀ _ _ _ => F9
  refine LCg.ListComp_U F9 (by rfl) (by decide) (by rfl) (by decide) (by rfl) ?_
  k_steps
  refine Hold.mk ?_
  rename Fr h₀ _ _ _ => F9
  rename News h₀ _ _ _ => N9
  k_dflt (refine' unit_tells _ _ _ _ _ _ _ _ _ _ h₀ h₀ L _ _ _ _ FR D2 _ _ cvs sv kc _ sz ss x y tx ty _ B F9 X N9 T rfl (him.frame.mono ?_) ?_ (him.comps.mono ?_) ⟨_, _, _, _, _, _, _, _, _, _, _, _, _, _, .head _, .tail _ (.head _)⟩ (.tail _ (.tail _ (.tail _ (.tail _ (.head _))))) hsi hsp hs1 hs3 him.ok him.hi hx hx3 hy hy3 ?kd ?ku ?_; (case kd => ktr_room); (case ku => ktr_units))
  · exact fun q hq => mem13 hq
  · exact mem13 him.cl
  · exact fun q hq => mem13 hq
  · intro D vs k nx5 h5 tk5 hs5 hD5 hd5 F5 N5
    clear F9 N9
    have hdd5 : DatAll ((D, listOf vs.toArray k) :: nx5) vs (specU sz ss x y) := DatAll.mono (fun q hq => .tail _ hq) hd5
    have hDU5 : (DU, listOf dvs.toArray kd) ∈ nx5 := hs5 _ (mem13 hDU)
    have hddu5 : DatAll nx5 dvs (specU sz ss x y) := DatAll.mono (fun q hq => hs5 _ (mem13 hq)) hdd
    clear hs5
    refine copy_src (ds := specU sz ss x y) (by rfl) F5 N5 (.head _) hdd5 (specU_len him.ok hs3) (fun d hd => specU_d4 hd) ?_ ?_
    · intro TT n a b c e ta tb tc te ys6 nx6 I oI C oC D6 m₂ h6 tk6 E' hC hx1 hT F6 N6 o1 o2
      clear F5 N5 hdd5
      k_steps
      refine Hold.mk ?_
      refine call_tuple_tup (News.isTup N6 (.tail _ (.tail _ (.tail _ hT)))) ?_
      exact ⟨rfl, h6, tk6, rfl, F6, N6⟩
    · intro ys6 nx6 g hd6 hs6
      unfold LCg.FinE
      intro D6 h6 tk6 F6 N6 o6
      clear F5 N5
      have hDU6 : (DU, listOf dvs.toArray kd) ∈ nx6 := hs6 _ (.tail _ hDU5)
      have hdd6 : DatAll nx6 dvs (specU sz ss x y) := DatAll.mono (fun q hq => hs6 _ (.tail _ hq)) hddu5
      k_steps
      refine Hold.mk ?_
      refine kqd_eq N6 (.head _) rfl rfl hd6 (fun q hq => .tail _ hq) (.tail _ hDU6) rfl rfl hdd6 (fun q hq => .tail _ hq) specU_ok specU_ok ?_ ?_
      · ktr_units
      · simp only [eq_self, decide_true]
        exact hQ h6 tk6 _ F6
end Mine
end
section
open PySem PySem.W PyProof.Rows
set_option maxRecDepth 100000
set_option maxHeartbeats 8000000
set_option rowWalk.seconds 0
namespace Mine
local macro_rules | `(tactic| k_all) => `(tactic| first | assumption | (refine Apart.at (by assumption) ?_; (repeat (first | exact List.mem_cons_self | apply List.mem_cons_of_mem)); done))
local macro_rules | `(tactic| k_mem) => `(tactic| ((repeat (first | exact List.mem_cons_self | ktr_member | refine List.mem_cons_of_mem _ ?_)); done))
local macro_rules | `(tactic| is_list) => `(tactic| exact News.isList (by k_asm) (by k_mem))
local macro_rules | `(tactic| size_fits) => `(tactic| (rw [List.size_toArray, sizeLine_eq]; omega))
local macro_rules | `(tactic| k_room) => `(tactic| ktr_room)
local macro_rules | `(tactic| k_units) => `(tactic| ktr_units)
local macro_rules | `(tactic| walk_at "call type:range") => `(tactic| ((with_reducible show wpAny _ _ (PySem.call _ [_]) _ _ _); (rename Fr _ _ _ _ => F'); (rename News _ _ _ _ => N'); (with_unfolding_all refine range1_rows F' N' ?_); intro _ _ _ _ _ _ _ _ _))
local macro_rules | `(tactic| walk_at "pyIter ref") => `(tactic| ((with_reducible show wpAny _ _ (pyIter (Value.ref _)) (fun it s₂ => LoopAtV _ _ _ _ _ _ _ _ _ it s₂) _ _); refine Hold.out ?_))
local macro_rules | `(tactic| walk_at "call builtin:list.append") => `(tactic| (k_here; (show wpAny _ _ (PySem.call (Value.builtin _) [Value.ref _, _]) _ _ _); k_dflt (refine' append_K ?k1 ?k2 ?k3 ?_ ?z; (case k1 => k_asm); (case k2 => k_asm); (case k3 => k_upd); (case z => size_fits); k_whole); intro h' F' N'; (try k_sweep)))
local macro_rules | `(tactic| walk_at "subscriptTail") => `(tactic| (k_here; (with_reducible show wpAny _ _ (subscriptTail _ _ (Value.ref _) (Value.int _ _)) _ _ _); k_dflt (refine' item_led ?k1 ?k2 ?k3 ?k4 ?k5 ?_); (case k1 => k_asm); (case k2 => k_mem); (case k5 => assumption); (case k3 => omega); (case k4 => omega)))
local macro_rules | `(tactic| walk_at "call builtin:len") => `(tactic| (k_here; (with_reducible show wpAny _ _ (PySem.call (Value.builtin "len") [Value.ref _]) _ _ _); k_dflt (refine' kst_len ?k1 ?k2 ?k3 ?k4 ?_); (case k1 => k_asm); (case k2 => k_mem); (case k3 => assumption); (case k4 => omega)))
local macro_rules | `(tactic| walk_at "call type:list") => `(tactic| (k_here; (with_reducible show wpAny _ _ (PySem.call (Value.type "list") [Value.ref _]) _ _ _); (rename IsRange _ _ _ _ _ _ _ _ => rgX); (k_dflt (refine' kll_range ?k0 ?k1 ?k2 ?k3 ?k4 ?k5 ?k6 ?_); (case k0 => rfl); (case k1 => k_asm); (case k2 => k_asm); (case k3 => exact rgX); (case k4 => exact small_one (by omega) (by omega) (by omega) (by omega)); (case k5 => exact rangeSize_nat _ _); (case k6 => omega)); intro D' vs' c' h' tk' F' N' l1 hI'; (try k_lt l1)))
local macro_rules | `(tactic| walk_at "execs cons Return") => `(tactic| (refine Hold.out ?_))
theorem apart_new {L D : Addr} {o : Obj} {nx : Led} (h : Apart nx (cellsA L)) (hD : @LT.lt Nat _ (L + 1 + 1 + 1 + 1 + 1 + 1 + 1 + 1) D) : Apart ((D, o) :: nx) (cellsA L) := by
  intro q hq z hz
  rcases List.mem_cons.mp hq with rfl | hq
  · refine Nat.ne_of_gt (Nat.lt_of_le_of_lt ?_ hD)
    simp only [cellsA, List.mem_cons, List.not_mem_nil, or_false] at hz
    rcases hz with e | e | e | e | e | e | e | e <;> (rw [e]; omega)
  · exact h q hq z hz
theorem fr_over {h₀ h : Heap} {L : Addr} {a : Str} {u v : Option Value} {f : Str → Option Value} (F : Fr h₀ L h (fun y => if y = a then u else if y = a then v else f y)) : Fr h₀ L h (fun y => if y = a then u else f y) := by
  have e : (fun y => if y = a then u else if y = a then v else f y) = fun y => if y = a then u else f y := funext fun y => by
    by_cases h1 : y = a
    · rw [if_pos h1, if_pos h1]
    · rw [if_neg h1, if_neg h1, if_neg h1]
  rw [← e]; exact F
theorem news_in2 {h₀ h : Heap} {L : Addr} {a b : Addr × Obj} {cs nx : Led} (N : News h₀ L h (a :: b :: (cs ++ nx))) : News h₀ L h (cs ++ (a :: b :: nx)) := by
  intro p hp
  refine N p ?_
  rcases List.mem_append.mp hp with hp | hp
  · exact .tail _ (.tail _ (List.mem_append.mpr (.inl hp)))
  · rcases List.mem_cons.mp hp with rfl | hp
    · exact .head _
    · rcases List.mem_cons.mp hp with rfl | hp
      · exact .tail _ (.head _)
      · exact .tail _ (.tail _ (List.mem_append.mpr (.inr hp)))
theorem tail8 : ∀ {w : World} {mean : ExcName → Option Value} {mg mb : Str → Option Value} {L fa : Addr} {cd : Value} {h₀ : Heap} {m : Str → Option Value} {s : Shared} {Q : Flow → Shared → Prop}
  (DU SA D1 D2 FR : Addr) (sz : List (Int × Int)) (ss : List Int) (x y : Int) (tx ty : Tok) (ys sv cvs dvs : List Value) (k1 ks kc kd : Nat) (nx : Led) (o1 o2 o3 o4 o5 o6 o7 o8 : Obj)
  (_ : Below callerA h₀ [] h₀) (_ : Fr h₀ L s.heap (fun y => if y = Str.ofString "due" then some (.ref DU) else if y = Str.ofString "frame" then some (.ref FR) else m y)) (_ : (hd.heap_39 w.params).In h₀)
  (_ : News h₀ L s.heap (cellsL L o1 o2 o3 o4 o5 o6 o7 o8 ++ nx)) (_ : Top hd.view_39 (looseW hd.view_39 []) mean mg mb h₀)
  (_ : o3.data = .cell (some (.ref SA))) (_ : o4.data = .cell (some (.int x tx))) (_ : o5.data = .cell (some (.int y ty)))
  (_ : Apart nx (cellsA L)) (_ : Imm w.params nx FR D1 D2 ys cvs k1 kc sz) (_ : 0 ≤ x) (_ : x < 3) (_ : 0 ≤ y) (_ : y < 3) (_ : (SA, listOf sv.toArray ks) ∈ nx) (_ : IntsAre sv ss) (_ : 1 ≤ ss.length) (_ : ss.length ≤ 3) (_ : ∀ p ∈ ss, 0 ≤ p ∧ p < (sz.length : Int))
  (_ : (DU, listOf dvs.toArray kd) ∈ nx) (_ : DatAll nx dvs (unitN sz ss x y ss.length))
  (_ : ∀ h' tk' m', Fr h₀ L h' m' → Q (.ret (.bool true)) { s with heap := h', toks := tk' }),
  wpAny (model PySem.Challenge.rw_xm0814_01.row.prog w) (callerA.deeper (envOfC (Str.ofString "law") (fnScope lawDef) L fa cd)) (execs ((fnBody lawDef).drop 8) (envOfC (Str.ofString "law") (fnScope lawDef) L fa cd)) Q (fun _ _ => False) s := by
  k_fill
  intro w mean mg mb L fa cd h₀ m s Q DU SA D1 D2 FR sz ss x y tx ty ys sv cvs dvs k1 ks kc kd nx o1 o2 o3 o4 o5 o6 o7 o8 B F X N T c3 c4 c5 hap him hx hx3 hy hy3 hSA hsi hs1 hs3 hsp hDU hdd hQ
  change wpAny _ (callerA.deeper (envOfC _ ⟨_, _, _, _, _⟩ _ _ _)) (execs (_ :: _) (envOfC _ ⟨_, _, _, _, _⟩ _ _ _)) _ _ _
  w_on
  dsimp only [cellsL, cellsA] at N hap
  simp only [List.cons_append, List.nil_append] at N
  have hsl := hsi.length
  k_steps
  · refine Hold.mk ?_
    rename Fr h₀ _ _ _ => F9
    rename News h₀ _ _ _ => N9
    rename (ss.length : Int) = 1 => h1
    refine tail9 _ SA D1 D2 FR sz ss x y tx ty ys sv cvs [.ref _] k1 ks kc 0 ((_, _) :: (_, _) :: nx) o1 o2 o3 o4 o5 o6 o7 o8 B (fr_over F9) X (news_in2 (cs := cellsL L o1 o2 o3 o4 o5 o6 o7 o8) N9) T c3 c4 c5 (apart_new (apart_new hap (by omega)) (by omega)) (him.mono fun q hq => .tail _ (.tail _ hq)) hx hx3 hy hy3 (.tail _ (.tail _ hSA)) hsi hs1 hs3 hsp (.head _) ?_ (fun h' tk' m' F2 => hQ h' tk' m' F2)
    unfold specU
    rw [if_pos (by omega)]
    exact DatAll.one (d4_in (.tail _ (.head _)))
  · refine Hold.mk ?_
    rename Fr h₀ _ _ _ => F9
    rename News h₀ _ _ _ => N9
    rename ¬ (ss.length : Int) = 1 => h1
    refine tail9 DU SA D1 D2 FR sz ss x y tx ty ys sv cvs dvs k1 ks kc kd nx o1 o2 o3 o4 o5 o6 o7 o8 B F9 X N9 T c3 c4 c5 hap him hx hx3 hy hy3 hSA hsi hs1 hs3 hsp hDU ?_ (fun h' tk' m' F2 => hQ h' tk' m' F2)
    unfold specU
    rw [if_neg (by omega)]
    exact hdd
end Mine
end
section
open PySem PySem.W PyProof.Rows
set_option maxRecDepth 100000
set_option maxHeartbeats 8000000
set_option rowWalk.seconds 0
namespace Mine
local macro_rules | `(tactic| k_all) => `(tactic| first | assumption | (refine Apart.at (by assumption) ?_; (repeat (first | exact List.mem_cons_self | apply List.mem_cons_of_mem)); done))
local macro_rules | `(tactic| k_mem) => `(tactic| ((repeat (first | exact List.mem_cons_self | ktr_member | refine List.mem_cons_of_mem _ ?_)); done))
local macro_rules | `(tactic| is_list) => `(tactic| exact News.isList (by k_asm) (by k_mem))
local macro_rules | `(tactic| size_fits) => `(tactic| (rw [List.size_toArray, sizeLine_eq]; omega))
local macro_rules | `(tactic| k_room) => `(tactic| ktr_room)
local macro_rules | `(tactic| k_units) => `(tactic| ktr_units)
local macro_rules | `(tactic| walk_at "call type:range") => `(tactic| ((with_reducible show wpAny _ _ (PySem.call _ [_]) _ _ _); (rename Fr _ _ _ _ => F'); (rename News _ _ _ _ => N'); (with_unfolding_all refine range1_rows F' N' ?_); intro _ _ _ _ _ _ _ _ _))
local macro_rules | `(tactic| walk_at "pyIter ref") => `(tactic| ((with_reducible show wpAny _ _ (pyIter (Value.ref _)) (fun it s₂ => LoopAtV _ _ _ _ _ _ _ _ _ it s₂) _ _); refine Hold.out ?_))
local macro_rules | `(tactic| walk_at "call builtin:list.append") => `(tactic| (k_here; (show wpAny _ _ (PySem.call (Value.builtin _) [Value.ref _, _]) _ _ _); k_dflt (refine' append_K ?k1 ?k2 ?k3 ?_ ?z; (case k1 => k_asm); (case k2 => k_asm); (case k3 => k_upd); (case z => size_fits); k_whole); intro h' F' N'; (try k_sweep)))
local macro_rules | `(tactic| walk_at "subscriptTail") => `(tactic| (k_here; (with_reducible show wpAny _ _ (subscriptTail _ _ (Value.ref _) (Value.int _ _)) _ _ _); k_dflt (refine' item_led ?k1 ?k2 ?k3 ?k4 ?k5 ?_); (case k1 => k_asm); (case k2 => k_mem); (case k5 => assumption); (case k3 => omega); (case k4 => omega)))
local macro_rules | `(tactic| walk_at "call builtin:len") => `(tactic| (k_here; (with_reducible show wpAny _ _ (PySem.call (Value.builtin "len") [Value.ref _]) _ _ _); k_dflt (refine' kst_len ?k1 ?k2 ?k3 ?k4 ?_); (case k1 => k_asm); (case k2 => k_mem); (case k3 => assumption); (case k4 => omega)))
local macro_rules | `(tactic| walk_at "call type:list") => `(tactic| (k_here; (with_reducible show wpAny _ _ (PySem.call (Value.type "list") [Value.ref _]) _ _ _); (rename IsRange _ _ _ _ _ _ _ _ => rgX); (k_dflt (refine' kll_range ?k0 ?k1 ?k2 ?k3 ?k4 ?k5 ?k6 ?_); (case k0 => rfl); (case k1 => k_asm); (case k2 => k_asm); (case k3 => exact rgX); (case k4 => exact small_one (by omega) (by omega) (by omega) (by omega)); (case k5 => exact rangeSize_nat _ _); (case k6 => omega)); intro D' vs' c' h' tk' F' N' l1 hI'; (try k_lt l1)))
local macro_rules | `(tactic| walk_at "exec For Name Call cons nil") => `(tactic| (k_here; (rename Fr _ _ _ _ => lF'); (with_unfolding_all refine' For_turns lF' ?_; k_whole)))
local macro_rules | `(tactic| walk_at "pyIter ref") => `(tactic| ((with_reducible show wpAny _ _ (pyIter (Value.ref _)) (fun it s₂ => TurnsAt _ _ _ _ _ _ _ _ _ it s₂) _ _); refine Hold.out ?_))
local macro_rules | `(tactic| walk_at "exec Assign cons ListComp") => `(tactic| (refine Hold.out ?_))
local macro_rules | `(tactic| walk_at "eval ListComp") => `(tactic| (refine Hold.out ?_))
local macro_rules | `(tactic| walk_at "call builtin:list.extend") => `(tactic| (refine Hold.out ?_))
structure P7 where
  vs : List Value
  k : Nat
  (o6 o7 o8 : Obj)
structure P7.Ok (sz : List (Int × Int)) (ss : List Int) (x y : Int) (i : Nat) (nx : Led) (c : P7) : Prop where
  dat : DatAll nx c.vs (unitN sz ss x y i)
  c6 : ∃ v, c.o6.data = .cell v
  c7 : ∃ v, c.o7.data = .cell v
  c8 : ∃ v, c.o8.data = .cell v
def pairs2 (W H x y : Int) : List (Int × Int) := (List.range (H * 3 - 0).toNat).flatMap fun i => ((List.range (W * 3 - 0).toNat).filter fun j => decide (((j : Nat) : Int).fdiv W = x ∧ ((i : Nat) : Int).fdiv H = y)).map fun j => (((j : Nat) : Int), ((i : Nat) : Int))
def blkP (bx by_ : Int) (W n : Nat) : List (Int × Int) := (List.range n).flatMap fun (k : Nat) => (List.range W).map fun (j : Nat) => (bx + (j : Int), by_ + (k : Int))
theorem pairs2_blk (W H x y : Int) (h1 : 1 ≤ W) (h2 : W ≤ 4) (h3 : 1 ≤ H) (h4 : H ≤ 4) (h5 : 0 ≤ x) (h6 : x < 3) (h7 : 0 ≤ y) (h8 : y < 3) : pairs2 W H x y = blkP (x * W) (y * H) W.toNat H.toNat := by
  have e1 : W = 1 ∨ W = 2 ∨ W = 3 ∨ W = 4 := by omega
  have e2 : H = 1 ∨ H = 2 ∨ H = 3 ∨ H = 4 := by omega
  have e3 : x = 0 ∨ x = 1 ∨ x = 2 := by omega
  have e4 : y = 0 ∨ y = 1 ∨ y = 2 := by omega
  have key : ∀ W ∈ [(1 : Int), 2, 3, 4], ∀ H ∈ [(1 : Int), 2, 3, 4], ∀ x ∈ [(0 : Int), 1, 2], ∀ y ∈ [(0 : Int), 1, 2], pairs2 W H x y = blkP (x * W) (y * H) W.toNat H.toNat := by decide +kernel
  exact key W (by simpa using e1) H (by simpa using e2) x (by simpa using e3) y (by simpa using e4)
theorem spec2_pairs (W H x y : Int) (h1 : 1 ≤ W) (h2 : W ≤ 4) (h3 : 1 ≤ H) (h4 : H ≤ 4) (h5 : 0 ≤ x) (h6 : x < 3) (h7 : 0 ≤ y) (h8 : y < 3) :
    spec2 (H * 3 - 0).toNat (W * 3 - 0).toNat (fun i j => decide (((j : Nat) : Int).fdiv W = x ∧ ((i : Nat) : Int).fdiv H = y)) (fun i j => d2 j i) = sidesD (blkP (x * W) (y * H) W.toNat H.toNat) := by
  rw [← pairs2_blk W H x y h1 h2 h3 h4 h5 h6 h7 h8]
  simp [spec2, sidesD, pairs2, List.map_flatMap]
  rfl
theorem blkP_blkD (pc pl bx by_ : Int) (W n : Nat) : ((blkP bx by_ W n).map fun z => d4 pc pl z.1 z.2) = blkD pc pl bx by_ W n := by
  simp [blkP, blkD, rowD, List.map_flatMap]
  rfl
theorem blkP_length (bx by_ : Int) (W n : Nat) : (blkP bx by_ W n).length = n * W := by
  have e := blkP_blkD 0 0 bx by_ W n
  have e2 := congrArg List.length e
  rw [List.length_map, blkD_length] at e2
  exact e2
theorem news_in {h₀ h : Heap} {L : Addr} {a : Addr × Obj} {cs nx : Led} (N : News h₀ L h (a :: (cs ++ nx))) : News h₀ L h (cs ++ (a :: nx)) := by
  intro p hp
  refine N p ?_
  rcases List.mem_append.mp hp with hp | hp
  · exact .tail _ (List.mem_append.mpr (.inl hp))
  · rcases List.mem_cons.mp hp with rfl | hp
    · exact .head _
    · exact .tail _ (List.mem_append.mpr (.inr hp))
theorem Apart.cons {cs nx : Led} {D : Addr} {o : Obj} (h : Apart nx (cs.map (·.1))) (hD : ∀ q ∈ cs ++ nx, q.1 ≠ D) : Apart ((D, o) :: nx) (cs.map (·.1)) := by
  intro q hq z hz
  rcases List.mem_cons.mp hq with rfl | hq
  · obtain ⟨p, hp, rfl⟩ := List.mem_map.mp hz
    exact Ne.symm (hD p (List.mem_append.mpr (.inl hp)))
  · exact h q hq z hz
theorem cells_off {L DU : Addr} {o1 o2 o3 o4 o5 o6 o7 o8 : Obj} {nx : Led} (h : @LT.lt Nat _ (L + 1 + 1 + 1 + 1 + 1 + 1 + 1 + 1) DU) (hn : ∀ q ∈ nx, q.1 ≠ DU) : ∀ q ∈ cellsL L o1 o2 o3 o4 o5 o6 o7 o8 ++ nx, q.1 ≠ DU := by
  intro q hq
  rcases List.mem_append.mp hq with hq | hq
  · refine Nat.ne_of_lt (Nat.lt_of_le_of_lt ?_ h)
    simp only [cellsL, List.mem_cons, List.not_mem_nil, or_false] at hq
    rcases hq with e | e | e | e | e | e | e | e <;> (rw [e]; dsimp only; omega)
  · exact hn q hq
theorem off_turn {DU D : Addr} {o o' : Obj} {r nx : Led} (h : ∀ q ∈ (DU, o) :: r ++ nx, q.1 ≠ D) : ∀ q ∈ (DU, o') :: r ++ nx, q.1 ≠ D := fun q hq => by
  rcases List.mem_cons.mp hq with e | hq
  · rw [e]; exact h (DU, o) (.head _)
  · exact h q (.tail _ hq)
theorem test_eq (a b c d : Int) : (a == b && c == d) = decide (a = b ∧ c = d) := by
  rw [Bool.decide_and]; rfl
theorem tail7 : ∀ {w : World} {mean : ExcName → Option Value} {mg mb : Str → Option Value} {L fa : Addr} {cd : Value} {h₀ : Heap} {m : Str → Option Value} {s : Shared} {Q : Flow → Shared → Prop}
  (DU SA H D1 D2 FR : Addr) (sz : List (Int × Int)) (ss : List Int) (x y : Int) (tx ty : Tok) (ys sv cvs : List Value) (k1 ks kc : Nat) (nx : Led) (o1 o2 o3 o4 o5 o6 o7 o8 : Obj) (v6 v7 v8 : Option Value)
  (_ : Below callerA h₀ [] h₀) (_ : Fr h₀ L s.heap (fun y => if y = Str.ofString "due" then some (.ref DU) else if y = Str.ofString "frame" then some (.ref FR) else m y)) (_ : (hd.heap_39 w.params).In h₀)
  (_ : News h₀ L s.heap ((DU, listOf [].toArray 0) :: (cellsL L o1 o2 o3 o4 o5 o6 o7 o8 ++ nx))) (_ : Top hd.view_39 (looseW hd.view_39 []) mean mg mb h₀)
  (_ : o1.data = .cell (some (.ref H))) (_ : o2.data = .cell (some (.ref D1))) (_ : o3.data = .cell (some (.ref SA))) (_ : o4.data = .cell (some (.int x tx))) (_ : o5.data = .cell (some (.int y ty))) (_ : o6.data = .cell v6) (_ : o7.data = .cell v7) (_ : o8.data = .cell v8)
  (_ : @LT.lt Nat _ (L + 1 + 1 + 1 + 1 + 1 + 1 + 1 + 1) DU) (_ : Apart nx (DU :: cellsA L)) (_ : Imm w.params nx FR D1 D2 ys cvs k1 kc sz) (_ : 0 ≤ x) (_ : x < 3) (_ : 0 ≤ y) (_ : y < 3) (_ : (SA, listOf sv.toArray ks) ∈ nx) (_ : IntsAre sv ss) (_ : 1 ≤ ss.length) (_ : ss.length ≤ 3) (_ : ∀ p ∈ ss, 0 ≤ p ∧ p < (sz.length : Int))
  (_ : ∀ h' tk' m', Fr h₀ L h' m' → Q (.ret (.bool true)) { s with heap := h', toks := tk' }),
  wpAny (model PySem.Challenge.rw_xm0814_01.row.prog w) (callerA.deeper (envOfC (Str.ofString "law") (fnScope lawDef) L fa cd)) (execs ((fnBody lawDef).drop 7) (envOfC (Str.ofString "law") (fnScope lawDef) L fa cd)) Q (fun _ _ => False) s := by
  k_fill
  intro w mean mg mb L fa cd h₀ m s Q DU SA H0 D1 D2 FR sz ss x y tx ty ys sv cvs k1 ks kc nx o1 o2 o3 o4 o5 o6 o7 o8 v6 v7 v8 B F X N T c1 c2 c3 c4 c5 c6 c7 c8 g1 hap him hx hx3 hy hy3 hSA hsi hs1 hs3 hsp hQ
  change wpAny _ (callerA.deeper (envOfC _ ⟨_, _, _, _, _⟩ _ _ _)) (execs (_ :: _) (envOfC _ ⟨_, _, _, _, _⟩ _ _ _)) _ _ _
  w_on
  dsimp only [cellsL, cellsA] at N hap
  simp only [List.cons_append, List.nil_append] at N
  have hsl := hsi.length
  k_steps
  refine Hold.mk ?_
  rename Fr _ _ _ _ => F9
  rename News _ _ _ _ => N9
  rename IsRange _ _ _ _ _ _ _ _ => R9
  refine cell_loop (σ := P7) (nx := nx) (fun c => (DU, listOf c.vs.toArray c.k) :: cellsL L o1 o2 o3 o4 o5 c.o6 c.o7 c.o8) (DU :: cellsA L) (fun _ => rfl) (fun i nn c => P7.Ok sz ss x y i nn c) [Str.ofString "inner"] ⟨[], 0, o6, o7, o8⟩
    (fun i a b c h hs => ⟨DatAll.mono hs h.dat, h.c6, h.c7, h.c8⟩) (fun i nn c I h oI hd N hI hc => ⟨datAll_fil N hI (by rw [hc]; decide) (by rw [hc]; decide) hd.dat, hd.c6, hd.c7, hd.c8⟩)
    (by rfl) R9 (small_one (by omega) (by omega) (by omega) (by omega)) (rangeSize_nat _ _) F9 N9 hap ⟨.nil, ⟨_, c6⟩, ⟨_, c7⟩, ⟨_, c8⟩⟩ ?_ ?_
  · intro i t u h tk nx' c hi hs ho hI F' N'
    clear F9 N9 R9
    obtain ⟨vs, k, o6, o7, o8⟩ := c
    obtain ⟨hdat, ⟨v6, c6⟩, ⟨v7, c7⟩, ⟨v8, c8⟩⟩ := hI
    dsimp only at hdat c6 c7 c8
    have ho' : Apart nx' (DU :: cellsA L) := ho
    dsimp only [cellsL, cellsA] at N' ho'
    simp only [List.cons_append, List.nil_append] at N'
    have hi' : i < ss.length := by omega
    have hpe : ss.getD ((i : Nat) : Int).toNat 0 = ss[i] := by simp [List.getD_eq_getElem?_getD, hi']
    have hpi := hsp (ss[i]) (List.getElem_mem hi')
    rw [← hpe] at hpi
    obtain ⟨hp0, hpL⟩ := hpi
    have him' := him.mono hs
    obtain ⟨T0, n0, W, H, tW, tH, hv, hz, hT0⟩ := sides_at him'.sides (k := (ss.getD ((i : Nat) : Int).toNat 0).toNat) (by omega)
    have hzz := him.ok.getD (ss.getD ((i : Nat) : Int).toNat 0).toNat
    rw [hz] at hzz
    obtain ⟨hW1, hW4, hH1, hH4⟩ := hzz
    dsimp only at hW1 hW4 hH1 hH4
    have hSA' := hs _ hSA
    have hD1' := him'.sl
    have hhi := him.hi
    k_steps
    refine Hold.mk ?_
    rename Fr _ _ _ _ => F9
    refine assign_comp2 F9 rfl (by with_unfolding_all rfl) (by with_unfolding_all rfl) (by decide) (by rfl) (by decide) (by rfl) (by rfl) (by decide) (by rfl) (by rfl) ?_
    k_steps
    rename Fr _ _ _ _ => F9
    rename News _ _ _ _ => N9
    rename IsRange _ _ _ _ _ _ _ _ => R9
    refine Src2.intro (b2 := W * 3) (fun i j => decide (((j : Nat) : Int).fdiv W = x ∧ ((i : Nat) : Int).fdiv H = y)) (fun i j => d2 j i) (by rfl) F9 N9 (by repeat' (first | apply Split.cons | exact Split.done)) R9 (small_one (by omega) (by omega) (by omega) (by omega)) (rangeSize_nat _ _) (small_one (by omega) (by omega) (by omega) (by omega)) (rangeSize_nat _ _) (by omega) (by omega) ho' ?_ ?_ ?_ ?_
    · intro i2 ti2 I oI C oC D m₃ ys2 h2 tk2 nx2 E' hi2 hs2 ho2 hC hx2 F2 N2 o1 o2
      clear F9 N9 R9
      simp only [List.cons_append, List.nil_append] at N2
      k_steps
      rename Fr _ _ _ _ => F9
      rename News _ _ _ _ => N9
      rename IsRange _ _ _ _ _ _ _ _ => R9
      exact ⟨_, _, _, _, _, _, rfl, rfl, R9, F9, N9⟩
    · intro i2 j2 ti2 tj2 I oI C oC D m₃ ys2 h2 tk2 nx2 E' hi2 hj2 hs2 ho2 hC hx1 hx2 F2 N2 o1 o2
      clear F9 N9 R9
      simp only [List.cons_append, List.nil_append] at N2
      k_steps
      rename Fr _ _ _ _ => F9
      rename News _ _ _ _ => N9
      exact ⟨test_eq _ _ _ _, _, _, rfl, F9, fun q hq => N9 q (.tail _ (.tail _ hq))⟩
    · intro i2 j2 ti2 tj2 I oI C oC D m₃ ys2 h2 tk2 nx2 E' hi2 hj2 hp2 hs2 ho2 hC hx1 hx2 F2 N2 o1 o2
      clear F9 N9 R9
      simp only [List.cons_append, List.nil_append] at N2
      k_steps
      rename Fr _ _ _ _ => F9
      rename News _ _ _ _ => N9
      refine GrowEnd.add () [(_, _)] F9 N9 rfl ?_ o1 ho2 trivial (d2_in (.head _))
      intro q hq p hp
      rw [List.mem_singleton.mp hq]
      refine allLt_mem ?_ p hp
      assumption
    · intro DI h2 tk2 ys2 nx2 F2 N2 hs2 ho2 hDI hdat2
      clear F9 N9 R9
      rw [spec2_pairs W H x y hW1 hW4 hH1 hH4 hx hx3 hy hy3] at hdat2
      have N3 := news_in N2
      simp only [List.cons_append, List.nil_append] at N2
      have hap3 := Apart.cons (o := LCg.lst ys2) ho2 hDI
      k_steps
      refine Hold.mk ?_
      rename Fr _ _ _ _ => F9
      refine pair_comp F9 (by rfl) (by decide) (by rfl) (by decide) (by rfl) (by rfl) (by decide) ?_
      k_steps
      rename Fr _ _ _ _ => F9
      have hbl : (blkP (x * W) (y * H) W.toNat H.toNat).length ≤ 16 := by rw [blkP_length]; exact mul_le16 (by omega) (by omega)
      refine PairSrc.intro (fun a b => d4 (i : Nat) (ss.getD ((i : Nat) : Int).toNat 0) a b) (blkP (x * W) (y * H) W.toNat H.toNat) (by rfl) F9 N3 (by repeat' (first | apply Split.cons | exact Split.done)) hap3 (.head _) (DatAll.mono (fun q hq => .tail _ hq) hdat2) (by omega) ?_ ?_
      · intro a b ta tb I oI C oC D m₃ ys4 h4 tk4 nx4 E' hab hs4 ho4 hC hx1 hx2 F4 N4 o1 o2
        clear F9 N2 N3
        simp only [List.cons_append, List.nil_append] at N4
        have hSA4 := hs4 _ (.tail _ (hs2 _ hSA'))
        k_steps
        rename Fr _ _ _ _ => F9
        rename News _ _ _ _ => N9
        refine GrowEnd.add () [(_, _)] F9 N9 rfl ?_ o1 ho4 trivial (d4_in (.head _))
        intro q hq p hp
        rw [List.mem_singleton.mp hq]
        refine allLt_mem ?_ p hp
        assumption
      · intro D4 h4 tk4 ys4 nx4 F4 N4 hs4 ho4 hD4 hdat4
        clear F9 N2 N3
        simp only [List.cons_append, List.nil_append] at N4
        k_steps
        refine Hold.mk ?_
        rw [blkP_blkD] at hdat4
        have hu := unitN_length_le him'.ok ss x y i
        have hvl := hdat.length
        have hyl := hdat4.length
        rw [blkD_length] at hyl
        rw [blkP_length] at hbl
        have hyp : 0 < H.toNat * W.toNat := Nat.mul_pos (by omega) (by omega)
        have h16 : vs.length + ys4.length ≤ 1000 := by omega
        refine kl_extend (its := vs.toArray) (its2 := ys4.toArray) (l := vs ++ ys4) F4 N4 (.head _) (by simp) (by show ys4.length ≠ 0; omega) (.tail (Ne.symm (hD4 _ (.head _))) (.head (cells_off g1 (ho4.at List.mem_cons_self)))) ?_ ?_ ?_ ?_
        · simp only [Builtin.List.listTooLong, sizeLine_eq, List.size_toArray]
          rw [decide_eq_false (by omega), Bool.and_false]
          decide
        · rw [sizeLine_eq]; show vs.length ≤ _; omega
        · rw [sizeLine_eq]; show vs.length + ys4.length ≤ _; omega
        · intro h5 F5 N5
          k_steps
          refine ⟨h5, _, _, ⟨vs ++ ys4, k + 1, _, _, _⟩, (D4, LCg.lst ys4) :: nx4, rfl, F5, news_in (cs := (DU, listOf (vs ++ ys4).toArray (k + 1)) :: cellsL L o1 o2 o3 o4 o5 _ _ _) N5, fun q hq => .tail _ (hs4 _ (.tail _ (hs2 _ hq))), ?_, ⟨?_, ⟨_, by assumption⟩, ⟨_, by assumption⟩, ⟨_, by assumption⟩⟩, ?_⟩
          · exact Apart.cons (cs := (DU, listOf (vs ++ ys4).toArray (k + 1)) :: cellsL L o1 o2 o3 o4 o5 _ _ _) ho4 (off_turn hD4)
          · have hz' : sz.getD (ss.getD i 0).toNat (1, 1) = (W, H) := hz
            rw [unitN_succ, hz']
            refine DatAll.append (DatAll.mono (fun q hq => .tail _ (hs4 _ (.tail _ (hs2 _ hq)))) hdat) (DatAll.mono (fun q hq => .tail _ hq) ?_)
            exact hdat4
          · intro y hy
            have hn : y ≠ Str.ofString "inner" := by rintro rfl; revert hy; decide
            show (if y = _ then _ else if _ then _ else _) = _
            rw [if_neg hn, if_neg (by rw [hy]; exact Bool.false_ne_true)]
  · intro u h tk nx' c hs ho hI F' N'
    clear F9 N9 R9
    obtain ⟨vs, k, o6, o7, o8⟩ := c
    obtain ⟨hdat, c6, c7, c8⟩ := hI
    dsimp only at hdat
    have ho' : Apart nx' (DU :: cellsA L) := ho
    have hn : (((ss.length : Int) - 0).toNat) = ss.length := by omega
    rw [hn] at hdat
    show wpAny _ _ (execs _ _) _ _ _
    refine tail8 DU SA D1 D2 FR sz ss x y tx ty ys sv cvs vs k1 ks kc k ((DU, listOf vs.toArray k) :: nx') o1 o2 o3 o4 o5 o6 o7 o8 B (fr_see (fr_see F' (x := Str.ofString "frame") (v := .ref FR) ?_) (x := Str.ofString "due") (v := .ref DU) ?_) X (news_in (cs := cellsL L o1 o2 o3 o4 o5 o6 o7 o8) N') T c3 c4 c5 (apart_new (ho'.sub fun z hz => .tail _ hz) g1) (him.mono fun q hq => .tail _ (hs q hq)) hx hx3 hy hy3 (.tail _ (hs _ hSA)) hsi hs1 hs3 hsp (.head _) (DatAll.mono (fun q hq => .tail _ hq) hdat) (fun h' tk' m' F2 => hQ h' tk' m' F2)
    · rfl
    · rfl
end Mine
end
section
open PySem PySem.W PyProof.Rows
set_option maxRecDepth 100000
set_option maxHeartbeats 8000000
set_option rowWalk.seconds 0
namespace Mine
local macro_rules | `(tactic| k_all) => `(tactic| first | assumption | (refine Apart.at (by assumption) ?_; (repeat (first | exact List.mem_cons_self | apply List.mem_cons_of_mem)); done))
local macro_rules | `(tactic| k_mem) => `(tactic| ((repeat (first | exact List.mem_cons_self | ktr_member | refine List.mem_cons_of_mem _ ?_)); done))
local macro_rules | `(tactic| is_list) => `(tactic| exact News.isList (by k_asm) (by k_mem))
local macro_rules | `(tactic| size_fits) => `(tactic| (rw [List.size_toArray, sizeLine_eq]; omega))
local macro_rules | `(tactic| k_room) => `(tactic| ktr_room)
local macro_rules | `(tactic| k_units) => `(tactic| ktr_units)
local macro_rules | `(tactic| walk_at "call type:range") => `(tactic| ((with_reducible show wpAny _ _ (PySem.call _ [_]) _ _ _); (rename Fr _ _ _ _ => F'); (rename News _ _ _ _ => N'); (with_unfolding_all refine range1_rows F' N' ?_); intro _ _ _ _ _ _ _ _ _))
local macro_rules | `(tactic| walk_at "pyIter ref") => `(tactic| ((with_reducible show wpAny _ _ (pyIter (Value.ref _)) (fun it s₂ => LoopAtV _ _ _ _ _ _ _ _ _ it s₂) _ _); refine Hold.out ?_))
local macro_rules | `(tactic| walk_at "call builtin:list.append") => `(tactic| (k_here; (show wpAny _ _ (PySem.call (Value.builtin _) [Value.ref _, _]) _ _ _); k_dflt (refine' append_K ?k1 ?k2 ?k3 ?_ ?z; (case k1 => k_asm); (case k2 => k_asm); (case k3 => k_upd); (case z => size_fits); k_whole); intro h' F' N'; (try k_sweep)))
local macro_rules | `(tactic| walk_at "subscriptTail") => `(tactic| (k_here; (with_reducible show wpAny _ _ (subscriptTail _ _ (Value.ref _) (Value.int _ _)) _ _ _); k_dflt (refine' item_led ?k1 ?k2 ?k3 ?k4 ?k5 ?_); (case k1 => k_asm); (case k2 => k_mem); (case k5 => assumption); (case k3 => omega); (case k4 => omega)))
local macro_rules | `(tactic| walk_at "call builtin:len") => `(tactic| (k_here; (with_reducible show wpAny _ _ (PySem.call (Value.builtin "len") [Value.ref _]) _ _ _); k_dflt (refine' kst_len ?k1 ?k2 ?k3 ?k4 ?_); (case k1 => k_asm); (case k2 => k_mem); (case k3 => assumption); (case k4 => omega)))
local macro_rules | `(tactic| walk_at "call type:list") => `(tactic| (k_here; (with_reducible show wpAny _ _ (PySem.call (Value.type "list") [Value.ref _]) _ _ _); (rename IsRange _ _ _ _ _ _ _ _ => rgX); (k_dflt (refine' kll_range ?k0 ?k1 ?k2 ?k3 ?k4 ?k5 ?k6 ?_); (case k0 => rfl); (case k1 => k_asm); (case k2 => k_asm); (case k3 => exact rgX); (case k4 => exact small_one (by omega) (by omega) (by omega) (by omega)); (case k5 => exact rangeSize_nat _ _); (case k6 => omega)); intro D' vs' c' h' tk' F' N' l1 hI'; (try k_lt l1)))
local macro_rules | `(tactic| walk_at "call ref") => `(tactic| (k_here; (with_reducible show wpAny _ _ (PySem.call (Value.ref 171) [Value.ref _, Value.int _ _]) _ _ _); (k_dflt (refine' twig_use ?k1 ?k2 ?k3 ?k4 ?k5 ?kK ?kU ?x1 ?x2 ?x3 ?x4 ?x5 ?kd ?ku ?_; (case k1 => k_asm); (case k2 => k_asm); (case k3 => k_asm); (case k4 => k_asm); (case k5 => k_asm); (case kK => first | exact rfl | assumption); (case kU => k_updF); (case x1 => first | assumption | omega); (case x2 => assumption); (case x3 => assumption); (case x4 => (try dsimp only); omega); (case x5 => (try dsimp only); omega); (case kd => ktr_room); (case ku => ktr_units))); (intro r9 x9 y9 t9 tx9 ty9 h9 tk9 g1 g2 g3 g4 g5 F9 N9); (try dsimp only at N9); (try dsimp only); (try k_fold); (walk_say "TWIG")))
local macro_rules | `(tactic| walk_at "call ref") => `(tactic| (k_here; (with_reducible show wpAny _ _ (PySem.call (Value.ref 164) [Value.ref _]) _ _ _); (k_dflt (refine' hedge_use ?k1 ?k2 ?k3 ?k4 ?k5 ?kK ?kl ?ki ?kx ?kd ?ku ?_; (case k1 => k_asm); (case k2 => k_asm); (case k3 => k_asm); (case k4 => k_asm); (case k5 => k_asm); (case kK => first | exact rfl | assumption); (case kl => assumption); (case ki => assumption); (case kx => assumption); (case kd => ktr_room); (case ku => ktr_units))); (intro r9 x9 y9 tx9 ty9 h9 tk9 g3 g4 g5 F9 N9 l9); (try dsimp only at N9); (try dsimp only); (try k_fold); (try k_lt l9); (walk_say "HEDGE")))
local macro_rules | `(tactic| walk_at "CompSrc") => `(tactic| (refine Hold.out ?_))
local macro_rules | `(tactic| walk_at "execs cons For") => `(tactic| (refine Hold.out ?_))
theorem tail6 : ∀ {w : World} {mean : ExcName → Option Value} {mg mb : Str → Option Value} {L fa : Addr} {cd : Value} {h₀ : Heap} {m : Str → Option Value} {s : Shared} {Q : Flow → Shared → Prop}
  (SA H D1 D2 FR : Addr) (sz : List (Int × Int)) (ss : List Int) (ys sv cvs : List Value) (k1 ks kc : Nat) (hg : Hg) (nx : Led) (o1 o2 o3 o4 o5 o6 o7 o8 : Obj) (v4 v5 v6 v7 v8 : Option Value)
  (_ : Below callerA h₀ [] h₀) (_ : Fr h₀ L s.heap (fun y => if y = Str.ofString "frame" then some (.ref FR) else m y)) (_ : (hd.heap_39 w.params).In h₀)
  (_ : News h₀ L s.heap ((H, hg.obj 0) :: (cellsL L o1 o2 o3 o4 o5 o6 o7 o8 ++ nx))) (_ : Top hd.view_39 (looseW hd.view_39 []) mean mg mb h₀)
  (_ : o1.data = .cell (some (.ref H))) (_ : o2.data = .cell (some (.ref D1))) (_ : o3.data = .cell (some (.ref SA))) (_ : o4.data = .cell v4) (_ : o5.data = .cell v5) (_ : o6.data = .cell v6) (_ : o7.data = .cell v7) (_ : o8.data = .cell v8)
  (_ : @LT.lt Nat _ (L + 1 + 1 + 1 + 1 + 1 + 1 + 1 + 1) H) (_ : Apart nx (H :: cellsA L)) (_ : Imm w.params nx FR D1 D2 ys cvs k1 kc sz) (_ : Hg.Ok hg) (_ : (SA, listOf sv.toArray ks) ∈ nx) (_ : IntsAre sv ss) (_ : 1 ≤ ss.length) (_ : ss.length ≤ 3) (_ : ∀ p ∈ ss, 0 ≤ p ∧ p < (sz.length : Int))
  (_ : ∀ h' tk' m', Fr h₀ L h' m' → Q (.ret (.bool true)) { s with heap := h', toks := tk' }),
  wpAny (model PySem.Challenge.rw_xm0814_01.row.prog w) (callerA.deeper (envOfC (Str.ofString "law") (fnScope lawDef) L fa cd)) (execs ((fnBody lawDef).drop 5) (envOfC (Str.ofString "law") (fnScope lawDef) L fa cd)) Q (fun _ _ => False) s := by
  k_fill
  intro w mean mg mb L fa cd h₀ m s Q SA H D1 D2 FR sz ss ys sv cvs k1 ks kc hg nx o1 o2 o3 o4 o5 o6 o7 o8 v4 v5 v6 v7 v8 B F X N T c1 c2 c3 c4 c5 c6 c7 c8 g1 hap him hhg hSA hsi hs1 hs3 hsp hQ
  change wpAny _ (callerA.deeper (envOfC _ ⟨_, _, _, _, _⟩ _ _ _)) (execs (_ :: _) (envOfC _ ⟨_, _, _, _, _⟩ _ _ _)) _ _ _
  w_on
  dsimp only [cellsL, cellsA, Hg.obj] at N hap
  simp only [List.cons_append, List.nil_append] at N
  have hsl := hsi.length
  obtain ⟨hh1, hh2, hh3⟩ := hhg
  k_steps
  refine Hold.mk ?_
  rename Fr _ _ _ _ => F9
  rename News _ _ _ _ => N9
  rename Obj.data _ = Data.cell (some (Value.int _ _)) => d5
  revert d5
  rename Obj.data _ = Data.cell (some (Value.int _ _)) => d4
  intro d5
  rename _ ∧ _ ∧ _ ∧ _ ∧ _ ∧ _ ∧ _ ∧ _ ∧ _ ∧ _ ∧ AllLt _ _ => hl9
  refine tail7 _ SA H D1 D2 FR sz ss _ _ _ _ ys sv cvs k1 ks kc ((H, _) :: nx) o1 o2 o3 _ _ o6 o7 o8 v6 v7 v8 B F9 X (news_out N9) T c1 c2 c3 d4 d5 c6 c7 c8 (by omega) ?_ (him.mono fun q hq => .tail _ hq) (by omega) (by omega) (by omega) (by omega) (.tail _ hSA) hsi hs1 hs3 hsp (fun h' tk' m' F2 => hQ h' tk' m' F2)
  · intro q hq z hz
    rcases List.mem_cons.mp hq with rfl | hq
    · rcases List.mem_cons.mp hz with rfl | hz
      · exact Nat.ne_of_lt hl9.2.1
      · exact apart_hi (H := L) g1 (by omega) (List.mem_cons_of_mem _ hz)
    · rcases List.mem_cons.mp hz with rfl | hz
      · exact Nat.ne_of_lt (allLt_mem (l := nx) (hl9.2.2.2.2.2.2.2.2.2.2) q hq)
      · exact hap q hq z (List.mem_cons_of_mem _ hz)
end Mine
end
section
open PySem PySem.W PyProof.Rows
set_option maxRecDepth 100000
set_option maxHeartbeats 8000000
set_option rowWalk.seconds 0
namespace Mine
local macro_rules | `(tactic| walk_at "no such key 1") => `(tactic| skip)
local macro_rules | `(tactic| k_all) => `(tactic| first | assumption | (refine Apart.at (by assumption) ?_; (repeat (first | exact List.mem_cons_self | apply List.mem_cons_of_mem)); done))
local macro_rules | `(tactic| k_mem) => `(tactic| ((repeat (first | exact List.mem_cons_self | ktr_member | refine List.mem_cons_of_mem _ ?_)); done))
local macro_rules | `(tactic| is_list) => `(tactic| exact News.isList (by k_asm) (by k_mem))
local macro_rules | `(tactic| size_fits) => `(tactic| (rw [List.size_toArray, sizeLine_eq]; omega))
local macro_rules | `(tactic| k_room) => `(tactic| ktr_room)
local macro_rules | `(tactic| k_units) => `(tactic| ktr_units)
local macro_rules | `(tactic| walk_at "call type:range") => `(tactic| ((with_reducible show wpAny _ _ (PySem.call _ [_]) _ _ _); (rename Fr _ _ _ _ => F'); (rename News _ _ _ _ => N'); (with_unfolding_all refine range1_rows F' N' ?_); intro _ _ _ _ _ _ _ _ _))
local macro_rules | `(tactic| walk_at "pyIter ref") => `(tactic| ((with_reducible show wpAny _ _ (pyIter (Value.ref _)) (fun it s₂ => LoopAtV _ _ _ _ _ _ _ _ _ it s₂) _ _); refine Hold.out ?_))
local macro_rules | `(tactic| walk_at "call builtin:list.append") => `(tactic| (k_here; (show wpAny _ _ (PySem.call (Value.builtin _) [Value.ref _, _]) _ _ _); k_dflt (refine' append_K ?k1 ?k2 ?k3 ?_ ?z; (case k1 => k_asm); (case k2 => k_asm); (case k3 => k_upd); (case z => size_fits); k_whole); intro h' F' N'; (try k_sweep)))
local macro_rules | `(tactic| walk_at "subscriptTail") => `(tactic| (k_here; (with_reducible show wpAny _ _ (subscriptTail _ _ (Value.ref _) (Value.int _ _)) _ _ _); k_dflt (refine' item_led ?k1 ?k2 ?k3 ?k4 ?k5 ?_); (case k1 => k_asm); (case k2 => k_mem); (case k5 => assumption); (case k3 => omega); (case k4 => omega)))
local macro_rules | `(tactic| walk_at "call builtin:len") => `(tactic| (k_here; (with_reducible show wpAny _ _ (PySem.call (Value.builtin "len") [Value.ref _]) _ _ _); k_dflt (refine' kst_len ?k1 ?k2 ?k3 ?k4 ?_); (case k1 => k_asm); (case k2 => k_mem); (case k3 => assumption); (case k4 => omega)))
local macro_rules | `(tactic| walk_at "call type:list") => `(tactic| (k_here; (with_reducible show wpAny _ _ (PySem.call (Value.type "list") [Value.ref _]) _ _ _); (rename IsRange _ _ _ _ _ _ _ _ => rgX); (k_dflt (refine' kll_range ?k0 ?k1 ?k2 ?k3 ?k4 ?k5 ?k6 ?_); (case k0 => rfl); (case k1 => k_asm); (case k2 => k_asm); (case k3 => exact rgX); (case k4 => exact small_one (by omega) (by omega) (by omega) (by omega)); (case k5 => exact rangeSize_nat _ _); (case k6 => omega)); intro D' vs' c' h' tk' F' N' l1 hI'; (try k_lt l1)))
local macro_rules | `(tactic| walk_at "call ref") => `(tactic| (k_here; (with_reducible show wpAny _ _ (PySem.call (Value.ref 171) [Value.ref _, Value.int _ _]) _ _ _); (k_dflt (refine' twig_use ?k1 ?k2 ?k3 ?k4 ?k5 ?kK ?kU ?x1 ?x2 ?x3 ?x4 ?x5 ?kd ?ku ?_; (case k1 => k_asm); (case k2 => k_asm); (case k3 => k_asm); (case k4 => k_asm); (case k5 => k_asm); (case kK => first | exact rfl | assumption); (case kU => k_updF); (case x1 => first | assumption | omega); (case x2 => assumption); (case x3 => assumption); (case x4 => (try dsimp only); omega); (case x5 => (try dsimp only); omega); (case kd => ktr_room); (case ku => ktr_units))); (intro r9 x9 y9 t9 tx9 ty9 h9 tk9 g1 g2 g3 g4 g5 F9 N9); (try dsimp only at N9); (try dsimp only); (try k_fold); (walk_say "TWIG")))
local macro_rules | `(tactic| walk_at "call ref") => `(tactic| (k_here; (with_reducible show wpAny _ _ (PySem.call (Value.ref 164) [Value.ref _]) _ _ _); (k_dflt (refine' hedge_use ?k1 ?k2 ?k3 ?k4 ?k5 ?kK ?kl ?ki ?kx ?kd ?ku ?_; (case k1 => k_asm); (case k2 => k_asm); (case k3 => k_asm); (case k4 => k_asm); (case k5 => k_asm); (case kK => first | exact rfl | assumption); (case kl => assumption); (case ki => assumption); (case kx => assumption); (case kd => ktr_room); (case ku => ktr_units))); (intro r9 x9 y9 tx9 ty9 h9 tk9 g3 g4 g5 F9 N9 l9); (try dsimp only at N9); (try dsimp only); (try k_fold); (try k_lt l9); (walk_say "HEDGE")))
local macro_rules | `(tactic| walk_at "CompSrc") => `(tactic| (refine Hold.out ?_))
local macro_rules | `(tactic| walk_at "call builtin:list.pop") => `(tactic| (k_here; (show wpAny _ _ (PySem.call (Value.builtin _) [Value.ref _, Value.int _ _]) _ _ _); (k_dflt (refine' pop_use ?F ?N ?U ?i ?x ?y ?z ?_); (case F => k_asm); (case N => k_asm); (case U => k_updF); (case i => assumption); (case x => omega); (case y => omega); (case z => omega)); (intro us9 v9 t9 l9 h9 F9 N9 hi9 hl9 hs9 hv9); (try dsimp only at N9)))
structure P5 where
  (sv lv : List Value)
  (ks kl : Nat)
  hg : Hg
  (ss ls : List Int)
structure P5.Ok (n i : Nat) (c : P5) : Prop where
  li : IntsAre c.lv c.ls
  si : IntsAre c.sv c.ss
  ll : c.ls.length + i = n
  sl : c.ss.length = i
  lb : ∀ p ∈ c.ls, 0 ≤ p ∧ p < (n : Int)
  sb : ∀ p ∈ c.ss, 0 ≤ p ∧ p < (n : Int)
  hk : Hg.Ok c.hg
theorem tail5 : ∀ {w : World} {mean : ExcName → Option Value} {mg mb : Str → Option Value} {L fa : Addr} {cd : Value} {h₀ : Heap} {m : Str → Option Value} {s : Shared} {Q : Flow → Shared → Prop}
  (SA LA H D1 D2 FR : Addr) (sz : List (Int × Int)) (ys lv cvs : List Value) (k1 kl kc : Nat) (hg : Hg) (nx : Led) (o1 o2 o3 o4 o5 o6 o7 o8 : Obj) (v4 v5 v6 v7 v8 : Option Value)
  (_ : Below callerA h₀ [] h₀) (_ : Fr h₀ L s.heap (fun y => if y = Str.ofString "left" then some (.ref LA) else if y = Str.ofString "frame" then some (.ref FR) else m y)) (_ : (hd.heap_39 w.params).In h₀)
  (_ : News h₀ L s.heap ((SA, listOf [].toArray 0) :: (LA, listOf lv.toArray kl) :: (H, hg.obj 0) :: (cellsL L o1 o2 o3 o4 o5 o6 o7 o8 ++ nx))) (_ : Top hd.view_39 (looseW hd.view_39 []) mean mg mb h₀)
  (_ : o1.data = .cell (some (.ref H))) (_ : o2.data = .cell (some (.ref D1))) (_ : o3.data = .cell (some (.ref SA))) (_ : o4.data = .cell v4) (_ : o5.data = .cell v5) (_ : o6.data = .cell v6) (_ : o7.data = .cell v7) (_ : o8.data = .cell v8)
  (_ : @LT.lt Nat _ (L + 1 + 1 + 1 + 1 + 1 + 1 + 1 + 1) H) (_ : @LT.lt Nat _ H LA) (_ : @LT.lt Nat _ LA SA) (_ : Apart nx (SA :: LA :: H :: cellsA L)) (_ : Imm w.params nx FR D1 D2 ys cvs k1 kc sz) (_ : Hg.Ok hg) (_ : IntsAre lv (rangeKs 0 sz.length))
  (_ : ∀ h' tk' m', Fr h₀ L h' m' → Q (.ret (.bool true)) { s with heap := h', toks := tk' }),
  wpAny (model PySem.Challenge.rw_xm0814_01.row.prog w) (callerA.deeper (envOfC (Str.ofString "law") (fnScope lawDef) L fa cd)) (execs ((fnBody lawDef).drop 4) (envOfC (Str.ofString "law") (fnScope lawDef) L fa cd)) Q (fun _ _ => False) s := by
  k_fill
  intro w mean mg mb L fa cd h₀ m s Q SA LA H D1 D2 FR sz ys lv cvs k1 kl kc hg nx o1 o2 o3 o4 o5 o6 o7 o8 v4 v5 v6 v7 v8 B F X N T c1 c2 c3 c4 c5 c6 c7 c8 g1 g2 g3 hap him hhg hlv hQ
  change wpAny _ (callerA.deeper (envOfC _ ⟨_, _, _, _, _⟩ _ _ _)) (execs (_ :: _) (envOfC _ ⟨_, _, _, _, _⟩ _ _ _)) _ _ _
  w_on
  dsimp only [cellsL, cellsA, Hg.obj] at N hap
  simp only [List.cons_append, List.nil_append] at N
  have hysl : ys.length = sz.length := by rw [him.sides.length, sidesD_length]
  have hD1 := him.sl
  have hlo := him.lo
  have hhi := him.hi
  obtain ⟨hh1, hh2, hh3⟩ := hhg
  k_steps
  refine Hold.mk ?_
  rename Fr _ _ _ _ => F9
  rename News _ _ _ _ => N9
  rename IsRange _ _ _ _ _ _ _ _ => R9
  refine gen_loop (σ := P5) (nx := nx) (fun c => (SA, listOf c.sv.toArray c.ks) :: (LA, listOf c.lv.toArray c.kl) :: (H, c.hg.obj 0) :: cellsL L o1 o2 o3 o4 o5 o6 o7 o8) (SA :: LA :: H :: cellsA L) (fun _ => rfl) (fun i _ c => P5.Ok sz.length i c) [] ⟨[], lv, 0, kl, ⟨_, _, _, _⟩, [], rangeKs 0 sz.length⟩
    (fun _ _ _ _ h _ => h) (fun _ _ _ _ _ _ h _ _ _ => h) (by rfl) R9 (small_one (by omega) (by omega) (by omega) (by omega)) (rangeSize_nat _ _) F9 N9 hap ⟨hlv, .nil, by simp [rangeKs_length], rfl, ?_, (fun _ h => nomatch h), ⟨by assumption, by assumption, by assumption⟩⟩ ?_ ?_
  · intro p hp
    have := mem_rangeKs hp
    omega
  · intro i t u h tk nx' c hi hs ho hI F' N'
    clear F9 N9 R9
    obtain ⟨sv, lv, ks, kl, ⟨a, b, ta, tb⟩, ss, ls⟩ := c
    obtain ⟨q1, q2, q3, q4, q5, q6, q7, q8, q9⟩ := hI
    dsimp only at q1 q2 q3 q4 q5 q6 q7 q8 q9
    have ho' : Apart nx' (SA :: LA :: H :: cellsA L) := ho
    dsimp only [cellsL, cellsA, Hg.obj] at N' ho'
    simp only [List.cons_append, List.nil_append] at N'
    have hll := q1.length
    have hsl := q2.length
    k_steps
    rename Fr _ _ _ _ => F9
    rename News _ _ _ _ => N9
    rename IntsAre _ _ => hi9
    rename ∀ x ∈ _, x ∈ ls => hs9
    rename _ ∈ ls => hv9
    rename _ + 1 = ls.length => hl9
    rw [List.push_toArray] at N9
    refine ⟨_, _, _, ⟨_, _, _, _, ⟨_, _, _, _⟩, ss ++ [_], _⟩, nx', rfl, F9, N9, fun _ h => h, ho, ⟨hi9, IntsAre.append q2 (.cons _ _ .nil), ?_, ?_, fun p hp => q5 p (hs9 p hp), ?_, ⟨by assumption, by assumption, by assumption⟩⟩, ?_⟩
    · dsimp only; omega
    · rw [List.length_append, q4]; rfl
    · intro p hp
      rcases List.mem_append.mp hp with hp | hp
      · exact q6 p hp
      · rw [List.mem_singleton.mp hp]; exact q5 _ hv9
    · intro y h1 h2
      dsimp only
      rw [if_neg h1, h2, if_neg Bool.false_ne_true]
  · intro u h tk nx' c hs ho hI F' N'
    clear F9 N9 R9
    obtain ⟨sv, lv, ks, kl, ⟨a, b, ta, tb⟩, ss, ls⟩ := c
    obtain ⟨q1, q2, q3, q4, q5, q6, q7⟩ := hI
    dsimp only at q1 q2 q3 q4 q5 q6 q7 N'
    refine tail6 SA H D1 D2 FR sz ss ys sv cvs k1 ks kc ⟨a, b, ta, tb⟩ ((SA, listOf sv.toArray ks) :: (LA, listOf lv.toArray kl) :: nx') o1 o2 o3 o4 o5 o6 o7 o8 v4 v5 v6 v7 v8 B (fr_see F' rfl) X ?_ T c1 c2 c3 c4 c5 c6 c7 c8 g1 ?_ (him.mono fun q hq => .tail _ (.tail _ (hs q hq))) q7 (.head _) q2 ?_ ?_ q6 (fun h' tk' m' F2 => hQ h' tk' m' F2)
    · intro p hp
      refine N' p ?_
      rcases List.mem_cons.mp hp with rfl | hp
      · exact .tail _ (.tail _ (.head _))
      · rcases List.mem_append.mp hp with hp | hp
        · exact .tail _ (.tail _ (.tail _ (List.mem_append.mpr (.inl hp))))
        · rcases List.mem_cons.mp hp with rfl | hp
          · exact .head _
          · rcases List.mem_cons.mp hp with rfl | hp
            · exact .tail _ (.head _)
            · exact .tail _ (.tail _ (.tail _ (List.mem_append.mpr (.inr hp))))
    · intro q hq z hz
      rcases List.mem_cons.mp hq with rfl | hq
      · exact apart_hi (Nat.lt_trans g1 g2 |> fun h => Nat.lt_trans h g3) (Nat.lt_trans g2 g3) hz
      · rcases List.mem_cons.mp hq with rfl | hq
        · exact apart_hi (Nat.lt_trans g1 g2) g2 hz
        · exact ho q hq z (List.mem_cons_of_mem _ (List.mem_cons_of_mem _ hz))
    · omega
    · omega
end Mine
end
section
open PySem PySem.W PyProof.Rows
set_option maxRecDepth 100000
set_option maxHeartbeats 8000000
set_option rowWalk.seconds 0
namespace Mine
local macro_rules | `(tactic| k_all) => `(tactic| first | assumption | (refine Apart.at (by assumption) ?_; (repeat (first | exact List.mem_cons_self | apply List.mem_cons_of_mem)); done))
local macro_rules | `(tactic| k_mem) => `(tactic| ((repeat (first | exact List.mem_cons_self | ktr_member | refine List.mem_cons_of_mem _ ?_)); done))
local macro_rules | `(tactic| is_list) => `(tactic| exact News.isList (by k_asm) (by k_mem))
local macro_rules | `(tactic| size_fits) => `(tactic| (rw [List.size_toArray, sizeLine_eq]; omega))
local macro_rules | `(tactic| k_room) => `(tactic| ktr_room)
local macro_rules | `(tactic| k_units) => `(tactic| ktr_units)
local macro_rules | `(tactic| walk_at "call type:range") => `(tactic| ((with_reducible show wpAny _ _ (PySem.call _ [_]) _ _ _); (rename Fr _ _ _ _ => F'); (rename News _ _ _ _ => N'); (with_unfolding_all refine range1_rows F' N' ?_); intro _ _ _ _ _ _ _ _ _))
local macro_rules | `(tactic| walk_at "pyIter ref") => `(tactic| ((with_reducible show wpAny _ _ (pyIter (Value.ref _)) (fun it s₂ => LoopAtV _ _ _ _ _ _ _ _ _ it s₂) _ _); refine Hold.out ?_))
local macro_rules | `(tactic| walk_at "call builtin:list.append") => `(tactic| (k_here; (show wpAny _ _ (PySem.call (Value.builtin _) [Value.ref _, _]) _ _ _); k_dflt (refine' append_K ?k1 ?k2 ?k3 ?_ ?z; (case k1 => k_asm); (case k2 => k_asm); (case k3 => k_upd); (case z => size_fits); k_whole); intro h' F' N'; (try k_sweep)))
local macro_rules | `(tactic| walk_at "subscriptTail") => `(tactic| (k_here; (with_reducible show wpAny _ _ (subscriptTail _ _ (Value.ref _) (Value.int _ _)) _ _ _); k_dflt (refine' item_led ?k1 ?k2 ?k3 ?k4 ?k5 ?_); (case k1 => k_asm); (case k2 => k_mem); (case k5 => assumption); (case k3 => omega); (case k4 => omega)))
local macro_rules | `(tactic| walk_at "call builtin:len") => `(tactic| (k_here; (with_reducible show wpAny _ _ (PySem.call (Value.builtin "len") [Value.ref _]) _ _ _); k_dflt (refine' kst_len ?k1 ?k2 ?k3 ?k4 ?_); (case k1 => k_asm); (case k2 => k_mem); (case k3 => assumption); (case k4 => omega)))
local macro_rules | `(tactic| walk_at "call type:list") => `(tactic| (k_here; (with_reducible show wpAny _ _ (PySem.call (Value.type "list") [Value.ref _]) _ _ _); (rename IsRange _ _ _ _ _ _ _ _ => rgX); (k_dflt (refine' kll_range ?k0 ?k1 ?k2 ?k3 ?k4 ?k5 ?k6 ?_); (case k0 => rfl); (case k1 => k_asm); (case k2 => k_asm); (case k3 => exact rgX); (case k4 => exact small_one (by omega) (by omega) (by omega) (by omega)); (case k5 => exact rangeSize_nat _ _); (case k6 => omega)); intro D' vs' c' h' tk' F' N' l1 hI'; (try k_lt l1)))
local macro_rules | `(tactic| walk_at "call ref") => `(tactic| (k_here; (with_reducible show wpAny _ _ (PySem.call (Value.ref 171) [Value.ref _, Value.int _ _]) _ _ _); (k_dflt (refine' twig_use ?k1 ?k2 ?k3 ?k4 ?k5 ?kK ?kU ?x1 ?x2 ?x3 ?x4 ?x5 ?kd ?ku ?_; (case k1 => k_asm); (case k2 => k_asm); (case k3 => k_asm); (case k4 => k_asm); (case k5 => k_asm); (case kK => first | exact rfl | assumption); (case kU => k_updF); (case x1 => first | assumption | omega); (case x2 => assumption); (case x3 => assumption); (case x4 => (try dsimp only); omega); (case x5 => (try dsimp only); omega); (case kd => ktr_room); (case ku => ktr_units))); (intro r9 x9 y9 t9 tx9 ty9 h9 tk9 g1 g2 g3 g4 g5 F9 N9); (try dsimp only at N9); (try dsimp only); (try k_fold); (walk_say "TWIG")))
local macro_rules | `(tactic| walk_at "call ref") => `(tactic| (k_here; (with_reducible show wpAny _ _ (PySem.call (Value.ref 164) [Value.ref _]) _ _ _); (k_dflt (refine' hedge_use ?k1 ?k2 ?k3 ?k4 ?k5 ?kK ?kl ?ki ?kx ?kd ?ku ?_; (case k1 => k_asm); (case k2 => k_asm); (case k3 => k_asm); (case k4 => k_asm); (case k5 => k_asm); (case kK => first | exact rfl | assumption); (case kl => assumption); (case ki => assumption); (case kx => assumption); (case kd => ktr_room); (case ku => ktr_units))); (intro r9 x9 y9 tx9 ty9 h9 tk9 g3 g4 g5 F9 N9 l9); (try dsimp only at N9); (try dsimp only); (try k_fold); (try k_lt l9); (walk_say "HEDGE")))
local macro_rules | `(tactic| walk_at "CompSrc") => `(tactic| (refine Hold.out ?_))
local macro_rules | `(tactic| walk_at "execs cons For") => `(tactic| (refine Hold.out ?_))
theorem news_law {h₀ h : Heap} {L : Addr} {t a b c1 c2 c3 c4 d : Addr × Obj} {cs nx : Led} (N : News h₀ L h (t :: a :: b :: c1 :: c2 :: c3 :: c4 :: d :: (cs ++ nx))) : News h₀ L h (a :: b :: d :: (cs ++ (c1 :: c2 :: c3 :: c4 :: nx))) := by
  intro p hp
  refine N p (.tail _ ?_)
  rcases List.mem_cons.mp hp with rfl | hp
  · exact .head _
  · rcases List.mem_cons.mp hp with rfl | hp
    · exact .tail _ (.head _)
    · rcases List.mem_cons.mp hp with rfl | hp
      · exact .tail _ (.tail _ (.tail _ (.tail _ (.tail _ (.tail _ (.head _))))))
      · rcases List.mem_append.mp hp with hp | hp
        · exact .tail _ (.tail _ (.tail _ (.tail _ (.tail _ (.tail _ (.tail _ (List.mem_append.mpr (.inl hp))))))))
        · rcases List.mem_cons.mp hp with rfl | hp
          · exact .tail _ (.tail _ (.head _))
          · rcases List.mem_cons.mp hp with rfl | hp
            · exact .tail _ (.tail _ (.tail _ (.head _)))
            · rcases List.mem_cons.mp hp with rfl | hp
              · exact .tail _ (.tail _ (.tail _ (.tail _ (.head _))))
              · rcases List.mem_cons.mp hp with rfl | hp
                · exact .tail _ (.tail _ (.tail _ (.tail _ (.tail _ (.head _)))))
                · exact .tail _ (.tail _ (.tail _ (.tail _ (.tail _ (.tail _ (.tail _ (List.mem_append.mpr (.inr hp))))))))
theorem apart4 {nx : Led} {adr : List Addr} {a b c d : Addr × Obj} (h : Apart nx adr) (ha : ∀ z ∈ adr, a.1 ≠ z) (hb : ∀ z ∈ adr, b.1 ≠ z) (hc : ∀ z ∈ adr, c.1 ≠ z) (hd : ∀ z ∈ adr, d.1 ≠ z) : Apart (a :: b :: c :: d :: nx) adr := by
  intro q hq z hz
  rcases List.mem_cons.mp hq with rfl | hq
  · exact ha z hz
  · rcases List.mem_cons.mp hq with rfl | hq
    · exact hb z hz
    · rcases List.mem_cons.mp hq with rfl | hq
      · exact hc z hz
      · rcases List.mem_cons.mp hq with rfl | hq
        · exact hd z hz
        · exact h q hq z hz
theorem ne11 {a z1 z2 z3 z4 z5 z6 z7 z8 z9 za zb : Addr} (h : (@Ne Nat a z1) ∧ (@Ne Nat a z2) ∧ (@Ne Nat a z3) ∧ (@Ne Nat a z4) ∧ (@Ne Nat a z5) ∧ (@Ne Nat a z6) ∧ (@Ne Nat a z7) ∧ (@Ne Nat a z8) ∧ (@Ne Nat a z9) ∧ (@Ne Nat a za) ∧ (@Ne Nat a zb)) : ∀ z ∈ [z1, z2, z3, z4, z5, z6, z7, z8, z9, za, zb], a ≠ z := by
  intro z hz
  simp only [List.mem_cons, List.not_mem_nil, or_false] at hz
  obtain ⟨h1, h2, h3, h4, h5, h6, h7, h8, h9, ha, hb⟩ := h
  rcases hz with e | e | e | e | e | e | e | e | e | e | e <;> (rw [e]; assumption)
theorem law_holds : PySem.Challenge.rw_xm0814_01.Holds := Mine.hd (by
  w_on
  w_strict k_go0
  rename World => w
  rename Glob _ _ _ _ _ _ _ _ => z; clear z
  rename Tables _ _ _ _ => z; clear z
  rename TopE _ _ _ _ => z; clear z
  rename TopW _ _ _ => z; clear z
  rename BMod _ _ _ _ _ => z; clear z
  rename LooseAre _ _ _ => z; clear z
  rename Flt.MathXP _ _ _ => z; clear z
  (try (rename Dflts _ _ _ => z; clear z))
  rename CellsAre _ _ _ => z; clear z
  k_fold
  k_steps
  refine Hold.mk ?_
  rename Fr _ _ _ _ => F9
  rename News _ _ _ _ => N9
  rename IsRange _ _ _ _ _ _ _ _ => R9
  refine sides_src (by rfl) F9 N9 (by repeat' (first | apply Split.cons | exact Split.done)) R9 (small_one (by omega) (by omega) (by omega) (by omega)) (rangeSize_nat _ _) (by omega) (by assumption) (by assumption) (by assumption) Apart.nil ?_ ?_
  · intro c ys nx' I oI C oC D m₂ v h tk E' h1 h2 h3 hs ho hC hx F' N' o1 o2 o3
    clear F9 N9 R9
    have oH : (@Ne Nat _ I) ∧ (@Ne Nat _ C) ∧ (@Ne Nat _ D) := o2 _ List.mem_cons_self
    have ho' := fun q hq => ho q hq _ List.mem_cons_self
    dsimp only [Hg.obj] at N'
    simp only [List.cons_append, List.nil_append] at N'
    k_steps
    rename Fr _ _ _ _ => F9
    rename News _ _ _ _ => N9
    refine sides_end F9 N9 rfl (by assumption) o1 ho (by assumption) (by assumption) (by assumption) ⟨by omega, by omega, by omega, by omega⟩
  · intro ys c sz nx' g h1 h2 h3 hsz hszOk hdat hs ho
    clear F9 N9 R9
    unfold LCg.FinE
    intro D1 hD1 tkD1 F' N' oD
    have oDn : ∀ q ∈ nx', q.1 ≠ D1 := fun q hq => off1_mem oD q (List.mem_cons_of_mem _ (List.mem_append.mpr (.inr hq)))
    have hap := Apart.more ho oDn
    clear ho hs
    dsimp only [Hg.obj, List.map] at N' oD hap
    simp only [List.cons_append, List.nil_append, LCg.Off1] at N' oD
    have hysl : ys.length = sz.length := by rw [hdat.length, sidesD_length]
    k_steps
    refine Hold.mk ?_
    rename Fr _ _ _ _ => F9
    rename News _ _ _ _ => N9
    rename IsRange _ _ _ _ _ _ _ _ => R9
    refine comps_src (P := w.params) (sz := sz) (by rfl) F9 N9 (by repeat' (first | apply Split.cons | exact Split.done)) R9 (small_one (by omega) (by omega) (by omega) (by omega)) (by rw [rangeSize_nat]; omega) (by omega) hap ?_ ?_
    · intro i ti ys2 nx2 I oI C oC D m₂ h tk E' hi hs ho hC hx F2 N2 o1 o2 o3
      clear F9 N9 R9
      obtain ⟨T0, n0, W, H, tW, tH, hv, hz, hT0⟩ := sides_at hdat hi
      have hT0' := hs _ hT0
      have hv' : ys[((i : Nat) : Int).toNat]? = some (.ref T0) := hv
      simp only [List.cons_append, List.nil_append] at N2
      k_steps
      rename Fr _ _ _ _ => F9
      rename News _ _ _ _ => N9
      exact comps_end F9 N9 rfl (by assumption) (by omega) o1 ho hz
    · intro ys2 nx2 g2 hcv hs ho
      clear F9 N9 R9
      unfold LCg.FinE
      intro D2 hD2 tkD2 F2 N2 oD2
      have oDn2 : ∀ q ∈ nx2, q.1 ≠ D2 := fun q hq => off1_mem oD2 q (List.mem_append.mpr (.inr hq))
      have hap2 := Apart.more ho oDn2
      have hdat2 := DatAll.mono hs hdat
      clear ho hs hap oDn hdat
      dsimp only [List.map] at N2 oD2 hap2
      simp only [List.cons_append, List.nil_append, LCg.Off1] at N2 oD2
      k_steps
      refine Hold.mk ?_
      rename Fr _ _ _ _ => F9
      rename News _ _ _ _ => N9
      rename IntsAre _ (rangeKs 0 _) => hlv
      have hsl2 : ((sz.length : Int) - 0).toNat = sz.length := by omega
      rw [hsl2] at hlv
      rename _ ∧ _ ∧ _ ∧ _ ∧ _ ∧ _ ∧ _ ∧ _ ∧ _ ∧ _ ∧ _ ∧ _ ∧ _ ∧ _ ∧ AllLt _ _ => hlSA
      rename _ ∧ _ ∧ _ ∧ _ ∧ _ ∧ _ ∧ _ ∧ _ ∧ _ ∧ _ ∧ _ ∧ _ ∧ _ ∧ AllLt _ _ => hlLA
      rename _ ∧ _ ∧ _ ∧ _ ∧ _ ∧ _ ∧ _ ∧ _ ∧ _ ∧ _ ∧ _ ∧ AllLt _ _ => hlFd
      have ha1 := allLt_mem hlSA.2.2.2.2.2.2.2.2.2.2.2.2.2.2
      have ha2 := allLt_mem hlLA.2.2.2.2.2.2.2.2.2.2.2.2.2
      k_dflt (refine' wpAny_mono (tail5 _ _ _ D1 D2 _ sz ys _ ys2 ys.length _ ys2.length c ((_, _) :: (_, _) :: (_, _) :: (_, _) :: nx2) _ _ _ _ _ _ _ _ _ _ _ _ _ (by assumption) F9 (by assumption) (news_law N9) (by assumption) (by assumption) (by assumption) (by assumption) (by assumption) (by assumption) (by assumption) (by assumption) (by assumption) ?g1 ?g2 ?g3 ?ap ?im ⟨h1, h2, h3⟩ hlv ?hQ) (fun _ _ h => h) (fun _ _ h => h.elim))
      case g1 => omega
      case g2 => omega
      case g3 => omega
      case ap =>
        refine apart4 (Apart.more (Apart.more (hap2.sub (fun z hz => .tail _ (.tail _ hz))) (fun q hq => Nat.ne_of_lt (ha2 q hq))) (fun q hq => Nat.ne_of_lt (ha1 q hq))) (ne11 ?_) (ne11 ?_) (ne11 ?_) (ne11 ?_) <;> (refine ⟨?_, ?_, ?_, ?_, ?_, ?_, ?_, ?_, ?_, ?_, ?_⟩ <;> (dsimp only; omega))
      case im =>
        exact ⟨⟨_, _, _, _, _, _, _, _, _, _, _, _, .head _, .tail _ (.head _)⟩, .tail _ (.tail _ (.head _)), hcv.mono (fun q hq => .tail _ (.tail _ (.tail _ (.tail _ hq)))), .tail _ (.tail _ (.tail _ (.head _))), hdat2.mono (fun q hq => .tail _ (.tail _ (.tail _ (.tail _ hq)))), hszOk, by omega, by omega⟩
      case hQ =>
        intro h' tk' m' F2
        clear F9 N9
        w_end
        refine goodW_bool F2 (by assumption) (raisesW_false ?_) ?_
        · wrow_none_raised
        · wrow_post)
end Mine
end
theorem PySem.Challenge.cw_xm0814_01_holds : PySem.Challenge.rw_xm0814_01.Holds := by
  exact Mine.law_holds
