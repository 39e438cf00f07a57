import PyProof.Rows.All
import Wide.All
import OpenK.AllK
import Wide.FinOn
import PySem.Challenge.RW_xm0648_01
open PySem PySem.W PyProof.Rows
set_option Elab.async false
set_option maxRecDepth 100000
set_option maxHeartbeats 8000000
namespace Mine
open_top hd for PySem.Challenge.rw_xm0648_01
end Mine

-- part PL
namespace Mine
open PySem.Builtin PySem.Builtin.Str

/-- the word y stands in x at i -/
def isAt (x y : PySem.Str) (i : Nat) : Bool := decide (i + y.length ≤ x.length) && subAt x y i

theorem subAt_iff (x y : PySem.Str) (i : Nat) (h : i + y.length ≤ x.length) : subAt x y i = true ↔ ∀ k, k < y.length → x.cps[i + k]? = y.cps[k]? := by
  unfold subAt
  rw [beq_iff_eq]
  have hx : x.length = x.cps.size := rfl
  have hy : y.length = y.cps.size := rfl
  constructor
  · intro e k hk
    rw [← e, Array.getElem?_extract]
    split
    · rfl
    · rename_i hn; exfalso; apply hn; omega
  · intro e
    apply Array.ext_getElem?
    intro k
    rw [Array.getElem?_extract]
    by_cases hk : k < y.length
    · rw [← e k hk]; split
      · rfl
      · rename_i hn; exfalso; apply hn; omega
    · rw [if_neg (by omega), Array.getElem?_eq_none (by omega)]

theorem isAt_filter (x y : PySem.Str) (i : Nat) (h : i + y.length ≤ x.length) :
    decide (((List.range y.cps.size).filter (fun k => !decide (x.cps[i + k]? = y.cps[k]?))).map (fun _ => (1 : Int)) = []) = isAt x y i := by
  unfold isAt
  rw [decide_eq_true h, Bool.true_and, Bool.eq_iff_iff, decide_eq_true_eq, subAt_iff x y i h, List.map_eq_nil_iff, List.filter_eq_nil_iff]
  constructor
  · intro q k hk
    have := q k (List.mem_range.mpr hk)
    simpa using this
  · intro q k hk
    have := q k (List.mem_range.mp hk)
    simpa using this

theorem isAt_short (x y : PySem.Str) (i : Nat) (h : ¬ i + y.length ≤ x.length) : isAt x y i = false := by
  unfold isAt; rw [decide_eq_false h]; rfl

/-- the first place from lo on -/
def firstFrom (x y : PySem.Str) (lo : Nat) : Option Nat := (List.range' lo (x.length - lo)).find? (isAt x y)

theorem isAt_At (x y : PySem.Str) (i : Nat) : isAt x y i = true ↔ StrLaws.At x y x.length i := by
  unfold isAt StrLaws.At
  rw [Bool.and_eq_true, decide_eq_true_eq]

theorem firstFrom_none {x y : PySem.Str} {lo : Nat} (hy : 1 ≤ y.length) (h : ∀ i, lo ≤ i → isAt x y i = false) : firstFrom x y lo = none := by
  unfold firstFrom
  rw [List.find?_eq_none]
  intro i hi
  rw [List.mem_range'_1] at hi
  rw [h i hi.1]; exact Bool.false_ne_true

theorem firstFrom_some {x y : PySem.Str} {lo i : Nat} (hy : 1 ≤ y.length) (h1 : lo ≤ i) (h2 : isAt x y i = true) (h3 : ∀ k, lo ≤ k → k < i → isAt x y k = false) : firstFrom x y lo = some i := by
  unfold firstFrom
  have hi : i + y.length ≤ x.length := by
    unfold isAt at h2
    rw [Bool.and_eq_true, decide_eq_true_eq] at h2
    exact h2.1
  rw [List.find?_eq_some_iff_append]
  refine ⟨h2, List.range' lo (i - lo), List.range' (i + 1) (x.length - (i + 1)), ?_, ?_⟩
  · have e : x.length - lo = (i - lo) + (1 + (x.length - (i + 1))) := by omega
    rw [e, ← List.range'_append_1, ← List.range'_append_1]
    have e2 : lo + (i - lo) = i := by omega
    rw [e2]
    rfl
  · intro k hk
    rw [List.mem_range'_1] at hk
    rw [h3 k hk.1 (by omega)]; rfl

theorem firstFrom_cases (x y : PySem.Str) (lo : Nat) (hy : 1 ≤ y.length) :
    (firstFrom x y lo = none ∧ ∀ i, lo ≤ i → isAt x y i = false) ∨ ∃ i, firstFrom x y lo = some i ∧ lo ≤ i ∧ isAt x y i = true ∧ ∀ k, lo ≤ k → k < i → isAt x y k = false := by
  rcases StrLaws.occ_head_from x y lo 1 (Nat.le_refl _) with ⟨_, h⟩ | ⟨i, r, _, h1, h2, h3⟩
  · have h' : ∀ i, lo ≤ i → isAt x y i = false := fun i hi => by
      cases e : isAt x y i with
      | false => rfl
      | true => exact absurd ((isAt_At x y i).mp e) (h i hi)
    exact .inl ⟨firstFrom_none hy h', h'⟩
  · have h3' : ∀ k, lo ≤ k → k < i → isAt x y k = false := fun k hk hk2 => by
      cases e : isAt x y k with
      | false => rfl
      | true => exact absurd ((isAt_At x y k).mp e) (h3 k hk hk2)
    have h2' := (isAt_At x y i).mpr h2
    exact .inr ⟨i, firstFrom_some hy h1 h2' h3', h1, h2', h3'⟩

theorem find3_eq (x y : PySem.Str) (lo : Nat) (hy : 1 ≤ y.length) : Txt.find3 x y (lo : Int) = match firstFrom x y lo with | some k => (k : Int) | none => -1 := by
  have e : fromIndex x.length (lo : Int) = lo := by
    unfold fromIndex
    rw [if_neg (by omega)]; omega
  unfold Txt.find3
  rw [e]
  rcases StrLaws.occ_head_from x y lo 1 (Nat.le_refl _) with ⟨h0, h⟩ | ⟨i, r, h0, h1, h2, h3⟩
  · have h' : ∀ i, lo ≤ i → isAt x y i = false := fun i hi => by
      cases e : isAt x y i with
      | false => rfl
      | true => exact absurd ((isAt_At x y i).mp e) (h i hi)
    rw [h0, firstFrom_none hy h']
  · have h3' : ∀ k, lo ≤ k → k < i → isAt x y k = false := fun k hk hk2 => by
      cases e : isAt x y k with
      | false => rfl
      | true => exact absurd ((isAt_At x y k).mp e) (h3 k hk hk2)
    rw [h0, firstFrom_some hy h1 ((isAt_At x y i).mpr h2) h3']
end Mine

-- part E1
namespace Mine
open PySem.Calls PySem.Spec PyProof.Rows.LCg
section
variable {w : World} {prog : Program} {h₀ : Heap} {L : Addr} {m : Str → Option Value} {A : Around} {E : Value → Shared → Prop} {env : Env} {news : List (Addr × Obj)}

theorem enum_block {s₂ : Shared} {elt iter ct : PySem.Expr} {xa xb : Str} {pa pb tp pos : Pos} {kk : Nat} {scope : Scope} {cl : List (Str × Addr)} {e it : Addr} {x : Str} {t : Tok} {ty : String} {RR : Value → Addr → Result → Shared → Prop}
    (D : Draws prog w A.in1 it [it] x.cps.size (fun i v => ∃ c u, x.cps[i]? = some c ∧ v = .str ⟨#[c]⟩ u) (fun i h => h.IsStrIter it ty x t i))
    (he : IsEnum s₂.heap e it 0 .none) (hst : s₂.heap.IsStrIter it ty x t 0) (hei : e ≠ it) (hsz : x.cps.size ≤ sizeLine) (hh : A.handled = none)
    (hcell : ∀ y ∈ scope.names, y.2 ≠ .cell) (hkind : scope.kind = .function) (hxa : scope.names.lookup xa = some .local) (hxb : scope.names.lookup xb = some .local) (hab : ¬ xa = xb)
    (F : Fr h₀ L s₂.heap m) (N : News h₀ L s₂.heap news) (hLe : L ≠ e) (hLi : L ≠ it) (he0 : h₀.get? e = none) (hi0 : h₀.get? it = none) (offs : ∀ p ∈ news, p.1 ≠ e ∧ p.1 ≠ it)
    (p : Nat → Bool)
    (test : ∀ i c ti tc C oC h tk m₂ E', x.cps[i]? = some c → NsObj oC m₂ → m₂ xa = some (.int (i : Nat) ti) → m₂ xb = some (.str ⟨#[c]⟩ tc) → Fr h₀ L h m → News h₀ L h ((C, oC) :: news) →
      wpAny (model prog w) A (isTrue ct (compEnvC scope cl C env) (eval ct (compEnvC scope cl C env))) (fun ok s' => ok = p i ∧ ∃ tk', s' = { s₂ with heap := h, toks := tk' }) E' { s₂ with heap := h, toks := tk })
    (el : ∀ C h tk E', wpAny (model prog w) A (eval elt (compEnvC scope cl C env)) (fun y s' => (∃ t, y = .int 1 t) ∧ ∃ tk', s' = { s₂ with heap := h, toks := tk' }) E' { s₂ with heap := h, toks := tk })
    (hRR : ∀ D C h tk m' ys, Fr h₀ L h m → News h₀ L h ((D, lst ys) :: news) → AllLt D news → h.Ns C m' → h₀.get? C = none → C ≠ L → C ≠ D → (∀ p ∈ news, p.1 ≠ C) →
      IntsAre ys (((List.range x.cps.size).filter p).map fun _ => 1) → RR (.ref D) C (.ok .next) { s₂ with heap := h, toks := tk }) :
    wpAny (model prog w) A (newList []) (fun acc s₃ => wpAny (model prog w) A (newFunctionEnv scope env.globals cl [] env.qual none .none (some env)) (fun cenv s₄ =>
      codeAny (model prog w) A (.compStart (.ListComp elt [⟨.Tuple [.Name xa pa, .Name xb pb] kk tp, iter, [ct], 0⟩] scope pos) 0 (.ref e) acc { cenv with scope := relabel scope env }) (RR acc cenv.locals) s₄) E s₃) E s₂ := by
  have W := (WalksT.enumerateD (prog := prog) (w := w) (A := A) D e hei (by simpa using hei) (by simp)).toU
  refine wpAny_newObj_type (wpAny_newFunctionEnv hcell (by intro y hy; simp at hy) (fun h₁ hns₁ hsb₁ => ?_) hkind)
  dsimp only at hns₁ hsb₁ ⊢
  generalize hH2 : s₂.heap.push { cls := .type "list", dict := none, data := .seq ([] : List Value).toArray } = H2 at hns₁ hsb₁ ⊢
  generalize hD : s₂.heap.objs.size = DD
  generalize hCC : H2.objs.size = CC at hns₁ hsb₁ ⊢
  have hC : @Eq Nat CC (DD + 1) := by rw [← hCC, ← hH2, Heap.size_push, hD]
  have below : ∀ b : Nat, @LT.lt Nat _ b DD → (@Ne Nat b CC) ∧ (@Ne Nat b DD) := fun b hb => ⟨by omega, by omega⟩
  have old : ∀ b o, s₂.heap.get? b = some o → h₁.get? b = some o := fun b o q => by
    have hb := Heap.lt_size q
    rw [hD] at hb
    exact hsb₁.extBut b o (below b hb).1 (Heap.get?_push_of_some _ (hH2 ▸ Heap.get?_push_of_some _ q))
  have hacc : h₁.get? DD = some (lst []) := hsb₁.extBut _ _ (by show @Ne Nat DD CC; omega) (Heap.get?_push_of_some _ (by rw [← hH2, ← hD]; exact Heap.get?_push_size _ rfl))
  have hes : @LT.lt Nat _ e DD := hD ▸ Heap.lt_size he
  have his : @LT.lt Nat _ it DD := by obtain ⟨o, q, _⟩ := hst; exact hD ▸ Heap.lt_size q
  have hLs : @LT.lt Nat _ L DD := hD ▸ F.ns.lt
  have hN : ∀ q ∈ news, @LT.lt Nat _ q.1 DD := fun q hq => hD ▸ Heap.lt_size (N q hq).1
  have fresh₀ : ∀ a : Nat, @LE.le Nat _ DD a → h₀.get? a = none := fun a ha => by
    cases q : h₀.get? a with
    | none => rfl
    | some o' =>
      have := Heap.lt_size (F.keep a o' q)
      rw [hD] at this
      exact absurd this (Nat.not_lt.mpr ha)
  have hDlt : AllLt DD news := allLt_of hN
  have loop : ∀ s₃ : Shared, s₃ = { s₂ with heap := h₁, toks := s₂.toks + ([] : List (Str × Value)).length } →
      codeAny (model prog w) A (.compLoop (.ListComp elt [⟨.Tuple [.Name xa pa, .Name xb pb] kk tp, iter, [ct], 0⟩] scope pos) 0 (.ref e) (.ref DD) (compEnvC scope cl CC env))
        (RR (.ref DD) CC) s₃ := by
    rintro s₃ rfl
    refine kct_loop
      (fun k s' => ∃ h' tk i ys m', s' = { s₂ with heap := h', toks := tk } ∧ i ≤ x.cps.size ∧ k = x.cps.size + 1 - i ∧ ys.length ≤ i ∧ IntsAre ys (((List.range i).filter p).map fun _ => 1) ∧ ((∃ old, IsEnum h' e it i old) ∧ h'.IsStrIter it ty x t i) ∧
        Fr h₀ L h' m ∧ h'.Ns CC m' ∧ News h₀ L h' ((DD, lst ys) :: news)) ?_ (x.cps.size + 1)
      ⟨h₁, _, 0, [], _, rfl, Nat.zero_le _, rfl, Nat.le_refl _, .nil, ⟨⟨_, old _ _ he⟩, by obtain ⟨o, q, r⟩ := hst; exact ⟨o, old _ _ q, r⟩⟩, F.keeps old, hns₁, fun q hq => ?_⟩
    · rintro k s' ⟨h', tk, i, ys, m', rfl, hi, rfl, hyl, hys, hst', F', hn', N'⟩
      have offC : ∀ b o, b ∉ [e, it] → h'.get? b = some o → b ≠ e ∧ b ≠ it := fun b o hb _ => by simpa using hb
      by_cases hlt : i < x.cps.size
      · refine W.item i _ _ _ hlt hst' fun T vals h₂ tk₂ hPv hT hMid hk₂ => ?_
        refine W.go _ _ _ i T _ _ _ hMid fun h₃ hst₃ hk₃ => ?_
        obtain ⟨ti, v, ⟨c, tc, hc, rfl⟩, rfl⟩ := hPv
        have hTw := W.apart i T _ hMid
        have hT₃ : h₃.IsTuple T #[.int i ti, .str ⟨#[c]⟩ tc] := hT.at fun o q => hk₃ T o hTw q
        have up₃ : ∀ b o, b ≠ e → b ≠ it → h'.get? b = some o → h₃.get? b = some o := fun b o h1 h2 q => hk₃ b o (by simp [h1, h2]) (hk₂ b o (by simp [h1, h2]) q)
        have hCe : @Ne Nat CC e := by omega
        have hCi : @Ne Nat CC it := by omega
        refine kcp_assign (env := compEnvC scope cl CC env) hh hT₃ (lookup_relabel_local hxa) (lookup_relabel_local hxb) (by simp [compEnvC, relabel, hkind]) (hn'.at' fun o q => up₃ _ o hCe hCi q) fun h₄ tk₄ hn₄ hs₄ => ?_
        have up : ∀ b o, b ≠ e → b ≠ it → b ≠ CC → h'.get? b = some o → h₄.get? b = some o := fun b o h1 h2 h3 q => hs₄ b o h3 (up₃ b o h1 h2 q)
        have hst₄ : (∃ old, IsEnum h₄ e it ((i + 1 : Nat) : Int) old) ∧ h₄.IsStrIter it ty x t (i + 1) := by
          obtain ⟨⟨ol, q1⟩, ⟨o, q2, r2⟩⟩ := hst₃
          exact ⟨⟨ol, hs₄ e _ (Ne.symm hCe) q1⟩, ⟨o, hs₄ it _ (Ne.symm hCi) q2, r2⟩⟩
        have F₄ : Fr h₀ L h₄ m := ⟨F'.ns.at' fun o q => up _ o hLe hLi (show @Ne Nat L CC by omega) q, fun b o q => up b o (fun z => by rw [z, he0] at q; cases q) (fun z => by rw [z, hi0] at q; cases q)
          (fun z => by rw [z, fresh₀ CC (show @LE.le Nat _ DD CC by omega)] at q; cases q) (F'.keep b o q), F'.above⟩
        have N₄ : News h₀ L h₄ ((DD, lst ys) :: news) := fun q hq => by
          have z := N' q hq
          refine ⟨up _ _ ?_ ?_ ?_ z.1, z.2⟩
          · rcases List.mem_cons.mp hq with rfl | hq
            · show @Ne Nat DD e; omega
            · exact (offs q hq).1
          · rcases List.mem_cons.mp hq with rfl | hq
            · show @Ne Nat DD it; omega
            · exact (offs q hq).2
          · rcases List.mem_cons.mp hq with rfl | hq
            · show @Ne Nat DD CC; omega
            · have := hN q hq
              exact (below _ this).1
        have N₄' : News h₀ L h₄ news := fun q hq => N₄ q (List.mem_cons_of_mem _ hq)
        obtain ⟨oC, heC, hoC⟩ := ns_obj hn₄
        have N₅ : News h₀ L h₄ ((CC, oC) :: news) := fun q hq => by
          rcases List.mem_cons.mp hq with rfl | hq
          · exact ⟨heC, (by show @Ne Nat CC L; omega), fresh₀ CC (show @LE.le Nat _ DD CC by omega)⟩
          · exact N₄' q hq
        refine wpAny_mono (test i c ti tc CC oC h₄ tk₄ _ _ hc hoC (by simp [hab]) (by simp) F₄ N₅) (fun ok s₅ h₅ => ?_) fun _ _ q => q
        obtain ⟨rfl, tk₅, rfl⟩ := h₅
        have hr : (List.range (i + 1)).filter p = (List.range i).filter p ++ (if p i then [i] else []) := by
          rw [List.range_succ, List.filter_append]; simp [List.filter_cons]
        cases hp : p i with
        | false =>
          simp only [Bool.false_eq_true, if_false]
          refine ⟨x.cps.size + 1 - (i + 1), by omega, h₄, tk₅, i + 1, ys, _, rfl, hlt, rfl, Nat.le_succ_of_le hyl, ?_, hst₄, F₄, hn₄, N₄⟩
          rw [hr, hp]; simpa using hys
        | true =>
          simp only [if_true]
          refine wpAny_mono (el CC h₄ tk₅ _) (fun y s₆ h₆ => ?_) fun _ _ q => q
          obtain ⟨⟨ty', rfl⟩, tk₆, rfl⟩ := h₆
          have zD := (N₄ (DD, lst ys) List.mem_cons_self).1
          refine append_at (hsz := by show ys.toArray.size ≤ sizeLine; rw [List.size_toArray]; exact Nat.le_trans (Nat.le_trans hyl hi) hsz) zD fun h₅ hs₅ hD₅ => ?_
          refine ⟨x.cps.size + 1 - (i + 1), by omega, h₅, tk₆, i + 1, ys ++ [.int 1 ty'], _, rfl, hlt, rfl, by rw [List.length_append, List.length_singleton]; exact Nat.succ_le_succ hyl, ?_, ?_,
            F₄.change hs₅ (by show @Ne Nat DD L; omega) (fresh₀ _ (Nat.le_refl _)), hn₄.sameBut hs₅ (by show @Ne Nat CC DD; omega), fun q hq => ?_⟩
          · rw [hr, hp]; simpa using IntsAre.append hys (.cons 1 ty' .nil)
          · obtain ⟨⟨ol, q1⟩, ⟨o, q2, r2⟩⟩ := hst₄
            exact ⟨⟨ol, hs₅.extBut _ _ (by show @Ne Nat e DD; omega) q1⟩, ⟨o, hs₅.extBut _ _ (by show @Ne Nat it DD; omega) q2, r2⟩⟩
          · rcases List.mem_cons.mp hq with rfl | hq
            · exact ⟨hD₅.trans (congrArg some (lst_snoc ys _)), (by show @Ne Nat DD L; omega), fresh₀ _ (Nat.le_refl _)⟩
            · exact ⟨hs₅.extBut _ _ (below _ (hN q hq)).2 (N₄' q hq).1, (N₄' q hq).2⟩
      · obtain rfl : i = x.cps.size := Nat.le_antisymm hi (Nat.not_lt.mp hlt)
        refine W.done _ _ _ hst' fun h₂ tk₂ hk₂ => ?_
        have hk : ∀ b o, b ≠ e → b ≠ it → h'.get? b = some o → h₂.get? b = some o := fun b o h1 h2 q => hk₂ b o (by simp [h1, h2]) q
        refine hRR DD CC h₂ tk₂ m' ys ⟨F'.ns.at' fun o q => hk _ o hLe hLi q, fun b o q => hk b o (fun z => by rw [z, he0] at q; cases q) (fun z => by rw [z, hi0] at q; cases q) (F'.keep b o q), F'.above⟩ (fun q hq => ?_) hDlt
          (hn'.at' fun o q => hk _ o (show @Ne Nat CC e by omega) (show @Ne Nat CC it by omega) q) (fresh₀ CC (show @LE.le Nat _ DD CC by omega)) (by show @Ne Nat CC L; omega) (by show @Ne Nat CC DD; omega) (fun q hq => (below _ (hN q hq)).1) hys
        have z := N' q hq
        refine ⟨hk _ _ ?_ ?_ z.1, z.2⟩
        · rcases List.mem_cons.mp hq with rfl | hq
          · show @Ne Nat DD e; omega
          · exact (offs q hq).1
        · rcases List.mem_cons.mp hq with rfl | hq
          · show @Ne Nat DD it; omega
          · exact (offs q hq).2
    · rcases List.mem_cons.mp hq with rfl | hq
      · exact ⟨hacc, (by show @Ne Nat DD L; omega), fresh₀ _ (Nat.le_refl _)⟩
      · exact ⟨old _ _ (N q hq).1, (N q hq).2⟩
  exact codeAny_compStart_list (loop _ rfl) (W.self 0 _ _ _ ⟨⟨_, by simpa using old _ _ he⟩, by obtain ⟨o, q, r⟩ := hst; exact ⟨o, old _ _ q, r⟩⟩ (loop _ rfl))

def EnumSrc (prog : Program) (w : World) (A : Around) (h₀ : Heap) (L : Addr) (m : Str → Option Value) (news : List (Addr × Obj)) (x : Str) (s : Shared) (xv : Value) (s₁ : Shared) : Prop :=
  ∃ e it ty t hp tk, xv = .ref e ∧ s₁ = { s with heap := hp, toks := tk } ∧ Draws prog w A.in1 it [it] x.cps.size (fun i v => ∃ c u, x.cps[i]? = some c ∧ v = .str ⟨#[c]⟩ u) (fun i h => h.IsStrIter it ty x t i) ∧ IsEnum hp e it 0 .none ∧ hp.IsStrIter it ty x t 0 ∧ e ≠ it ∧
    Fr h₀ L hp m ∧ News h₀ L hp news ∧ L ≠ e ∧ L ≠ it ∧ h₀.get? e = none ∧ h₀.get? it = none ∧ (∀ p ∈ news, p.1 ≠ e ∧ p.1 ≠ it)

theorem call_enum_src {s : Shared} {x : Str} {t : Tok} (hh : A.handled = none) (F : Fr h₀ L s.heap m) (N : News h₀ L s.heap news) :
    wpAny (model prog w) A (call (.type "enumerate") [.str x t]) (EnumSrc prog w A h₀ L m news x s) E s := by
  refine call_enumerate_str fun h' he hit hsz hk => ?_
  have hLs : @LT.lt Nat _ L s.heap.objs.size := F.ns.lt
  have hN : ∀ q ∈ news, @LT.lt Nat _ q.1 s.heap.objs.size := fun q hq => Heap.lt_size (N q hq).1
  have hab : @LE.le Nat _ h₀.objs.size L := F.above
  have fresh : ∀ a : Nat, @LE.le Nat _ s.heap.objs.size a → h₀.get? a = none := fun a ha => Heap.get?_none_of_le (by show @LE.le Nat _ h₀.objs.size a; omega)
  refine ⟨s.heap.objs.size + 1, s.heap.objs.size, strIterType x, t, h', s.toks, rfl, rfl, ?_, he, hit, Nat.succ_ne_self _, ⟨F.ns.keeps hk, fun b o e => hk b o (F.keep b o e), F.above⟩, fun p hp => ⟨hk _ _ (N p hp).1, (N p hp).2⟩,
    (by show @Ne Nat L (s.heap.objs.size + 1); omega), (by show @Ne Nat L s.heap.objs.size; omega), fresh _ (by show @LE.le Nat _ s.heap.objs.size (s.heap.objs.size + 1); omega), fresh _ (Nat.le_refl _), fun p hp => ?_⟩
  · cases ha : x.cps.all (· < 128)
    · have e : strIterType x = "str_iterator" := by simp [strIterType, ha]
      rw [e]; exact Draws.strWide (A := A.in1) hh _ x t
    · have e : strIterType x = "str_ascii_iterator" := by simp [strIterType, ha]
      rw [e]; exact Draws.strAscii (A := A.in1) hh _ x t
  · have := hN p hp
    exact ⟨(by show @Ne Nat p.1 (s.heap.objs.size + 1); omega), (by show @Ne Nat p.1 s.heap.objs.size; omega)⟩

theorem ListComp_E {s : Shared} {elt iter ct : PySem.Expr} {xa xb : Str} {pa pb tp pos : Pos} {kk : Nat} {scope : Scope} {cl : List (Str × Addr)} {x : Str} {Q : Value → Shared → Prop} (_F : Fr h₀ L s.heap m) (_N : News h₀ L s.heap news) (p : Nat → Bool) (hsz : x.cps.size ≤ sizeLine) (hh : A.handled = none)
    (hclos : closureFor scope env = pure cl) (hcell : ∀ y ∈ scope.names, y.2 ≠ .cell) (hkind : scope.kind = .function)
    (hnames : ∀ y ∈ scope.names, y.2 = .local → scope.names.lookup y.1 = some .local) (hxa : scope.names.lookup xa = some .local) (hxb : scope.names.lookup xb = some .local) (hab : ¬ xa = xb)
    (h : wpAny (model prog w) A (eval iter env) (EnumSrc prog w A h₀ L m news x s) E s)
    (test : ∀ i c ti tc C oC h tk m₂ E', x.cps[i]? = some c → NsObj oC m₂ → m₂ xa = some (.int (i : Nat) ti) → m₂ xb = some (.str ⟨#[c]⟩ tc) → Fr h₀ L h m → News h₀ L h ((C, oC) :: news) →
      wpAny (model prog w) A (isTrue ct (compEnvC scope cl C env) (eval ct (compEnvC scope cl C env))) (fun ok s' => ok = p i ∧ ∃ tk', s' = { s with heap := h, toks := tk' }) E' { s with heap := h, toks := tk })
    (el : ∀ C h tk E', wpAny (model prog w) A (eval elt (compEnvC scope cl C env)) (fun y s' => (∃ t, y = .int 1 t) ∧ ∃ tk', s' = { s with heap := h, toks := tk' }) E' { s with heap := h, toks := tk })
    (fin : ∀ D ys h tk, Fr h₀ L h m → News h₀ L h ((D, lst ys) :: news) → AllLt D news → IntsAre ys (((List.range x.cps.size).filter p).map fun _ => 1) → Q (.ref D) { s with heap := h, toks := tk })
    (hs : ∀ x, foldedSetIterable iter env x = pure x := by intro _; rfl) :
    wpAny (model prog w) A (eval (.ListComp elt [⟨.Tuple [.Name xa pa, .Name xb pb] kk tp, iter, [ct], 0⟩] scope pos) env) Q E s := by
  rw [eval_ListComp]
  refine wpAny_comprehension_free (use := none) rfl hs hclos hkind hnames (wpAny_mono h (fun xv s₁ h₁ => ?_) fun _ _ e => e)
  obtain ⟨e, it, ty, t, hp, tk, rfl, rfl, D, he, hst, hei, F, N, hLe, hLi, he0, hi0, offs⟩ := h₁
  refine wpAny_pyIter_enum he ?_
  refine enum_block D he hst hei hsz hh hcell hkind hxa hxb hab F N hLe hLi he0 hi0 offs p test el ?_
  intro D C h tk m' ys F' N' hlt hn hC₀ hCL hCD offC hys
  refine ⟨m', hn, fun h'' hs'' => fin D ys h'' tk (F'.change hs'' hCL hC₀) (fun p hp => ?_) hlt hys⟩
  refine ⟨hs''.extBut _ _ ?_ (N' p hp).1, (N' p hp).2⟩
  rcases List.mem_cons.mp hp with rfl | hp
  · exact Ne.symm hCD
  · exact offC p hp
end
end Mine

-- part Base
namespace Mine
open PySem.Calls PySem.Spec PyProof.Rows.LCg

theorem mulOk_mod (x b : Int) : IntMulOk (x.fmod 2147483647) b := by
  have h := (fdiv_fmod_facts x 2147483647).2.2.1 (by decide)
  refine IntMulOk.of_left ?_
  unfold Builtin.Int.intBits
  generalize x.fmod 2147483647 = y at h
  by_cases hy : (y == 0) = true
  · rw [if_pos hy]; exact Nat.zero_le _
  · rw [if_neg hy]
    have h0 : y.natAbs ≠ 0 := by
      intro h0; apply hy; rw [beq_iff_eq]; omega
    have : y.natAbs.log2 < 31 := (Nat.log2_lt h0).mpr (by omega)
    omega
theorem fm_lo (x : Int) {n : Int} (h : 1 ≤ n) : 0 ≤ x.fmod n := ((fdiv_fmod_facts x n).2.2.1 (by omega)).1
theorem fm_hi (x : Int) {n : Int} (h : 1 ≤ n) : x.fmod n < n := ((fdiv_fmod_facts x n).2.2.1 (by omega)).2
theorem fd_lo (x : Int) {n : Int} (h : 1 ≤ n) (hx : 0 ≤ x) : 0 ≤ x.fdiv n := Int.fdiv_nonneg hx (by omega)

theorem upd_rest {src : Addr} {o : Obj} {news : List (Addr × Obj)} {gl : Obj → List (Addr × Obj)} (U : UpdF src o news gl) :
    ∃ rest, (∀ p ∈ (src, o) :: rest, p ∈ news) ∧ (∀ p ∈ rest, p.1 ≠ src) ∧ (∀ o', ∀ p ∈ gl o', p ∈ (src, o') :: rest) ∧ (∀ p ∈ news, p.1 ≠ src → p ∈ rest) := by
  obtain ⟨pre, post, rfl, hg, h1, h2⟩ := U.split
  refine ⟨pre ++ post, fun p hp => ?_, fun p hp => ?_, fun o' p hp => ?_, fun p hp hn => ?_⟩
  · rcases List.mem_cons.mp hp with rfl | hp
    · simp
    · rcases List.mem_append.mp hp with hp | hp <;> simp [hp]
  · rcases List.mem_append.mp hp with hp | hp
    · exact h1 p hp
    · exact h2 p hp
  · rw [hg] at hp
    rcases List.mem_append.mp hp with hp | hp
    · simp [hp]
    · rcases List.mem_cons.mp hp with rfl | hp <;> simp_all
  · rcases List.mem_append.mp hp with hp | hp
    · simp [hp]
    · rcases List.mem_cons.mp hp with rfl | hp
      · exact absurd rfl hn
      · simp [hp]
theorem news_sub {h₀ h : Heap} {L : Addr} {l l' : List (Addr × Obj)} (N : News h₀ L h l) (hs : ∀ p ∈ l', p ∈ l) : News h₀ L h l' := fun p hp => N p (hs p hp)
def optV : Option Int → Tok → Value
  | none, _ => .none
  | some i, t => .int i t
theorem item_at {prog w A E s} {value slice : PySem.Expr} {l : Addr} {its : List Value} {k : Int} {u : Tok} {Q : Value → Shared → Prop}
    (hl : s.heap.IsList l its.toArray) (h0 : 0 ≤ k) (hhi : k < 2 ^ 63) (hx : k < its.length) (h : ∀ v, v ∈ its → its[k.toNat]? = some v → Q v s)
    (hs : subscripted slice false (.ref l) (.int k u) = operate [.ref l, .int k u] (getItem (.ref l) (.int k u)) := by with_unfolding_all rfl) :
    wpAny (model prog w) A (subscriptTail value slice (.ref l) (.int k u)) Q E s := by
  have hlt : k.toNat < its.length := by omega
  exact tail_any hl.typeIs slot_list_getitem.lookup (wpAny_getItem_list hl h0 hhi (by simp [hlt]) (h _ (List.getElem_mem hlt) (List.getElem?_eq_getElem hlt))) hs
theorem str_at {prog w A E s} {value slice : PySem.Expr} {x : Str} {t u : Tok} {i : Int} {Q : Value → Shared → Prop} (h0 : 0 ≤ i) (h1 : i < x.length) (hx : x.length < 1000)
    (h : Q (.str ⟨#[x.cps.getD i.toNat 0]⟩ s.toks) { s with toks := s.toks + 1 })
    (hs : subscripted slice false (.str x t) (.int i u) = operate [.str x t, .int i u] (getItem (.str x t) (.int i u)) := by with_unfolding_all rfl)
    (ht : ∀ r, letTemporaryGo value (.str x t) r = pure () := by intro _; with_unfolding_all rfl) :
    wpAny (model prog w) A (subscriptTail value slice (.str x t) (.int i u)) Q E s := by
  refine item_str (fitsSsize_of (N := 9223372036854775808) (by omega) (by omega) (Int.le_refl _)) (by omega) h1 (fun _ => ?_) hs ht
  rw [item_meets ⟨h0, h1⟩]; exact h

theorem sign_ne {x y : Str} {i : Int} {k c : Nat} (h0 : 0 ≤ i) (hc : y.cps[k]? = some c) (hlt : i + (k : Int) < x.length) : (({ cps := #[x.cps.getD (i + (k : Int)).toNat 0] } : Str) != { cps := #[c] }) = !decide (x.cps[i.toNat + k]? = y.cps[k]?) := by
  have e : (i + (k : Int)).toNat = i.toNat + k := by omega
  have hl : i.toNat + k < x.cps.size := by have : x.length = x.cps.size := rfl; omega
  have e2 : x.cps[i.toNat + k]? = some (x.cps.getD (i.toNat + k) 0) := by
    rw [Array.getElem?_eq_getElem hl]; simp [Array.getD, hl]
  rw [e, hc, e2]
  by_cases h : x.cps.getD (i.toNat + k) 0 = c
  · rw [h]; simp
  · have : ¬ (({ cps := #[x.cps.getD (i.toNat + k) 0] } : Str) = { cps := #[c] }) := by
      intro q; apply h; injection q with q; simpa using q
    rw [(bne_iff_ne).mpr this, decide_eq_false (by simpa using h)]; rfl
end Mine

-- part M1
theorem Mine.fresh_M1 : True := by w_top off; exact True.intro
namespace Mine
open PySem.Calls PySem.Spec PyProof.Rows.LCg

local macro_rules | `(tactic| walk_at "binaryOp Mult int int") => `(tactic| (k_here; k_dflt (refine mul_int ?_ (mulOk_mod _ _))))
local macro_rules | `(tactic| units_room) => `(tactic| ((have hcL9 := cLine_is); (try simp only [units_in1, units_deeper, Around.mark_units, units_caller]); (try dsimp only [ktrTop]); omega))
local macro_rules | `(tactic| ktr_enter) => `(tactic| (refine' code_defC ?k1 ?k2 ?k3 ?k4 ?k5 ?kA ?kF ?kK ?k6 ?k7 ?k8 ?k9 ?kB ?kD ?_ ?c2 ?c3 ?c4; (case kA => exact rfl); (case kF => exact rfl); (case kK => assumption); (case k1 => k_asm); (case k2 => k_asm); (case k3 => k_asm); (case k4 => k_asm); (case k5 => k_asm); (case k6 => k_is); (case k7 => k_is); (case k8 => ktr_room); (case k9 => exact BindsTo.of_eq rfl); (case kB => exact rfl); (case kD => decide +kernel); (case c2 => exact rfl); (case c3 => exact rfl); (case c4 => exact rfl); k_whole; intro g' L' h' tk' cells' FG' F' N' Y' B' X' T' l1; (try k_lt l1); k_cells Y'; (try simp only [List.cons_append, List.nil_append] at N'); (try dsimp only); (try k_lift B'); (try k_fold)))
local macro_rules | `(tactic| ktr_enter) => `(tactic| (refine' code_def ?k1 ?k2 ?k3 ?k4 ?k5 ?kA ?kF ?kK ?k6 ?k7 ?k8 ?k9 ?kB ?_ ?c2 ?c3 ?c4 ?c5; (case kA => exact rfl); (case kF => exact rfl); (case kK => assumption); (case k1 => k_asm); (case k2 => k_asm); (case k3 => k_asm); (case k4 => k_asm); (case k5 => k_asm); (case k6 => k_is); (case k7 => k_is); (case k8 => ktr_room); (case k9 => exact BindsTo.of_eq rfl); (case c5 => decide); (case kB => exact locs rfl); (case c2 => exact rfl); (case c3 => exact rfl); (case c4 => exact rfl); k_whole; intro g' L' h' FG' F' N' B' X' T'; (try dsimp only); (try k_lift B'); (try k_fold)))
local macro_rules | `(tactic| walk_at "call builtin:len") => `(tactic| (k_here; (with_reducible show wpAny _ _ (call (Value.builtin "len") [Value.ref _]) _ _ _); k_dflt (refine' len_list ?k1 ?k2 ?_; (case k1 => exact News.isList (N := by k_asm) (by k_mem)); (case k2 => ((try simp only [List.size_toArray]); omega)); k_whole); (try simp only [List.size_toArray])))
local macro_rules | `(tactic| k_all) => `(tactic| assumption)
local macro_rules | `(tactic| k_mem) => `(tactic| (first | assumption | exact List.Mem.head _ | (refine' List.Mem.tail _ ?_; k_mem)))
local macro_rules | `(tactic| walk_at "subscriptTail Name BinOp str int") => `(tactic| (k_here; (with_reducible show wpAny _ _ (subscriptTail _ _ (Value.str _ _) (Value.int _ _)) _ _ _); k_dflt (refine' str_at ?k1 ?k2 ?k3 ?_ ?k4 ?k5; (case k1 => omega); (case k2 => omega); (case k3 => omega); (case k4 => with_unfolding_all rfl); (case k5 => intro _; with_unfolding_all rfl); k_whole)))
local macro_rules | `(tactic| walk_at "subscriptTail Name Name str int") => `(tactic| (k_here; (with_reducible show wpAny _ _ (subscriptTail _ _ (Value.str _ _) (Value.int _ _)) _ _ _); k_dflt (refine' str_at ?k1 ?k2 ?k3 ?_ ?k4 ?k5; (case k1 => omega); (case k2 => omega); (case k3 => omega); (case k4 => with_unfolding_all rfl); (case k5 => intro _; with_unfolding_all rfl); k_whole)))
section
variable {w : World} {mean : ExcName → Option Value} {mg mb : Str → Option Value} {dp un : Nat} {gd : Option (List Code)} {cn : Str} {cs : Scope} {a : Addr} {ccd : Value} {cl : List (Str × Addr)} {outer : List Env} {A₀ : Around} {base h₀ : Heap} {L : Addr} {m : Str → Option Value} {s : Shared} {Q E : Value → Shared → Prop} {news : List (Addr × Obj)}
theorem take_ok {src : Addr} {g r : Int} {t1 t2 : Tok} {k : Nat} {gl : Obj → List (Addr × Obj)} {n : Int} {tn : Tok}
    (B : Below A₀ base outer h₀) (F : Fr h₀ L s.heap m) (X : (hd.heap_39 w.params).In h₀) (N : News h₀ L s.heap news) (T : Top hd.view_39 (looseW hd.view_39 []) mean mg mb h₀) (hk : cs.kind = .function)
    (hdp : dp + 1 < recursionLimit) (hun : un + 200 < cLine)
    (U : UpdF src (listOf #[.int g t1, .int r t2] k) news gl) (hg : 0 ≤ g) (hr : 0 ≤ r) (hr2 : r < 2147483647) (hn : 1 ≤ n) (hn2 : n < 1000000)
    (hret : ∀ (d : Int) (td : Tok) (h' : Heap) (tk' : Nat) (g' r' : Int) (t1' t2' : Tok), 0 ≤ d → d < n → 0 ≤ g' → 0 ≤ r' → r' < 2147483647 → Fr h₀ L h' m → News h₀ L h' (gl (listOf #[.int g' t1', .int r' t2'] k)) → Q (.int d td) { s with heap := h', toks := tk' }) :
    wpAny (model PySem.Challenge.rw_xm0648_01.row.prog w) (ktrTop dp un gd cn cs L a ccd cl outer) (call (.ref 63) [.ref src, .int n tn]) Q E s := by
  (revert X; k_fill; intro X)
  obtain ⟨rest, hs1, hs2, hs3, hs4⟩ := upd_rest U
  replace N := news_sub N hs1
  clear U hs1
  refine wpAny_call ?_
  w_strict (k_dflt ktr_enter)
  w_strict k_steps
  all_goals (refine hret _ _ _ _ _ _ _ _ ?_ ?_ ?_ ?_ ?_ (by assumption) (news_sub (by assumption) (hs3 _)))
  all_goals first | exact fm_lo _ (by omega) | exact fm_hi _ (by omega) | exact fd_lo _ (by omega) (by assumption) | assumption | exact fm_lo _ (by decide) | exact fm_hi _ (by decide)

local macro_rules | `(tactic| walk_at "call ref") => `(tactic| (k_here; (with_reducible show wpAny _ _ (call (Value.ref 63) _) _ _ _); k_dflt (refine' take_ok ?k1 ?k2 ?k3 ?k4 ?k5 ?kK ?kd ?ku ?u1 ?u2 ?u3 ?u4 ?u5 ?u6 ?_; (case k1 => k_asm); (case k2 => k_asm); (case k3 => k_asm); (case k4 => k_asm); (case k5 => k_asm); (case kK => first | exact rfl | assumption); (case kd => ktr_room); (case ku => units_room); (case u1 => k_updF); (case u2 => k_asm); (case u3 => k_asm); (case u4 => k_asm); (case u5 => omega); (case u6 => omega); intro d9 td9 h9 tk9 g9 r9 t91 t92 hd1 hd2 hg9 hr9 hr92 F9 N9; (try dsimp only at N9); (try k_fold))))
local macro_rules | `(tactic| walk_at "subscriptTail") => `(tactic| (k_here; (with_reducible show wpAny _ _ (subscriptTail _ _ (Value.ref _) (Value.int _ _)) _ _ _); k_dflt (refine' item_at ?k1 ?k2 ?k3 ?k4 ?_ ?k6; (case k1 => exact News.isList (by k_asm) (by k_mem)); (case k2 => assumption); (case k3 => omega); (case k4 => assumption); (case k6 => with_unfolding_all rfl); k_whole); intro v9 hv9 hi9))
theorem one_ok {src : Addr} {g r : Int} {t1 t2 : Tok} {k : Nat} {gl : Obj → List (Addr × Obj)} {tl : Addr} {its : List Value} {k2 : Nat}
    (B : Below A₀ base outer h₀) (F : Fr h₀ L s.heap m) (X : (hd.heap_39 w.params).In h₀) (N : News h₀ L s.heap news) (T : Top hd.view_39 (looseW hd.view_39 []) mean mg mb h₀) (hk : cs.kind = .function)
    (hdp : dp + 2 < recursionLimit) (hun : un + 250 < cLine)
    (U : UpdF src (listOf #[.int g t1, .int r t2] k) news gl) (hg : 0 ≤ g) (hr : 0 ≤ r) (hr2 : r < 2147483647) (hm : (tl, listOf its.toArray k2) ∈ news) (hne : @Ne Nat tl src) (h1 : 1 ≤ its.length) (h2 : its.length < 1000)
    (hret : ∀ (v : Value) (h' : Heap) (tk' : Nat) (g' r' : Int) (t1' t2' : Tok), v ∈ its → 0 ≤ g' → 0 ≤ r' → r' < 2147483647 → Fr h₀ L h' m → News h₀ L h' (gl (listOf #[.int g' t1', .int r' t2'] k)) → Q v { s with heap := h', toks := tk' }) :
    wpAny (model PySem.Challenge.rw_xm0648_01.row.prog w) (ktrTop dp un gd cn cs L a ccd cl outer) (call (.ref 70) [.ref src, .ref tl]) Q E s := by
  (revert X; k_fill; intro X)
  obtain ⟨rest, hs1, hs2, hs3, hs4⟩ := upd_rest U
  replace hm := hs4 _ hm hne
  replace N := news_sub N hs1
  have U2 := UpdF.head (o := listOf #[.int g t1, .int r t2] k) hs2
  clear U hs1 hs4
  refine wpAny_call ?_
  w_strict (k_dflt ktr_enter)
  w_strict k_steps
  refine hret _ _ _ _ _ _ _ (by assumption) ?_ ?_ ?_ (by assumption) (news_sub (by assumption) (hs3 _)) <;> assumption

theorem is_at_ok {x y : Str} {i : Int} {tx ty ti : Tok}
    (B : Below A₀ base outer h₀) (F : Fr h₀ L s.heap m) (X : (hd.heap_39 w.params).In h₀) (N : News h₀ L s.heap news) (T : Top hd.view_39 (looseW hd.view_39 []) mean mg mb h₀) (hk : cs.kind = .function)
    (hdp : dp + 1 < recursionLimit) (hun : un + 200 < cLine)
    (hi : 0 ≤ i) (hx : x.length < 1000) (hy : y.length < 1000)
    (hret : ∀ (t : Tok) (h' : Heap) (tk' : Nat), Fr h₀ L h' m → News h₀ L h' news → Q (.bool (isAt x y i.toNat)) { s with heap := h', toks := tk' }) :
    wpAny (model PySem.Challenge.rw_xm0648_01.row.prog w) (ktrTop dp un gd cn cs L a ccd cl outer) (call (.ref 75) [.str x tx, .int i ti, .str y ty]) Q E s := by
  (revert X; k_fill; intro X)
  refine wpAny_call ?_
  w_strict (k_dflt ktr_enter)
  w_strict (repeat' ((fail_if_success (with_reducible show wpAny _ _ (eval (PySem.Expr.ListComp _ _ _ _) _) _ _ _)); (first | (k_unfold; (try dsimp only)) | (k_end; wrow_close) | walk1 | (dsimp only; walk1) | (leave1; try dsimp only) | fail "no step")))
  · exact cb_retB hret (isAt_short x y i.toNat (by omega)).symm (by assumption) (by (refine' cb_drop ?cbN ?cbS; (case cbN => assumption); (case cbS => kcj_all)))
  · (with_reducible rename Fr _ _ _ _ => F1); (with_reducible rename News _ _ _ _ => N1)
    k_dflt (refine ListComp_E (x := y) F1 N1 (fun k => !decide (x.cps[i.toNat + k]? = y.cps[k]?)) ?_ rfl (by with_unfolding_all rfl) (by decide) rfl (by decide) rfl rfl (by decide) ?_ ?_ ?_ ?_)
    · rw [sizeLine_eq]; show y.length ≤ _; omega
    · w_strict (repeat' ((fail_if_success (with_reducible show wpAny _ _ (call (Value.type _) _) _ _ _)); (first | (k_unfold; (try dsimp only)) | (k_end; wrow_close) | walk1 | (dsimp only; walk1) | (leave1; try dsimp only) | fail "no step")))
      exact call_enum_src rfl (by assumption) (by assumption)
    · intro k c ti' tc C oC h tk m₂ E' hc hC ha hb F2 N2
      have hk9 : k < y.cps.size := (Array.getElem?_eq_some_iff.mp hc).1
      have hk8 : y.cps.size = y.length := rfl
      w_strict k_steps
      exact sign_ne (by omega) hc (by omega)
    · intro C h tk E'
      refine wpAny_Constant_int ?_
      exact ⟨⟨_, rfl⟩, _, rfl⟩
    · intro D ys h tk F3 N3 hlt hys
      w_strict k_steps
      exact cb_retB hret (isAt_filter x y i.toNat (by omega)) (by assumption) (by (refine' cb_drop ?cbN ?cbS; (case cbN => assumption); (case cbS => kcj_all)))

end
end Mine

-- part M2
theorem Mine.fresh_M2 : True := by w_top off; exact True.intro
namespace Mine
open PySem.Calls PySem.Spec PyProof.Rows.LCg

local macro_rules | `(tactic| walk_at "binaryOp Mult int int") => `(tactic| (k_here; k_dflt (refine mul_int ?_ (mulOk_mod _ _))))
local macro_rules | `(tactic| units_room) => `(tactic| ((have hcL9 := cLine_is); (try simp only [units_in1, units_deeper, Around.mark_units, units_caller]); (try dsimp only [ktrTop]); omega))
local macro_rules | `(tactic| ktr_enter) => `(tactic| (refine' code_defC ?k1 ?k2 ?k3 ?k4 ?k5 ?kA ?kF ?kK ?k6 ?k7 ?k8 ?k9 ?kB ?kD ?_ ?c2 ?c3 ?c4; (case kA => exact rfl); (case kF => exact rfl); (case kK => assumption); (case k1 => k_asm); (case k2 => k_asm); (case k3 => k_asm); (case k4 => k_asm); (case k5 => k_asm); (case k6 => k_is); (case k7 => k_is); (case k8 => ktr_room); (case k9 => exact BindsTo.of_eq rfl); (case kB => exact rfl); (case kD => decide +kernel); (case c2 => exact rfl); (case c3 => exact rfl); (case c4 => exact rfl); k_whole; intro g' L' h' tk' cells' FG' F' N' Y' B' X' T' l1; (try k_lt l1); k_cells Y'; (try simp only [List.cons_append, List.nil_append] at N'); (try dsimp only); (try k_lift B'); (try k_fold)))
local macro_rules | `(tactic| ktr_enter) => `(tactic| (refine' code_def ?k1 ?k2 ?k3 ?k4 ?k5 ?kA ?kF ?kK ?k6 ?k7 ?k8 ?k9 ?kB ?_ ?c2 ?c3 ?c4 ?c5; (case kA => exact rfl); (case kF => exact rfl); (case kK => assumption); (case k1 => k_asm); (case k2 => k_asm); (case k3 => k_asm); (case k4 => k_asm); (case k5 => k_asm); (case k6 => k_is); (case k7 => k_is); (case k8 => ktr_room); (case k9 => exact BindsTo.of_eq rfl); (case c5 => decide); (case kB => exact locs rfl); (case c2 => exact rfl); (case c3 => exact rfl); (case c4 => exact rfl); k_whole; intro g' L' h' FG' F' N' B' X' T'; (try dsimp only); (try k_lift B'); (try k_fold)))
local macro_rules | `(tactic| walk_at "call builtin:len") => `(tactic| (k_here; (with_reducible show wpAny _ _ (call (Value.builtin "len") [Value.ref _]) _ _ _); k_dflt (refine' len_list ?k1 ?k2 ?_; (case k1 => exact News.isList (N := by k_asm) (by k_mem)); (case k2 => ((try simp only [List.size_toArray]); omega)); k_whole); (try simp only [List.size_toArray])))
local macro_rules | `(tactic| k_all) => `(tactic| assumption)
local macro_rules | `(tactic| k_mem) => `(tactic| (first | assumption | exact List.Mem.head _ | (refine' List.Mem.tail _ ?_; k_mem)))
local macro_rules | `(tactic| walk_at "subscriptTail Name BinOp str int") => `(tactic| (k_here; (with_reducible show wpAny _ _ (subscriptTail _ _ (Value.str _ _) (Value.int _ _)) _ _ _); k_dflt (refine' str_at ?k1 ?k2 ?k3 ?_ ?k4 ?k5; (case k1 => omega); (case k2 => omega); (case k3 => omega); (case k4 => with_unfolding_all rfl); (case k5 => intro _; with_unfolding_all rfl); k_whole)))
local macro_rules | `(tactic| walk_at "subscriptTail Name Name str int") => `(tactic| (k_here; (with_reducible show wpAny _ _ (subscriptTail _ _ (Value.str _ _) (Value.int _ _)) _ _ _); k_dflt (refine' str_at ?k1 ?k2 ?k3 ?_ ?k4 ?k5; (case k1 => omega); (case k2 => omega); (case k3 => omega); (case k4 => with_unfolding_all rfl); (case k5 => intro _; with_unfolding_all rfl); k_whole)))
local macro_rules | `(tactic| walk_at "exec Assign cons ListComp") => `(tactic| (k_here; k_dflt (first | refine LCt.Assign_ListComp_T (F₀ := by k_asm) (by rfl) (by with_unfolding_all rfl) (by with_unfolding_all rfl) (by decide) (by rfl) (by decide) (by rfl) (by rfl) (by rfl) ?_ | refine LCg.Assign_ListComp_U (F₀ := by k_asm) (by rfl) (by with_unfolding_all rfl) (by with_unfolding_all rfl) (by decide) (by rfl) (by decide) (by rfl) (by rfl) (by rfl) ?_)))
local macro_rules | `(tactic| walk_at "eval ListComp") => `(tactic| (k_here; k_dflt (first | refine LCt.ListComp_T (F₀ := by k_asm) (by with_unfolding_all rfl) (by decide) (by rfl) (by decide) (by rfl) ?_ | refine LCg.ListComp_U (F₀ := by k_asm) (by with_unfolding_all rfl) (by decide) (by rfl) (by decide) (by rfl) ?_)))
local macro_rules | `(tactic| walk_at "call ref") => `(tactic| (k_here; (with_reducible show wpAny _ _ (call (Value.ref 75) _) _ _ _); k_dflt (refine' is_at_ok ?k1 ?k2 ?k3 ?k4 ?k5 ?kK ?kd ?ku ?u1 ?u2 ?u3 ?_; (case k1 => k_asm); (case k2 => k_asm); (case k3 => k_asm); (case k4 => k_asm); (case k5 => k_asm); (case kK => first | exact rfl | assumption); (case kd => ktr_room); (case ku => units_room); (case u1 => omega); (case u2 => omega); (case u3 => omega); intro t9 h9 tk9 F9 N9; (try k_fold))))
section
variable {w : World} {mean : ExcName → Option Value} {mg mb : Str → Option Value} {dp un : Nat} {gd : Option (List Code)} {cn : Str} {cs : Scope} {a : Addr} {ccd : Value} {cl : List (Str × Addr)} {outer : List Env} {A₀ : Around} {base h₀ : Heap} {L : Addr} {m : Str → Option Value} {s : Shared} {Q E : Value → Shared → Prop} {news : List (Addr × Obj)}

def IsOpt (v : Option Int) (y : Value) : Prop := match v with | none => y = .none | some i => ∃ t, y = .int i t
theorem retO {h₀ h' : Heap} {L : Addr} {m : Str → Option Value} {news : List (Addr × Obj)} {s : Shared} {Q : Value → Shared → Prop} {v : Option Int} {tk' : Nat} {y : Value} (hret : ∀ (t : Tok) (h' : Heap) (tk' : Nat), Fr h₀ L h' m → News h₀ L h' news → Q (optV v t) { s with heap := h', toks := tk' }) (e : IsOpt v y) (F : Fr h₀ L h' m) (N : News h₀ L h' news) : Q y { s with heap := h', toks := tk' } := by
  cases v with
  | none => have e' : y = .none := e; subst e'; exact hret 0 h' tk' F N
  | some i => obtain ⟨t, rfl⟩ := e; exact hret t h' tk' F N
theorem foldG {x y : Str} {i : Int} (hi : 0 ≤ i) : ∀ (n : Nat), (rangeKs i n).foldl (fun l k => if isAt x y k.toNat = true then l ++ [k + (y.length : Int)] else l) [] = ((List.range' i.toNat n).filter (isAt x y)).map (fun (k : Nat) => (k : Int) + y.length)
  | 0 => rfl
  | n + 1 => by
    have e : rangeKs i (n + 1) = rangeKs i n ++ [i + (n : Int)] := by simp [rangeKs, List.range_succ]
    have e2 : (i + (n : Int)).toNat = i.toNat + n := by omega
    have e3 : ((i.toNat + n : Nat) : Int) = i + n := by omega
    rw [e, List.foldl_append, foldG hi n, List.range'_concat, List.filter_append, List.map_append]
    simp only [List.foldl_cons, List.foldl_nil, e2, Nat.one_mul]
    by_cases h : isAt x y (i.toNat + n) = true
    · rw [if_pos h]; simp [h, e3]
    · rw [if_neg h]; simp [h]
theorem first_head {x y : Str} {i : Int} {zs : List Int} (h : ((List.range' i.toNat (x.length - i.toNat)).filter (isAt x y)).map (fun (k : Nat) => (k : Int) + y.length) = zs) :
    zs.head? = (firstFrom x y i.toNat).map fun (k : Nat) => (k : Int) + y.length := by
  rw [← h, List.head?_map]
  unfold firstFrom
  rw [List.head?_filter]
theorem law_behind_ok {x y : Str} {i : Int} {tx ty ti : Tok}
    (B : Below A₀ base outer h₀) (F : Fr h₀ L s.heap m) (X : (hd.heap_39 w.params).In h₀) (N : News h₀ L s.heap news) (T : Top hd.view_39 (looseW hd.view_39 []) mean mg mb h₀) (hk : cs.kind = .function)
    (hdp : dp + 2 < recursionLimit) (hun : un + 300 < cLine)
    (hi : 0 ≤ i) (hi2 : i ≤ x.length) (hx : x.length < 1000) (hy : y.length < 1000) (hy1 : 1 ≤ y.length)
    (hret : ∀ (t : Tok) (h' : Heap) (tk' : Nat), Fr h₀ L h' m → News h₀ L h' news → Q (optV ((firstFrom x y i.toNat).map fun (k : Nat) => (k : Int) + y.length) t) { s with heap := h', toks := tk' }) :
    wpAny (model PySem.Challenge.rw_xm0648_01.row.prog w) (ktrTop dp un gd cn cs L a ccd cl outer) (call (.ref 80) [.str x tx, .str y ty, .int i ti]) Q E s := by
  (revert X; k_fill; intro X)
  refine wpAny_call ?_
  w_strict (k_dflt ktr_enter)
  w_strict (repeat' ((fail_if_success (with_reducible show LCt.CompSrcT _ _ _ _ _ _ _ _ _ _ _ _ _ _ _)); (first | (k_unfold; (try dsimp only)) | (k_end; wrow_close) | walk1 | (dsimp only; walk1) | (leave1; try dsimp only) | fail "no step")))
  k_dflt (refine LCt.CompSrcT.range (n := x.length - i.toNat) (by rfl) (by k_asm) (by k_asm) (by assumption) (small_one (by omega) (by omega) (by omega) (by omega)) (by rw [rangeSize_one]; omega) (by rw [sizeLine_eq]; omega) ?_)
  intro g9
  refine kci_range (fun l k => if isAt x y k.toNat = true then l ++ [k + (y.length : Int)] else l) ?turn ?fin ?grow
  case grow =>
    intro l k
    dsimp only
    split <;> simp
  case turn =>
    intro k t I oI C oC D m₂ ys l h tk E' hlo hhi hys hC hx9 F9 N9 off9 ne9 mk9
    w_strict k_steps
    · refine LCg.CompEnd.intro (by assumption) (by assumption) _ (by kcf_all) off9 trivial ?_
      exact ⟨rfl, _, _, rfl, by rw [if_pos (by assumption)]⟩
    · refine LCg.CompEnd.intro (by assumption) (by assumption) _ (by kcf_all) off9 trivial ?_
      rename_i hh
      exact ⟨rfl, by simp [hh]⟩
  case fin =>
    unfold KPfDone
    rw [foldG hi]
    intro ys hys hlen
    generalize hz : ((List.range' i.toNat (x.length - i.toNat)).filter (isAt x y)).map (fun (k : Nat) => (k : Int) + y.length) = zs at hys
    have hfirst := first_head hz
    clear hz
    unfold LCg.FinA
    intro D h tk F9 N9 off9
    cases hys
    all_goals (w_strict k_steps)
    all_goals first
      | (refine retO (Q := Q) hret ?_ (by assumption) (by (refine' cb_drop ?cbN ?cbS; (case cbN => assumption); (case cbS => kcj_all))); rw [← hfirst]; first | exact rfl | exact ⟨_, rfl⟩)
      | (exfalso; (rename decide (_ = _) = true => hh); exact absurd (of_decide_eq_true hh) (List.cons_ne_nil _ _))
      | skip

end
end Mine

-- part M3
theorem Mine.fresh_M3 : True := by w_top off; exact True.intro
namespace Mine
open PySem.Calls PySem.Spec PyProof.Rows.LCg

local macro_rules | `(tactic| walk_at "binaryOp Mult int int") => `(tactic| (k_here; k_dflt (refine mul_int ?_ (mulOk_mod _ _))))
local macro_rules | `(tactic| units_room) => `(tactic| ((have hcL9 := cLine_is); (try simp only [units_in1, units_deeper, Around.mark_units, units_caller]); (try dsimp only [ktrTop]); omega))
local macro_rules | `(tactic| ktr_enter) => `(tactic| (refine' code_defC ?k1 ?k2 ?k3 ?k4 ?k5 ?kA ?kF ?kK ?k6 ?k7 ?k8 ?k9 ?kB ?kD ?_ ?c2 ?c3 ?c4; (case kA => exact rfl); (case kF => exact rfl); (case kK => assumption); (case k1 => k_asm); (case k2 => k_asm); (case k3 => k_asm); (case k4 => k_asm); (case k5 => k_asm); (case k6 => k_is); (case k7 => k_is); (case k8 => ktr_room); (case k9 => exact BindsTo.of_eq rfl); (case kB => exact rfl); (case kD => decide +kernel); (case c2 => exact rfl); (case c3 => exact rfl); (case c4 => exact rfl); k_whole; intro g' L' h' tk' cells' FG' F' N' Y' B' X' T' l1; (try k_lt l1); k_cells Y'; (try simp only [List.cons_append, List.nil_append] at N'); (try dsimp only); (try k_lift B'); (try k_fold)))
local macro_rules | `(tactic| ktr_enter) => `(tactic| (refine' code_def ?k1 ?k2 ?k3 ?k4 ?k5 ?kA ?kF ?kK ?k6 ?k7 ?k8 ?k9 ?kB ?_ ?c2 ?c3 ?c4 ?c5; (case kA => exact rfl); (case kF => exact rfl); (case kK => assumption); (case k1 => k_asm); (case k2 => k_asm); (case k3 => k_asm); (case k4 => k_asm); (case k5 => k_asm); (case k6 => k_is); (case k7 => k_is); (case k8 => ktr_room); (case k9 => exact BindsTo.of_eq rfl); (case c5 => decide); (case kB => exact locs rfl); (case c2 => exact rfl); (case c3 => exact rfl); (case c4 => exact rfl); k_whole; intro g' L' h' FG' F' N' B' X' T'; (try dsimp only); (try k_lift B'); (try k_fold)))
local macro_rules | `(tactic| walk_at "call builtin:len") => `(tactic| (k_here; (with_reducible show wpAny _ _ (call (Value.builtin "len") [Value.ref _]) _ _ _); k_dflt (refine' len_list ?k1 ?k2 ?_; (case k1 => exact News.isList (N := by k_asm) (by k_mem)); (case k2 => ((try simp only [List.size_toArray]); omega)); k_whole); (try simp only [List.size_toArray])))
local macro_rules | `(tactic| k_all) => `(tactic| assumption)
local macro_rules | `(tactic| k_mem) => `(tactic| (first | assumption | exact List.Mem.head _ | (refine' List.Mem.tail _ ?_; k_mem)))
local macro_rules | `(tactic| walk_at "subscriptTail Name BinOp str int") => `(tactic| (k_here; (with_reducible show wpAny _ _ (subscriptTail _ _ (Value.str _ _) (Value.int _ _)) _ _ _); k_dflt (refine' str_at ?k1 ?k2 ?k3 ?_ ?k4 ?k5; (case k1 => omega); (case k2 => omega); (case k3 => omega); (case k4 => with_unfolding_all rfl); (case k5 => intro _; with_unfolding_all rfl); k_whole)))
local macro_rules | `(tactic| walk_at "subscriptTail Name Name str int") => `(tactic| (k_here; (with_reducible show wpAny _ _ (subscriptTail _ _ (Value.str _ _) (Value.int _ _)) _ _ _); k_dflt (refine' str_at ?k1 ?k2 ?k3 ?_ ?k4 ?k5; (case k1 => omega); (case k2 => omega); (case k3 => omega); (case k4 => with_unfolding_all rfl); (case k5 => intro _; with_unfolding_all rfl); k_whole)))
section
variable {w : World} {mean : ExcName → Option Value} {mg mb : Str → Option Value} {dp un : Nat} {gd : Option (List Code)} {cn : Str} {cs : Scope} {a : Addr} {ccd : Value} {cl : List (Str × Addr)} {outer : List Env} {A₀ : Around} {base h₀ : Heap} {L : Addr} {m : Str → Option Value} {s : Shared} {Q E : Value → Shared → Prop} {news : List (Addr × Obj)}

theorem find3_int (x y : PySem.Str) (i : Int) (hi : 0 ≤ i) (hy : 1 ≤ y.length) : Txt.find3 x y i = match firstFrom x y i.toNat with | some k => (k : Int) | none => -1 := by
  have e : i = ((i.toNat : Nat) : Int) := by omega
  conv => lhs; rw [e]
  exact find3_eq x y i.toNat hy
theorem behind_none {x y : PySem.Str} {i : Int} (hi : 0 ≤ i) (hy : 1 ≤ y.length) (h : Txt.find3 x y i < 0) : firstFrom x y i.toNat = none := by
  rw [find3_int x y i hi hy] at h
  cases e : firstFrom x y i.toNat with
  | none => rfl
  | some k => rw [e] at h; exact absurd h (Int.not_lt.mpr (Int.natCast_nonneg k))
theorem behind_some {x y : PySem.Str} {i : Int} (hi : 0 ≤ i) (hy : 1 ≤ y.length) (h : ¬ Txt.find3 x y i < 0) : (firstFrom x y i.toNat).map (fun (k : Nat) => (k : Int) + y.length) = some (Txt.find3 x y i + y.length) := by
  rw [find3_int x y i hi hy] at h ⊢
  cases e : firstFrom x y i.toNat with
  | none => rw [e] at h; dsimp only at h; omega
  | some k => rfl
theorem behind_ok {x y : Str} {i : Int} {tx ty ti : Tok}
    (B : Below A₀ base outer h₀) (F : Fr h₀ L s.heap m) (X : (hd.heap_39 w.params).In h₀) (N : News h₀ L s.heap news) (T : Top hd.view_39 (looseW hd.view_39 []) mean mg mb h₀) (hk : cs.kind = .function)
    (hdp : dp + 1 < recursionLimit) (hun : un + 200 < cLine)
    (hi : 0 ≤ i) (hx : x.length < 1000) (hy : y.length < 1000) (hy1 : 1 ≤ y.length)
    (hret : ∀ (t : Tok) (h' : Heap) (tk' : Nat), Fr h₀ L h' m → News h₀ L h' news → Q (optV ((firstFrom x y i.toNat).map fun (k : Nat) => (k : Int) + y.length) t) { s with heap := h', toks := tk' }) :
    wpAny (model PySem.Challenge.rw_xm0648_01.row.prog w) (ktrTop dp un gd cn cs L a ccd cl outer) (call (.ref 28) [.str x tx, .str y ty, .int i ti]) Q E s := by
  (revert X; k_fill; intro X)
  refine wpAny_call ?_
  w_strict (k_dflt ktr_enter)
  w_strict k_steps
  · refine retO (Q := Q) hret ?_ (by assumption) (by assumption)
    rw [behind_none hi hy1 (by assumption)]; exact rfl
  · refine retO (Q := Q) hret ?_ (by assumption) (by assumption)
    rw [behind_some hi hy1 (by assumption)]; exact ⟨_, rfl⟩

theorem may_ok {x y : Str} {tx ty : Tok}
    (B : Below A₀ base outer h₀) (F : Fr h₀ L s.heap m) (X : (hd.heap_39 w.params).In h₀) (N : News h₀ L s.heap news) (T : Top hd.view_39 (looseW hd.view_39 []) mean mg mb h₀) (hk : cs.kind = .function)
    (hdp : dp + 1 < recursionLimit) (hun : un + 200 < cLine)
    (hx : x.length < 1000) (hy : y.length < 1000)
    (hret : ∀ (t : Tok) (h' : Heap) (tk' : Nat), Fr h₀ L h' m → News h₀ L h' news → Q (.bool (decide (x.length < y.length) && Txt.startswith y x)) { s with heap := h', toks := tk' }) :
    wpAny (model PySem.Challenge.rw_xm0648_01.row.prog w) (ktrTop dp un gd cn cs L a ccd cl outer) (call (.ref 21) [.str x tx, .str y ty]) Q E s := by
  (revert X; k_fill; intro X)
  refine wpAny_call ?_
  w_strict (k_dflt ktr_enter)
  w_strict k_steps
  · refine cb_retB (Q := Q) hret ?_ (by assumption) (by assumption)
    (rename ((_ : Int) < _) => hh)
    rw [decide_eq_true (by omega : x.length < y.length)]; rfl
  · refine cb_retB (Q := Q) hret ?_ (by assumption) (by assumption)
    (rename ¬ ((_ : Int) < _) => hh)
    rw [decide_eq_false (by omega : ¬ x.length < y.length), decide_eq_false hh]; rfl


def endsFrom (x y : PySem.Str) (i : Int) : Bool := decide (fromIndex x.length i + y.length ≤ x.length) && Builtin.Str.subAt x y (x.length - y.length)
theorem gives_ends_from (x y : PySem.Str) (i : Int) (t u v : Tok) : Gives (Builtin.«str.endswith» ⟨[.str x t, .str y u, .int i v], []⟩) (.val (.bool (endsFrom x y i))) := by
  show Gives (ret (.bool (fromIndex x.length i + y.length ≤ min x.length x.length && Builtin.Str.subAt x y (min x.length x.length - y.length)))) _
  rw [Nat.min_self]
  exact .of_eq rfl
theorem ends3 {prog : Program} {w : World} {A : Around} {E : Value → Shared → Prop} {s : Shared} {x y : PySem.Str} {t u v : Tok} {i : Int} {Q : Value → Shared → Prop} (hq : Q (.bool (endsFrom x y i)) s) : wpAny (model prog w) A (call (.builtin "str.endswith") [.str x t, .str y u, .int i v]) Q E s :=
  call_gives F.slot_str_endswith (typeIs_str _ _ _) F.entry_str_endswith (F.args_str_endswith_3 _ _ _) (gives_ends_from x y i t u v) hq
local macro_rules | `(tactic| walk_at "call builtin:str.endswith") => `(tactic| (k_here; (with_reducible show wpAny _ _ (call (Value.builtin _) [Value.str _ _, Value.str _ _, Value.int _ _]) _ _ _); k_dflt (refine ends3 ?_)))
def heldN (x : PySem.Str) (i : Int) : Int := if endsFrom x (Str.ofString "]]") i = true then 2 else if endsFrom x (Str.ofString "]") i = true then 1 else 0
theorem held_ok {x : Str} {i : Int} {tx ti : Tok}
    (B : Below A₀ base outer h₀) (F : Fr h₀ L s.heap m) (X : (hd.heap_39 w.params).In h₀) (N : News h₀ L s.heap news) (T : Top hd.view_39 (looseW hd.view_39 []) mean mg mb h₀) (hk : cs.kind = .function)
    (hdp : dp + 1 < recursionLimit) (hun : un + 200 < cLine)
    (hi : 0 ≤ i) (hx : x.length < 1000)
    (hret : ∀ (t : Tok) (h' : Heap) (tk' : Nat), Fr h₀ L h' m → News h₀ L h' news → Q (.int (heldN x i) t) { s with heap := h', toks := tk' }) :
    wpAny (model PySem.Challenge.rw_xm0648_01.row.prog w) (ktrTop dp un gd cn cs L a ccd cl outer) (call (.ref 49) [.str x tx, .int i ti]) Q E s := by
  (revert X; k_fill; intro X)
  refine wpAny_call ?_
  w_strict (k_dflt ktr_enter)
  w_strict k_steps
  all_goals (refine cb_retI (Q := Q) hret ?_ (by assumption) (by assumption); unfold heldN; simp [*])


def goOn (x : PySem.Str) (k : Int) : Bool := if k < (x.length : Int) then !(!(Builtin.Str.occurrences (Str.ofString "<&") ⟨#[x.cps.getD k.toNat 0]⟩ 0 (Str.ofString "<&").length 1).isEmpty) else false
theorem text_end_ok {x : Str} {i : Int} {tx ti : Tok}
    (B : Below A₀ base outer h₀) (F : Fr h₀ L s.heap m) (X : (hd.heap_39 w.params).In h₀) (N : News h₀ L s.heap news) (T : Top hd.view_39 (looseW hd.view_39 []) mean mg mb h₀) (hk : cs.kind = .function)
    (hdp : dp + 1 < recursionLimit) (hun : un + 200 < cLine)
    (hi : 0 ≤ i) (hx : x.length < 1000)
    (hret : ∀ (k : Int) (t : Tok) (h' : Heap) (tk' : Nat), i ≤ k → (∀ j, i ≤ j → j < k → goOn x j = true) → goOn x k = false → Fr h₀ L h' m → News h₀ L h' news → Q (.int k t) { s with heap := h', toks := tk' }) :
    wpAny (model PySem.Challenge.rw_xm0648_01.row.prog w) (ktrTop dp un gd cn cs L a ccd cl outer) (call (.ref 42) [.str x tx, .int i ti]) Q E s := by
  (revert X; k_fill; intro X)
  refine wpAny_call ?_
  w_strict (k_dflt ktr_enter)
  w_strict (repeat' ((fail_if_success (with_reducible show wpAny _ _ (exec (PySem.Stmt.While _ _ _ _) _) _ _ _)); (first | (k_unfold; (try dsimp only)) | (k_end; wrow_close) | walk1 | (dsimp only; walk1) | (leave1; try dsimp only) | fail "no step")))
  (with_reducible rename Fr _ _ _ _ => F1); (with_reducible rename News _ _ _ _ => N1)
  k_dflt (refine While_up (i := Str.ofString "at") (c := fun k => if k < (x.length : Int) then !(!(Builtin.Str.occurrences (Str.ofString "<&") ⟨#[x.cps.getD k.toNat 0]⟩ 0 (Str.ofString "<&").length 1).isEmpty) else false) F1 N1 rfl ?gtest ?gturn stop_up_and ?done ?hE)
  case gtest =>
    intro k t h₁ tk₁ hk F2 N2
    w_strict k_steps
    all_goals first
      | exact ⟨_, _, rfl, fun _ _ e => e⟩
      | (rw [if_pos (by assumption)]; (rename List.isEmpty _ = _ => hh); rw [hh]; done)
      | (rw [if_pos (by assumption)]; (rename List.isEmpty _ = _ => hh); rw [hh]; rfl)
      | (rw [if_neg (by assumption)]; done)
  case gturn =>
    intro k t h₁ tk₁ hk hc F2 N2
    w_strict k_steps
  case done =>
    intro k t h₁ tk₁ hk hK hall hend _ F2 N2
    w_strict k_steps
    exact hret k t h₁ tk₁ hk hall hend (by assumption) (by assumption)
  case hE => passes_own

end
end Mine

-- part M4
theorem Mine.fresh_M4 : True := by w_top off; exact True.intro
namespace Mine
open PySem.Calls PySem.Spec PyProof.Rows.LCg

local macro_rules | `(tactic| walk_at "binaryOp Mult int int") => `(tactic| (k_here; k_dflt (refine mul_int ?_ (mulOk_mod _ _))))
local macro_rules | `(tactic| units_room) => `(tactic| ((have hcL9 := cLine_is); (try simp only [units_in1, units_deeper, Around.mark_units, units_caller]); (try dsimp only [ktrTop]); omega))
local macro_rules | `(tactic| ktr_enter) => `(tactic| (refine' code_defC ?k1 ?k2 ?k3 ?k4 ?k5 ?kA ?kF ?kK ?k6 ?k7 ?k8 ?k9 ?kB ?kD ?_ ?c2 ?c3 ?c4; (case kA => exact rfl); (case kF => exact rfl); (case kK => assumption); (case k1 => k_asm); (case k2 => k_asm); (case k3 => k_asm); (case k4 => k_asm); (case k5 => k_asm); (case k6 => k_is); (case k7 => k_is); (case k8 => ktr_room); (case k9 => exact BindsTo.of_eq rfl); (case kB => exact rfl); (case kD => decide +kernel); (case c2 => exact rfl); (case c3 => exact rfl); (case c4 => exact rfl); k_whole; intro g' L' h' tk' cells' FG' F' N' Y' B' X' T' l1; (try k_lt l1); k_cells Y'; (try simp only [List.cons_append, List.nil_append] at N'); (try dsimp only); (try k_lift B'); (try k_fold)))
local macro_rules | `(tactic| ktr_enter) => `(tactic| (refine' code_def ?k1 ?k2 ?k3 ?k4 ?k5 ?kA ?kF ?kK ?k6 ?k7 ?k8 ?k9 ?kB ?_ ?c2 ?c3 ?c4 ?c5; (case kA => exact rfl); (case kF => exact rfl); (case kK => assumption); (case k1 => k_asm); (case k2 => k_asm); (case k3 => k_asm); (case k4 => k_asm); (case k5 => k_asm); (case k6 => k_is); (case k7 => k_is); (case k8 => ktr_room); (case k9 => exact BindsTo.of_eq rfl); (case c5 => decide); (case kB => exact locs rfl); (case c2 => exact rfl); (case c3 => exact rfl); (case c4 => exact rfl); k_whole; intro g' L' h' FG' F' N' B' X' T'; (try dsimp only); (try k_lift B'); (try k_fold)))
local macro_rules | `(tactic| walk_at "call builtin:len") => `(tactic| (k_here; (with_reducible show wpAny _ _ (call (Value.builtin "len") [Value.ref _]) _ _ _); k_dflt (refine' len_list ?k1 ?k2 ?_; (case k1 => exact News.isList (N := by k_asm) (by k_mem)); (case k2 => ((try simp only [List.size_toArray]); omega)); k_whole); (try simp only [List.size_toArray])))
local macro_rules | `(tactic| k_all) => `(tactic| assumption)
local macro_rules | `(tactic| k_mem) => `(tactic| (first | assumption | exact List.Mem.head _ | (refine' List.Mem.tail _ ?_; k_mem)))
local macro_rules | `(tactic| walk_at "subscriptTail Name BinOp str int") => `(tactic| (k_here; (with_reducible show wpAny _ _ (subscriptTail _ _ (Value.str _ _) (Value.int _ _)) _ _ _); k_dflt (refine' str_at ?k1 ?k2 ?k3 ?_ ?k4 ?k5; (case k1 => omega); (case k2 => omega); (case k3 => omega); (case k4 => with_unfolding_all rfl); (case k5 => intro _; with_unfolding_all rfl); k_whole)))
local macro_rules | `(tactic| walk_at "subscriptTail Name Name str int") => `(tactic| (k_here; (with_reducible show wpAny _ _ (subscriptTail _ _ (Value.str _ _) (Value.int _ _)) _ _ _); k_dflt (refine' str_at ?k1 ?k2 ?k3 ?_ ?k4 ?k5; (case k1 => omega); (case k2 => omega); (case k3 => omega); (case k4 => with_unfolding_all rfl); (case k5 => intro _; with_unfolding_all rfl); k_whole)))
section
variable {w : World} {mean : ExcName → Option Value} {mg mb : Str → Option Value} {dp un : Nat} {gd : Option (List Code)} {cn : Str} {cs : Scope} {a : Addr} {ccd : Value} {cl : List (Str × Addr)} {outer : List Env} {A₀ : Around} {base h₀ : Heap} {L : Addr} {m : Str → Option Value} {s : Shared} {Q E : Value → Shared → Prop} {news : List (Addr × Obj)}

theorem great_nonneg (n : Int) : 0 ≤ if -1 - n > n then -1 - n else n := by split <;> omega
theorem pool_ok {sc : Addr} {vs : List Value} {ns : List Int}
    (B : Below A₀ base outer h₀) (F : Fr h₀ L s.heap m) (X : (hd.heap_39 w.params).In h₀) (N : News h₀ L s.heap news) (T : Top hd.view_39 (looseW hd.view_39 []) mean mg mb h₀) (hk : cs.kind = .function)
    (hdp : dp + 1 < recursionLimit) (hun : un + 200 < cLine)
    (hl : base.IsList sc vs.toArray) (hi : IntsAre vs ns) (hlen : ns.length ≤ 2 ^ 20)
    (hret : ∀ (l : Addr) (h' : Heap) (tk' : Nat) (g' r' : Int) (t1' t2' : Tok), 0 ≤ g' → 0 ≤ r' → r' < 2147483647 → Fr h₀ L h' m → News h₀ L h' ((l, listOf #[.int g' t1', .int r' t2'] 0) :: news) → AllLt l news → Q (.ref l) { s with heap := h', toks := tk' }) :
    wpAny (model PySem.Challenge.rw_xm0648_01.row.prog w) (ktrTop dp un gd cn cs L a ccd cl outer) (call (.ref 56) [.ref sc]) Q E s := by
  (revert X; k_fill; intro X)
  cases hi
  all_goals (
    refine wpAny_call ?_
    w_strict (k_dflt ktr_enter)
    w_strict k_steps)
  all_goals (refine hret _ _ _ _ _ _ _ ?_ ?_ ?_ (by assumption) (by (refine' cb_drop ?cbN ?cbS; (case cbN => assumption); (case cbS => kcj_all))) ?_)
  all_goals first
    | exact Int.le_refl _
    | exact fm_lo _ (by decide)
    | exact fm_hi _ (by decide)
    | exact great_nonneg _
    | ((rename (_ ∧ AllLt _ _) => hh); exact hh.2)
    | assumption
    | exact allLt_of (by assumption)

local macro_rules | `(tactic| walk_at "call ref") => `(tactic| (k_here; (with_reducible show wpAny _ _ (call (Value.ref 28) _) _ _ _); k_dflt (refine' behind_ok ?k1 ?k2 ?k3 ?k4 ?k5 ?kK ?kd ?ku ?u1 ?u2 ?u3 ?u4 ?_; (case k1 => k_asm); (case k2 => k_asm); (case k3 => k_asm); (case k4 => k_asm); (case k5 => k_asm); (case kK => first | exact rfl | assumption); (case kd => ktr_room); (case ku => units_room); (case u1 => assumption); (case u2 => omega); (case u3 => omega); (case u4 => omega); intro t9 h9 tk9 F9 N9; (try k_fold))))

def Seen (news : List (Addr × Obj)) (v : Value) (k : Option Int) : Prop := match k with
  | none => v = .none
  | some i => ∃ c t n, v = .ref c ∧ (c, ({ cls := .type "tuple", data := .seq [.int i t, .none].toArray n } : Obj)) ∈ news
theorem found_ok {x y : Str} {st p : Int} {tx ty ts tp : Tok} {sv : Value} {sk : Option Int}
    (B : Below A₀ base outer h₀) (F : Fr h₀ L s.heap m) (X : (hd.heap_39 w.params).In h₀) (N : News h₀ L s.heap news) (T : Top hd.view_39 (looseW hd.view_39 []) mean mg mb h₀) (hk : cs.kind = .function)
    (hdp : dp + 2 < recursionLimit) (hun : un + 300 < cLine)
    (hs : Seen news sv sk) (h0 : 0 ≤ p + sk.getD st) (hx : x.length < 1000) (hy : y.length < 1000) (hy1 : 1 ≤ y.length)
    (hret : ∀ (c1 c2 : Addr) (n1 n2 : Nat) (t t' : Tok) (h' : Heap) (tk' : Nat), Fr h₀ L h' m → News h₀ L h' ((c1, ({ cls := .type "tuple", data := .seq [optV ((firstFrom x y (p + sk.getD st).toNat).map fun (k : Nat) => (k : Int) + y.length) t, .ref c2].toArray n1 } : Obj)) :: (c2, ({ cls := .type "tuple", data := .seq [.int ((if (x.length : Int) - y.length + 1 > p + sk.getD st then (x.length : Int) - y.length + 1 else p + sk.getD st) - p) t', .none].toArray n2 } : Obj)) :: news) → AllLt c1 news → AllLt c2 news → @LT.lt Nat _ c2 c1 → Q (.ref c1) { s with heap := h', toks := tk' }) :
    wpAny (model PySem.Challenge.rw_xm0648_01.row.prog w) (ktrTop dp un gd cn cs L a ccd cl outer) (call (.ref 35) [.str x tx, .str y ty, .int st ts, .int p tp, sv]) Q E s := by
  (revert X; k_fill; intro X)
  cases sk
  · have hs' : sv = .none := hs
    subst hs'
    refine wpAny_call ?_
    w_strict (k_dflt ktr_enter)
    w_strict k_steps
    (with_reducible rename News h₀ L _ _ => kN4)
    refine hret _ _ _ _ _ _ _ _ (by assumption) (by exact kN4) ?_ ?_ ?_
    all_goals first
      | ((rename (_ ∧ AllLt _ _) => hh); first | exact hh.2 | exact hh.1)
      | assumption
      | exact allLt_of (by assumption)
  · obtain ⟨c, t0, n0, rfl, hm⟩ := hs
    refine wpAny_call ?_
    w_strict (k_dflt ktr_enter)
    w_strict k_steps
    (with_reducible rename News h₀ L _ _ => kN4)
    refine hret _ _ _ _ _ _ _ _ (by assumption) (by exact kN4) ?_ ?_ ?_
    all_goals first
      | ((rename (_ ∧ AllLt _ _) => hh); first | exact hh.2 | exact hh.1)
      | assumption
      | exact allLt_of (by assumption)

end
end Mine

-- part PL2
namespace Mine
open PySem.Builtin PySem.Builtin.Str

def pre (x : PySem.Str) (n : Nat) : PySem.Str := ⟨(x.cps.toList.take n).toArray⟩
def suf (x : PySem.Str) (n : Nat) : PySem.Str := ⟨(x.cps.toList.drop n).toArray⟩
theorem len_toList (x : PySem.Str) : x.cps.toList.length = x.length := by simp [PySem.Str.length]
theorem pre_length (x : PySem.Str) (n : Nat) : (pre x n).length = min n x.length := by
  unfold pre PySem.Str.length; simp
theorem suf_length (x : PySem.Str) (n : Nat) : (suf x n).length = x.length - n := by
  unfold suf PySem.Str.length; simp
theorem pre_all (x : PySem.Str) : pre x x.length = x := by
  unfold pre
  rw [← len_toList, List.take_length]

theorem slice_to_max (x : PySem.Str) {j : Int} (h : (x.length : Int) ≤ j) : Txt.slice x none (some j) = Txt.slice x none (some (x.length : Int)) := by
  have e : strSliceIndices none (some j) 1 x.length = strSliceIndices none (some (x.length : Int)) 1 x.length := by
    unfold strSliceIndices
    simp only [show (1 : Int) > 0 by decide, if_true]
    rw [if_neg (by omega : ¬ j < 0), if_neg (by omega : ¬ (x.length : Int) < 0), Int.min_eq_right h, Int.min_self]
  unfold Txt.slice
  rw [e]
theorem slice_to (x : PySem.Str) {j : Int} (h : 0 ≤ j) : Txt.slice x none (some j) = pre x j.toNat := by
  by_cases hj : j ≤ x.length
  · show StrLaws.sliceText x none (some j) = _
    rw [StrLaws.sliceText_to ⟨h, by rw [len_toList]; exact hj⟩]
    simp [pre]
  · rw [slice_to_max x (by omega)]
    show StrLaws.sliceText x none (some (x.length : Int)) = _
    rw [StrLaws.sliceText_to ⟨by omega, by rw [len_toList]; omega⟩]
    unfold pre
    rw [List.take_of_length_le (i := j.toNat) (by rw [len_toList]; omega), List.drop_zero, List.take_of_length_le (by rw [len_toList]; omega)]
theorem slice_from (x : PySem.Str) {i : Int} (h : 0 ≤ i) (h2 : i ≤ x.length) : Txt.slice x (some i) none = suf x i.toNat := by
  show StrLaws.sliceText x (some i) none = _
  rw [StrLaws.sliceText_from ⟨h, by rw [len_toList]; exact h2⟩]
  unfold suf
  rw [List.take_of_length_le (by rw [List.length_drop, len_toList]; omega)]

theorem isAt_pre {x y : PySem.Str} {n : Nat} (hn : n ≤ x.length) (i : Nat) : isAt (pre x n) y i = (decide (i + y.length ≤ n) && isAt x y i) := by
  unfold isAt
  rw [pre_length, Nat.min_eq_left hn]
  by_cases h : i + y.length ≤ n
  · rw [decide_eq_true h, decide_eq_true (by omega : i + y.length ≤ x.length), Bool.true_and, Bool.true_and, Bool.true_and, StrLaws.subAt_eq, StrLaws.subAt_eq]
    unfold pre
    rw [List.drop_take, List.take_take, Nat.min_eq_left (by omega)]
  · rw [decide_eq_false h, Bool.false_and, Bool.false_and]

theorem firstFrom_none_iff {x y : PySem.Str} {lo : Nat} (hy : 1 ≤ y.length) : firstFrom x y lo = none ↔ ∀ i, lo ≤ i → isAt x y i = false := by
  constructor
  · intro h
    rcases firstFrom_cases x y lo hy with ⟨_, h'⟩ | ⟨i, e, _⟩
    · exact h'
    · rw [h] at e; cases e
  · exact firstFrom_none hy

/-- what was searched may be skipped -/
theorem firstFrom_skip {x y : PySem.Str} {lo b : Nat} (hy : 1 ≤ y.length) (hb : lo ≤ b) (h : ∀ i, lo ≤ i → i < b → isAt x y i = false) : firstFrom x y b = firstFrom x y lo := by
  rcases firstFrom_cases x y b hy with ⟨e, h'⟩ | ⟨i, e, h1, h2, h3⟩
  · rw [e, firstFrom_none hy]
    intro i hi
    by_cases hib : i < b
    · exact h i hi hib
    · exact h' i (by omega)
  · rw [e, firstFrom_some hy (by omega) h2]
    intro k hk hk2
    by_cases hkb : k < b
    · exact h k hk hkb
    · exact h3 k (by omega) hk2

/-- the place kept: no begin of the word lies before it -/
theorem unseen_from {x y : PySem.Str} {n lo b i : Nat} (hn : n ≤ x.length) (hy : 1 ≤ y.length) (hnone : firstFrom (pre x n) y lo = none) (hi : lo ≤ i) (hin : i < n)
    (hb : b ≤ lo ∨ b + y.length ≤ n + 1) (e : suf (pre x n) i = pre y (n - i)) : b ≤ i ∧ n + 1 ≤ i + y.length := by
  have hA := (firstFrom_none_iff hy).mp hnone i hi
  have hl : (suf (pre x n) i).length = (pre y (n - i)).length := by rw [e]
  rw [suf_length, pre_length, pre_length, Nat.min_eq_left hn] at hl
  have h2 : n + 1 ≤ i + y.length := by
    apply Decidable.byContradiction
    intro hc
    have hz : n - i = y.length := by omega
    have e2 : suf (pre x n) i = y := by rw [e, hz, pre_all]
    have : isAt (pre x n) y i = true := by
      unfold isAt
      rw [Bool.and_eq_true, decide_eq_true_eq, pre_length, Nat.min_eq_left hn]
      refine ⟨by omega, ?_⟩
      rw [StrLaws.subAt_eq, beq_iff_eq]
      have e3 : ((pre x n).cps.toList.drop i) = y.cps.toList := by
        have := congrArg (fun z : PySem.Str => z.cps.toList) e2
        simpa [suf] using this
      rw [e3, ← len_toList, List.take_length]
    rw [this] at hA; cases hA
  exact ⟨by omega, h2⟩

theorem foldl_filter (q : Int → Bool) : ∀ (zs l : List Int), zs.foldl (fun l k => if q k = true then l ++ [k] else l) l = l ++ zs.filter q
  | [], l => by simp
  | z :: zs, l => by
    rw [List.foldl_cons, foldl_filter q zs]
    by_cases h : q z = true
    · rw [if_pos h, List.filter_cons, if_pos h]; simp
    · rw [if_neg h, List.filter_cons, if_neg h]
end Mine

-- part M5
theorem Mine.fresh_M5 : True := by w_top off; exact True.intro
namespace Mine
open PySem.Calls PySem.Spec PyProof.Rows.LCg

local macro_rules | `(tactic| walk_at "binaryOp Mult int int") => `(tactic| (k_here; k_dflt (refine mul_int ?_ (mulOk_mod _ _))))
local macro_rules | `(tactic| units_room) => `(tactic| ((have hcL9 := cLine_is); (try simp only [units_in1, units_deeper, Around.mark_units, units_caller]); (try dsimp only [ktrTop]); omega))
local macro_rules | `(tactic| ktr_enter) => `(tactic| (refine' code_defC ?k1 ?k2 ?k3 ?k4 ?k5 ?kA ?kF ?kK ?k6 ?k7 ?k8 ?k9 ?kB ?kD ?_ ?c2 ?c3 ?c4; (case kA => exact rfl); (case kF => exact rfl); (case kK => assumption); (case k1 => k_asm); (case k2 => k_asm); (case k3 => k_asm); (case k4 => k_asm); (case k5 => k_asm); (case k6 => k_is); (case k7 => k_is); (case k8 => ktr_room); (case k9 => exact BindsTo.of_eq rfl); (case kB => exact rfl); (case kD => decide +kernel); (case c2 => exact rfl); (case c3 => exact rfl); (case c4 => exact rfl); k_whole; intro g' L' h' tk' cells' FG' F' N' Y' B' X' T' l1; (try k_lt l1); k_cells Y'; (try simp only [List.cons_append, List.nil_append] at N'); (try dsimp only); (try k_lift B'); (try k_fold)))
local macro_rules | `(tactic| ktr_enter) => `(tactic| (refine' code_def ?k1 ?k2 ?k3 ?k4 ?k5 ?kA ?kF ?kK ?k6 ?k7 ?k8 ?k9 ?kB ?_ ?c2 ?c3 ?c4 ?c5; (case kA => exact rfl); (case kF => exact rfl); (case kK => assumption); (case k1 => k_asm); (case k2 => k_asm); (case k3 => k_asm); (case k4 => k_asm); (case k5 => k_asm); (case k6 => k_is); (case k7 => k_is); (case k8 => ktr_room); (case k9 => exact BindsTo.of_eq rfl); (case c5 => decide); (case kB => exact locs rfl); (case c2 => exact rfl); (case c3 => exact rfl); (case c4 => exact rfl); k_whole; intro g' L' h' FG' F' N' B' X' T'; (try dsimp only); (try k_lift B'); (try k_fold)))
local macro_rules | `(tactic| walk_at "call builtin:len") => `(tactic| (k_here; (with_reducible show wpAny _ _ (call (Value.builtin "len") [Value.ref _]) _ _ _); k_dflt (refine' len_list ?k1 ?k2 ?_; (case k1 => exact News.isList (N := by k_asm) (by k_mem)); (case k2 => ((try simp only [List.size_toArray]); omega)); k_whole); (try simp only [List.size_toArray])))
local macro_rules | `(tactic| k_all) => `(tactic| assumption)
local macro_rules | `(tactic| k_mem) => `(tactic| (first | assumption | exact List.Mem.head _ | (refine' List.Mem.tail _ ?_; k_mem)))
local macro_rules | `(tactic| walk_at "subscriptTail Name BinOp str int") => `(tactic| (k_here; (with_reducible show wpAny _ _ (subscriptTail _ _ (Value.str _ _) (Value.int _ _)) _ _ _); k_dflt (refine' str_at ?k1 ?k2 ?k3 ?_ ?k4 ?k5; (case k1 => omega); (case k2 => omega); (case k3 => omega); (case k4 => with_unfolding_all rfl); (case k5 => intro _; with_unfolding_all rfl); k_whole)))
local macro_rules | `(tactic| walk_at "subscriptTail Name Name str int") => `(tactic| (k_here; (with_reducible show wpAny _ _ (subscriptTail _ _ (Value.str _ _) (Value.int _ _)) _ _ _); k_dflt (refine' str_at ?k1 ?k2 ?k3 ?_ ?k4 ?k5; (case k1 => omega); (case k2 => omega); (case k3 => omega); (case k4 => with_unfolding_all rfl); (case k5 => intro _; with_unfolding_all rfl); k_whole)))
local macro_rules | `(tactic| walk_at "exec Assign cons ListComp") => `(tactic| (k_here; k_dflt (first | refine LCt.Assign_ListComp_T (F₀ := by k_asm) (by rfl) (by with_unfolding_all rfl) (by with_unfolding_all rfl) (by decide) (by rfl) (by decide) (by rfl) (by rfl) (by rfl) ?_ | refine LCg.Assign_ListComp_U (F₀ := by k_asm) (by rfl) (by with_unfolding_all rfl) (by with_unfolding_all rfl) (by decide) (by rfl) (by decide) (by rfl) (by rfl) (by rfl) ?_)))
local macro_rules | `(tactic| walk_at "eval ListComp") => `(tactic| (k_here; k_dflt (first | refine LCt.ListComp_T (F₀ := by k_asm) (by with_unfolding_all rfl) (by decide) (by rfl) (by decide) (by rfl) ?_ | refine LCg.ListComp_U (F₀ := by k_asm) (by with_unfolding_all rfl) (by decide) (by rfl) (by decide) (by rfl) ?_)))

section
variable {prog : Program} {w : World} {A : Around} {E : Value → Shared → Prop} {s : Shared} {value slice : PySem.Expr} {x : PySem.Str} {t : Tok} {h₀ : Heap} {L : Addr} {m : PySem.Str → Option Value} {news : List (Addr × Obj)} {Q : Value → Shared → Prop}
theorem sl_to {j : Int} {uj : Tok} (hF : Fr h₀ L s.heap m) (hN : News h₀ L s.heap news) (hj : 0 ≤ j) (h : ∀ h' t' k, Fr h₀ L h' m → News h₀ L h' news → Q (.str (pre x j.toNat) t') { s with heap := h', toks := k })
    (hs : subscripted slice false (.str x t) (.ref s.heap.objs.size) = operate [.ref s.heap.objs.size, .str x t] (getItem (.str x t) (.ref s.heap.objs.size)) := by with_unfolding_all rfl)
    (ht : ∀ r, letTemporaryGo value (.str x t) r = pure () := by intro _; with_unfolding_all rfl) (hsz : x.length ≤ sizeLine := by size_fits) :
    wpAny (model prog w) A (subscriptTail value slice (.str x t) (.ref s.heap.objs.size)) Q E { s with heap := s.heap.push { cls := .type "slice", data := .fields #[.none, .int j uj, .none] } } :=
  slice_strN_ns hF hN (fun h' t' k F N => by rw [slice_to x hj]; exact h h' t' k F N) hs ht hsz
theorem sl_from {i : Int} {ui : Tok} (hF : Fr h₀ L s.heap m) (hN : News h₀ L s.heap news) (hi : 0 ≤ i) (hi2 : i ≤ x.length) (h : ∀ h' t' k, Fr h₀ L h' m → News h₀ L h' news → Q (.str (suf x i.toNat) t') { s with heap := h', toks := k })
    (hs : subscripted slice false (.str x t) (.ref s.heap.objs.size) = operate [.ref s.heap.objs.size, .str x t] (getItem (.str x t) (.ref s.heap.objs.size)) := by with_unfolding_all rfl)
    (ht : ∀ r, letTemporaryGo value (.str x t) r = pure () := by intro _; with_unfolding_all rfl) (hsz : x.length ≤ sizeLine := by size_fits) :
    wpAny (model prog w) A (subscriptTail value slice (.str x t) (.ref s.heap.objs.size)) Q E { s with heap := s.heap.push { cls := .type "slice", data := .fields #[.int i ui, .none, .none] } } :=
  slice_strN_sn hF hN (fun h' t' k F N => by rw [slice_from x hi hi2]; exact h h' t' k F N) hs ht hsz
theorem ne_opt {Q : Value → Shared → Prop} {o o' : Option Int} {u u' : Tok} (e : o = o') (h : Q (.bool false) s) : wpAny (model prog w) A (compareOp .NotEq (optV o u) (optV o' u')) Q E s := by
  subst e
  cases o with
  | none => exact EqNone.ne_none_none h
  | some i => exact ne_int (by simpa using h)
theorem isnot_opt {Q : Value → Shared → Prop} {o : Option Int} {u : Tok} (h : Q (.bool o.isSome) s) : wpAny (model prog w) A (compareOp .IsNot (optV o u) .none) Q E s := by
  cases o with
  | none => exact isnot_none_none h
  | some i => exact isnot_int_none h
end
theorem Seen.mono {l l' : List (Addr × Obj)} {v : Value} {k : Option Int} (h : Seen l v k) (hs : ∀ p ∈ l, p ∈ l') : Seen l' v k := by
  cases k with
  | none => exact h
  | some i => obtain ⟨c, t, n, e, hm⟩ := h; exact ⟨c, t, n, e, hs _ hm⟩

section
variable {prog : Program} {w : World} {A : Around} {E : Value → Shared → Prop} {h₀ : Heap} {env : Env} {x : PySem.Str} {body : List Stmt} {Q : Flow → Shared → Prop} {s : Shared} {I : Addr} {lp : Addr × Obj}
theorem listRest_ind (J : List Value → (PySem.Str → Option Value) → List (Addr × Obj) → Prop)
    (step : ∀ v r m news it h tk, J (v :: r) m news → it.cls = .type "list_iterator" → Fr h₀ env.locals h (fun y => if y = x then some v else m y) → News h₀ env.locals h ((I, it) :: news) →
      wpAny (model prog w) A (execs body env) (UnrPost h₀ env.locals { s with heap := h, toks := tk } I it (fun m' n' => lp ∈ n' ∧ J r m' n') Q) E { s with heap := h, toks := tk })
    (done : ∀ m news h tk, J [] m news → Fr h₀ env.locals h m → News h₀ env.locals h news → Q .next { s with heap := h, toks := tk }) :
    ∀ vs m news, J vs m news → ListRest prog w A E h₀ env x body Q s I lp vs m news
  | [], m, news, j => ListRest.zero fun h tk F N => done m news h tk j F N
  | v :: r, m, news, j => ListRest.succ fun it h tk hc F N => wpAny_mono (step v r m news it h tk j hc F N) (fun f s₂ hq => by
      have fin : UnrEnd h₀ env.locals { s with heap := h, toks := tk } I it (fun m' n' => lp ∈ n' ∧ J r m' n') s₂ → UnrEnd h₀ env.locals { s with heap := h, toks := tk } I it (fun m' n' => lp ∈ n' ∧ ListRest prog w A E h₀ env x body Q s I lp r m' n') s₂ := by
        rintro ⟨h', tk', m', n', e, F', N', off, hm, hj⟩
        exact ⟨h', tk', m', n', e, F', N', off, hm, listRest_ind J step done r m' n' hj⟩
      cases f with
      | ret v => exact hq
      | brk => exact hq
      | next => exact fin hq
      | cont => exact fin hq) fun _ _ e => e
end
theorem grows_filter (q : Int → Bool) : KPfGrows (fun l k => if q k = true then l ++ [k] else l) := by
  intro l k
  dsimp only
  split <;> simp
theorem far_facts (P y b p : Int) : b ≤ p + ((if P - y + 1 > b then P - y + 1 else b) - p) ∧ (p + ((if P - y + 1 > b then P - y + 1 else b) - p) = b ∨ p + ((if P - y + 1 > b then P - y + 1 else b) - p) = P - y + 1) := by
  split <;> omega
def canon (sv : Value) (x : PySem.Str) (tx : Tok) (st : Int) (ts : Tok) (jm : PySem.Str → Option Value) : PySem.Str → Option Value :=
  fun z => if z = Str.ofString "kept" then some sv else if z = Str.ofString "text" then some (.str x tx) else if z = Str.ofString "start" then some (.int st ts) else jm z
theorem canon_of {M : PySem.Str → Option Value} {sv : Value} {x : PySem.Str} {tx : Tok} {st : Int} {ts : Tok} (h1 : M (Str.ofString "kept") = some sv) (h2 : M (Str.ofString "text") = some (.str x tx)) (h3 : M (Str.ofString "start") = some (.int st ts)) : M = canon sv x tx st ts M := by
  funext z
  unfold canon
  split
  · rename_i e; rw [e, h1]
  · split
    · rename_i e; rw [e, h2]
    · split
      · rename_i e; rw [e, h3]
      · rfl
/-- what holds between the turns -/
def LedJ (x y : PySem.Str) (p st : Int) (tx ts : Tok) (cF cP cA cW : Addr) (oA oW : Obj) (rest : List (Addr × Obj)) (vs : List Value) (m : PySem.Str → Option Value) (l : List (Addr × Obj)) : Prop :=
  ∃ ns sk sv cx ox jm oF oP vF vP, IntsAre vs ns ∧ ns.Pairwise (· ≤ ·) ∧ (∀ n ∈ ns, p + st ≤ n ∧ n ≤ x.length) ∧ m = canon sv x tx st ts jm ∧ l = (cx, ox) :: (cF, oF) :: (cP, oP) :: (cA, oA) :: (cW, oW) :: rest ∧
    Seen [(cx, ox)] sv sk ∧ oF.data = .cell vF ∧ oP.data = .cell vP ∧ ((@Ne Nat cx cF) ∧ (@Ne Nat cx cP)) ∧
    p + st ≤ p + sk.getD st ∧ (∀ n ∈ ns, p + sk.getD st ≤ p + st ∨ p + sk.getD st + y.length ≤ n + 1) ∧ (∀ i : Nat, p + st ≤ i → (i : Int) < p + sk.getD st → isAt x y i = false)
local macro_rules | `(tactic| walk_at "subscriptTail Name Slice str ref") => `(tactic| (k_here; (with_reducible show wpAny _ _ (subscriptTail _ (Expr.Slice none (some _) none _) _ _) _ _ _); (with_reducible rename Fr _ _ _ _ => F'); (with_reducible rename News _ _ _ _ => N'); (refine sl_to (hsz := ?hsz) (s := ⟨_, _, _, _, _⟩) F' N' ?hj ?_); (case hsz => (rw [sizeLine_eq]; omega)); (case hj => omega); intro _ _ _ _ _))
local macro_rules | `(tactic| walk_at "subscriptTail Name Slice str ref") => `(tactic| (k_here; (with_reducible show wpAny _ _ (subscriptTail _ (Expr.Slice (some _) none none _) _ _) _ _ _); (with_reducible rename Fr _ _ _ _ => F'); (with_reducible rename News _ _ _ _ => N'); (refine sl_from (hsz := ?hsz) (s := ⟨_, _, _, _, _⟩) F' N' ?hj ?hk ?_); (case hsz => (rw [sizeLine_eq]; omega)); (case hj => omega); (case hk => omega); intro _ _ _ _ _))
local macro_rules | `(tactic| walk_at "call ref") => `(tactic| (k_here; (with_reducible show wpAny _ _ (call (Value.ref 35) _) _ _ _); k_dflt (refine' found_ok ?k1 ?k2 ?k3 ?k4 ?k5 ?kK ?kd ?ku ?u1 ?u2 ?u3 ?u4 ?u5 ?_; (case k1 => k_asm); (case k2 => k_asm); (case k3 => k_asm); (case k4 => k_asm); (case k5 => k_asm); (case kK => first | exact rfl | assumption); (case kd => ktr_room); (case ku => units_room); (case u1 => exact Seen.mono (by assumption) (by kcf_all)); (case u2 => omega); (case u3 => omega); (case u4 => omega); (case u5 => omega); intro c91 c92 n91 n92 t91 t92 h9 tk9 F9 N9 hl91 hl92 hl93; (try simp only [AllLt, and_true] at hl91 hl92); (try k_fold))))
local macro_rules | `(tactic| walk_at "call ref") => `(tactic| (k_here; (with_reducible show wpAny _ _ (call (Value.ref 80) _) _ _ _); k_dflt (refine' law_behind_ok ?k1 ?k2 ?k3 ?k4 ?k5 ?kK ?kd ?ku ?u1 ?u2 ?u3 ?u4 ?u5 ?_; (case k1 => k_asm); (case k2 => k_asm); (case k3 => k_asm); (case k4 => k_asm); (case k5 => k_asm); (case kK => first | exact rfl | assumption); (case kd => ktr_room); (case ku => units_room); (case u1 => omega); (case u2 => omega); (case u3 => omega); (case u4 => omega); (case u5 => omega); intro t9 h9 tk9 F9 N9; (try k_fold))))
section
variable {w : World} {mean : ExcName → Option Value} {mg mb : Str → Option Value} {dp un : Nat} {gd : Option (List Code)} {cn : Str} {cs : Scope} {a : Addr} {ccd : Value} {cl : List (Str × Addr)} {outer : List Env} {A₀ : Around} {base h₀ : Heap} {L : Addr} {m : Str → Option Value} {s : Shared} {Q E : Value → Shared → Prop} {news : List (Addr × Obj)}
theorem led_ok {x y : Str} {st p : Int} {tx ty ts tp : Tok} {sl : Addr} {vs : List Value} {ns : List Int} {n0 : Nat}
    (B : Below A₀ base outer h₀) (F : Fr h₀ L s.heap m) (X : (hd.heap_39 w.params).In h₀) (N : News h₀ L s.heap news) (T : Top hd.view_39 (looseW hd.view_39 []) mean mg mb h₀) (hk : cs.kind = .function)
    (hdp : dp + 4 < recursionLimit) (hun : un + 500 < cLine)
    (h0 : 0 ≤ p) (h1 : 0 ≤ st) (hx : x.length < 1000) (hy : y.length < 1000) (hy1 : 1 ≤ y.length) (hi : IntsAre vs ns) (hm : (sl, listOf vs.toArray n0) ∈ news) (hso : ns.Pairwise (· ≤ ·)) (hb : ∀ n ∈ ns, p + st ≤ n ∧ n ≤ x.length)
    (hret : ∀ (t : Tok) (h' : Heap) (tk' : Nat), Fr h₀ L h' m → News h₀ L h' news → Q (.bool true) { s with heap := h', toks := tk' }) :
    wpAny (model PySem.Challenge.rw_xm0648_01.row.prog w) (ktrTop dp un gd cn cs L a ccd cl outer) (call (.ref 85) [.str x tx, .str y ty, .int p tp, .int st ts, .ref sl]) Q E s := by
  (revert X; k_fill; intro X)
  refine wpAny_call ?_
  w_strict (k_dflt ktr_enter)
  w_strict (repeat' ((fail_if_success (with_reducible show wpAny _ _ (exec (PySem.Stmt.For _ _ _ _ _) _) _ _ _)); (first | (k_unfold; (try dsimp only)) | (k_end; wrow_close) | walk1 | (dsimp only; walk1) | (leave1; try dsimp only) | fail "no step")))
  rename_i g9 L9 h9 tk9 FG9 B9 X9 T9 hlt9 oF oP oA oW dF dP dA dW h8 F8 N8
  replace dA : oA.data = .cell (some (.int p tp)) := dA
  replace dW : oW.data = .cell (some (.str y ty)) := dW
  replace N8 := news_sub (l' := (sl, listOf vs.toArray n0) :: (L9 + 1 + 1 + 1 + 1, oF) :: (L9 + 1 + 1 + 1, oP) :: (L9 + 1 + 1, oA) :: (L9 + 1, oW) :: news) N8 (by
    intro q hq
    rcases List.mem_cons.mp hq with rfl | hq
    · exact List.mem_cons_of_mem _ (List.mem_cons_of_mem _ (List.mem_cons_of_mem _ (List.mem_cons_of_mem _ hm)))
    · exact hq)
  have hslL : @LT.lt Nat _ sl L9 := hlt9 _ hm
  have hN3 : ∀ q ∈ news, q.1 ≠ L9 + 1 + 1 + 1 := fun q hq => by have := hlt9 q hq; show @Ne Nat q.1 (L9 + 1 + 1 + 1); have t : @LT.lt Nat _ q.1 L9 := this; omega
  have hN4 : ∀ q ∈ news, q.1 ≠ L9 + 1 + 1 + 1 + 1 := fun q hq => by have := hlt9 q hq; show @Ne Nat q.1 (L9 + 1 + 1 + 1 + 1); have t : @LT.lt Nat _ q.1 L9 := this; omega
  k_dflt (refine For_invVF F8 rfl rfl ?_)
  w_strict (repeat' ((fail_if_success (with_reducible show wpAny _ _ (pyIter _) _ _ _)); (first | (k_unfold; (try dsimp only)) | (k_end; wrow_close) | walk1 | (dsimp only; walk1) | (leave1; try dsimp only) | fail "no step")))
  k_dflt (refine iter_listUnr (lo := listOf vs.toArray n0) (vs := vs) rfl F8 N8 (List.mem_cons_self) rfl rfl ?_)
  intro I hI
  have hI9 : @LT.lt Nat _ (L9 + 1 + 1 + 1 + 1) I := hI (L9 + 1 + 1 + 1 + 1, oF) (List.mem_cons_of_mem _ List.mem_cons_self)
  k_dflt (refine listRest_ind (LedJ x y p st tx ts (L9 + 1 + 1 + 1 + 1) (L9 + 1 + 1 + 1) (L9 + 1 + 1) (L9 + 1) oA oW news) ?step ?done vs _ _ ?start)
  case start =>
    exact ⟨ns, none, .none, sl, listOf vs.toArray n0, _, oF, oP, _, _, hi, hso, hb, canon_of rfl rfl rfl, rfl, rfl, dF, dP, ⟨by omega, by omega⟩, Int.le_refl _, fun n _ => .inl (Int.le_refl _), fun i ha hb' => absurd hb' (by show ¬ (i : Int) < p + st; omega)⟩
  case done =>
    rintro m9 l9 h3 tk3 ⟨ns9, sk, sv, cx, ox, jm, oF9, oP9, vF, vP, _, _, _, rfl, rfl, _⟩ F3 N3
    w_strict k_steps
    exact cb_retB (Q := Q) hret rfl (by assumption) (by (refine' cb_drop ?cbN ?cbS; (case cbN => assumption); (case cbS => kcj_all)))
  case step =>
    rintro v r m9 l9 it h3 tk3 ⟨ns9, sk, sv, cx, ox, jm, oF9, oP9, vF, vP, hi9, hso9, hb9, rfl, rfl, hS9, dF9, dP9, ⟨hc1, hc2⟩, hj1, hj2, hj3⟩ hit F3 N3
    clear dF dP F8 N8 hI hb hi hso
    cases hi9 with
    | cons n t hi9 =>
    have hn9 := hb9 n List.mem_cons_self
    have hPl : (pre x n.toNat).length = n.toNat := by rw [pre_length]; omega
    have hEq : (firstFrom (pre x n.toNat) y (p + sk.getD st).toNat).map (fun (k : Nat) => (k : Int) + y.length) = (firstFrom (pre x n.toNat) y (p + st).toNat).map (fun (k : Nat) => (k : Int) + y.length) := by
      rw [firstFrom_skip (lo := (p + st).toNat) (b := (p + sk.getD st).toNat) hy1 (by omega)]
      intro i ha hb'
      rw [isAt_pre (by omega), hj3 i (by omega) (by omega), Bool.and_false]
    unfold canon at F3
    w_strict (repeat' ((fail_if_success (with_reducible show wpAny _ _ (compareOp CmpOp.NotEq (optV _ _) _) _ _ _)); (first | (k_unfold; (try dsimp only)) | (k_end; wrow_close) | walk1 | (dsimp only; walk1) | (leave1; try dsimp only) | fail "no step")))
    rename_i oP8 dP8 c1 c2 n1 n2 u1 u2 hq1 tq1 hlc1 hlc2 hlc3 qk8 ek8 hq2 hq3 hq4 Fq Nq tq hq5 tkq Fq2 Nq2
    refine ne_opt hEq ?_
    w_strict (repeat' ((fail_if_success (with_reducible show wpAny _ _ (compareOp CmpOp.IsNot (optV _ _) _) _ _ _)); (first | (k_unfold; (try dsimp only)) | (k_end; wrow_close) | walk1 | (dsimp only; walk1) | (leave1; try dsimp only) | fail "no step")))
    refine isnot_opt ?_
    w_strict (repeat' ((fail_if_success (with_reducible show LCt.CompSrcT _ _ _ _ _ _ _ _ _ _ _ _ _ _ _)); (first | (k_unfold; (try dsimp only)) | (k_end; wrow_close) | walk1 | (dsimp only; walk1) | (leave1; try dsimp only) | fail "no step")))
    · exact cb_retB (Q := Q) hret rfl (by assumption) (by (refine' cb_drop ?cbN ?cbS; (case cbN => assumption); (case cbS => kcj_all)))
    (rename Option.isSome _ = false => hsm)
    rename_i hw0 hw1 oF8 dF8 hw2 Fw Nw hw3 tkw uw1 uw2 uw3 hrg hfr hnw hkp
    have hnone : firstFrom (pre x n.toNat) y (p + st).toNat = none := by
      rw [hEq] at hsm
      cases e : firstFrom (pre x n.toNat) y (p + st).toNat with
      | none => rfl
      | some k => rw [e] at hsm; cases hsm
    k_dflt (refine LCt.CompSrcT.range (n := (n - (p + st)).toNat) (by rfl) (by k_asm) (by k_asm) (by assumption) (small_one (by omega) (by omega) (by omega) (by omega)) (by rw [rangeSize_one]; omega) (by rw [sizeLine_eq]; omega) ?_)
    intro g7
    refine kci_range (fun l k => if (fun k : Int => suf (pre x n.toNat) k.toNat == pre y (((pre x n.toNat).length : Int) - k).toNat) k = true then l ++ [k] else l) ?turn ?fin ?grow
    case grow => exact grows_filter _
    case turn =>
      intro k t2 I2 oI C oC D m₂ ys l h tk E' hlo hhi hys hC hx9 F9 N9 off9 ne9 mk9
      w_strict k_steps
      · refine LCg.CompEnd.intro (by assumption) (by assumption) _ (by kcf_all) off9 trivial ?_
        exact ⟨rfl, _, _, rfl, by rw [if_pos (by assumption)]⟩
      · refine LCg.CompEnd.intro (by assumption) (by assumption) _ (by kcf_all) off9 trivial ?_
        (rename (_ == _) = false => hh)
        exact ⟨rfl, by rw [if_neg (by rw [hh]; exact Bool.false_ne_true)]⟩
    case fin =>
      unfold KPfDone
      rw [foldl_filter, List.nil_append]
      intro ys hys hlen
      unfold LCg.FinA
      intro D h7 tk7 F7 N7 off7
      w_strict (repeat' ((fail_if_success (with_reducible show LCt.CompSrcT _ _ _ _ _ _ _ _ _ _ _ _ _ _ _)); (first | (k_unfold; (try dsimp only)) | (k_end; wrow_close) | walk1 | (dsimp only; walk1) | (leave1; try dsimp only) | fail "no step")))
      k_dflt (refine LCt.CompSrcT.ledger (its := ys.toArray) (by rfl) (by k_asm) (by k_asm) (by k_mem) (by rw [sizeLine_eq, List.size_toArray]; omega) ?_)
      intro g6
      refine kci_list (fun l k => if (fun k : Int => decide (k < p + ((if (((pre x n.toNat).length : Nat) : Int) - y.length + 1 > p + sk.getD st then (((pre x n.toNat).length : Nat) : Int) - y.length + 1 else p + sk.getD st) - p))) k = true then l ++ [k] else l) hys ?turn2 ?fin2 ?grow2
      case grow2 => exact grows_filter _
      case turn2 =>
        intro k t2 I2 oI C oC D2 m₂ ys2 l h tk E' hmem hys2 hC hx9 F9 N9 off9 ne9 mk9
        w_strict k_steps
        · refine LCg.CompEnd.intro (by assumption) (by assumption) _ (by kcf_all) off9 (by first | lcg_src | assumption) ?_
          exact ⟨rfl, _, _, rfl, by rw [if_pos (by exact decide_eq_true (by assumption))]⟩
        · refine LCg.CompEnd.intro (by assumption) (by assumption) _ (by kcf_all) off9 (by first | lcg_src | assumption) ?_
          exact ⟨rfl, by rw [if_neg (fun hq => absurd (of_decide_eq_true hq) (by assumption))]⟩
      case fin2 =>
        unfold KPfDone
        rw [foldl_filter, List.nil_append]
        intro ys2 hys2 hlen2
        have hz : ((rangeKs (p + st) (n - (p + st)).toNat).filter (fun k : Int => suf (pre x n.toNat) k.toNat == pre y (((pre x n.toNat).length : Int) - k).toNat)).filter (fun k : Int => decide (k < p + ((if (((pre x n.toNat).length : Nat) : Int) - y.length + 1 > p + sk.getD st then (((pre x n.toNat).length : Nat) : Int) - y.length + 1 else p + sk.getD st) - p))) = [] := by
          rw [List.filter_eq_nil_iff]
          intro k hk
          rw [List.mem_filter] at hk
          obtain ⟨hk1, hk2⟩ := hk
          have hk3 := mem_rangeKs hk1
          have hk4 : suf (pre x n.toNat) k.toNat = pre y (n.toNat - k.toNat) := by
            have := eq_of_beq hk2
            rw [this]
            congr 1
            omega
          have hk5 := unseen_from (n := n.toNat) (lo := (p + st).toNat) (b := (p + sk.getD st).toNat) (i := k.toNat) (by omega) hy1 hnone (by omega) (by omega) (by rcases hj2 n List.mem_cons_self with hh | hh <;> omega) hk4
          intro hk6
          have hk7 := of_decide_eq_true hk6
          split at hk7 <;> omega
        rw [hz] at hys2
        cases hys2
        unfold LCg.FinE
        intro D2 h5 tk5 F5 N5 off5
        w_strict (repeat' ((fail_if_success (with_reducible show UnrEnd _ _ _ _ _ _ _)); (first | (k_unfold; (try dsimp only)) | (k_end; wrow_close) | walk1 | (dsimp only; walk1) | (leave1; try dsimp only) | fail "no step")))
        refine UnrEnd.intro (by assumption) (by assumption) ((c2, ({ cls := .type "tuple", data := .seq [.int ((if (((pre x n.toNat).length : Nat) : Int) - y.length + 1 > p + sk.getD st then (((pre x n.toNat).length : Nat) : Int) - y.length + 1 else p + sk.getD st) - p) u2, .none].toArray n2 } : Obj)) :: (L9 + 1 + 1 + 1 + 1, oF8) :: (L9 + 1 + 1 + 1, oP8) :: (L9 + 1 + 1, oA) :: (L9 + 1, oW) :: news) (by kcf_all) ?off ⟨?mem, ?J⟩
        case mem => exact List.mem_cons_of_mem _ (List.mem_cons_of_mem _ (List.mem_cons_of_mem _ (List.mem_cons_of_mem _ (List.mem_cons_of_mem _ hm))))
        case off =>
          intro q hq
          show @Ne Nat q.1 I
          rcases List.mem_cons.mp hq with rfl | hq
          · show @Ne Nat c2 I; omega
          rcases List.mem_cons.mp hq with rfl | hq
          · show @Ne Nat (L9 + 1 + 1 + 1 + 1) I; omega
          rcases List.mem_cons.mp hq with rfl | hq
          · show @Ne Nat (L9 + 1 + 1 + 1) I; omega
          rcases List.mem_cons.mp hq with rfl | hq
          · show @Ne Nat (L9 + 1 + 1) I; omega
          rcases List.mem_cons.mp hq with rfl | hq
          · show @Ne Nat (L9 + 1) I; omega
          have hqq : @LT.lt Nat _ q.1 L9 := hlt9 q hq
          omega
        case J =>
          refine ⟨_, some _, .ref c2, c2, _, _, oF8, oP8, _, _, hi9, (List.pairwise_cons.mp hso9).2, fun mm hmm => hb9 mm (List.mem_cons_of_mem _ hmm), canon_of rfl rfl rfl, rfl, ⟨c2, u2, n2, rfl, List.mem_singleton.mpr rfl⟩, dF8, dP8, ⟨by omega, by omega⟩, ?i1, ?i2, ?i3⟩
          case i1 =>
            have hF := far_facts (((pre x n.toNat).length : Nat) : Int) y.length (p + sk.getD st) p
            change p + st ≤ p + ((if (((pre x n.toNat).length : Nat) : Int) - y.length + 1 > p + sk.getD st then (((pre x n.toNat).length : Nat) : Int) - y.length + 1 else p + sk.getD st) - p)
            omega
          case i2 =>
            intro mm hmm
            have h5 := (List.pairwise_cons.mp hso9).1 mm hmm
            have h6 := hj2 mm (List.mem_cons_of_mem _ hmm)
            have hF := far_facts (((pre x n.toNat).length : Nat) : Int) y.length (p + sk.getD st) p
            change p + ((if (((pre x n.toNat).length : Nat) : Int) - y.length + 1 > p + sk.getD st then (((pre x n.toNat).length : Nat) : Int) - y.length + 1 else p + sk.getD st) - p) ≤ p + st ∨ p + ((if (((pre x n.toNat).length : Nat) : Int) - y.length + 1 > p + sk.getD st then (((pre x n.toNat).length : Nat) : Int) - y.length + 1 else p + sk.getD st) - p) + y.length ≤ mm + 1
            omega
          case i3 =>
            intro i ha hb'
            have hb2 : (i : Int) < p + ((if (((pre x n.toNat).length : Nat) : Int) - y.length + 1 > p + sk.getD st then (((pre x n.toNat).length : Nat) : Int) - y.length + 1 else p + sk.getD st) - p) := hb'
            by_cases hib : (i : Int) < p + sk.getD st
            · exact hj3 i ha hib
            · have hA := (firstFrom_none_iff hy1).mp hnone i (by omega)
              rw [isAt_pre (by omega)] at hA
              have hl : i + y.length ≤ n.toNat := by split at hb2 <;> omega
              rw [decide_eq_true hl, Bool.true_and] at hA
              exact hA

end
end Mine

-- part D1
namespace Mine
open PySem.Calls PySem.Spec PyProof.Rows.LCg
theorem news_tl {h₀ h : Heap} {L : Addr} {p : Addr × Obj} {l : List (Addr × Obj)} (N : News h₀ L h (p :: l)) : News h₀ L h l := fun q hq => N q (List.mem_cons_of_mem _ hq)
def AllS (P : PySem.Str → Prop) : List Value → Prop
  | [] => True
  | .str z _ :: r => P z ∧ AllS P r
  | _ => False
theorem AllS.mem {P : PySem.Str → Prop} : ∀ {l : List Value}, AllS P l → ∀ v ∈ l, ∃ z t, v = .str z t ∧ P z
  | [], _, _, hv => nomatch hv
  | .str z t :: r, h, v, hv => by
    rcases List.mem_cons.mp hv with rfl | hv
    · exact ⟨z, t, rfl, h.1⟩
    · exact AllS.mem h.2 v hv
theorem strs_of {P : PySem.Str → Prop} : ∀ {vs : List Value}, (∀ v ∈ vs, ∃ z t, v = .str z t ∧ P z) → ∃ ys, StrsAre vs ys ∧ ∀ z ∈ ys, P z
  | [], _ => ⟨[], .nil, fun _ h => nomatch h⟩
  | v :: r, h => by
    obtain ⟨z, t, rfl, hz⟩ := h _ List.mem_cons_self
    obtain ⟨ys, h1, h2⟩ := strs_of (vs := r) fun u hu => h u (List.mem_cons_of_mem _ hu)
    exact ⟨z :: ys, .cons z t h1, fun q hq => by exact (List.mem_cons.mp hq).elim (fun e => e ▸ hz) (h2 q)⟩
theorem ints_of {P : Int → Prop} : ∀ {vs : List Value}, (∀ v ∈ vs, ∃ z t, v = .int z t ∧ P z) → ∃ ns, IntsAre vs ns ∧ ∀ z ∈ ns, P z
  | [], _ => ⟨[], .nil, fun _ h => nomatch h⟩
  | v :: r, h => by
    obtain ⟨z, t, rfl, hz⟩ := h _ List.mem_cons_self
    obtain ⟨ys, h1, h2⟩ := ints_of (vs := r) fun u hu => h u (List.mem_cons_of_mem _ hu)
    exact ⟨z :: ys, .cons z t h1, fun q hq => by exact (List.mem_cons.mp hq).elim (fun e => e ▸ hz) (h2 q)⟩
theorem strsAre_len {vs : List Value} {ys : List PySem.Str} (h : StrsAre vs ys) : vs.length = ys.length := by
  induction h with
  | nil => rfl
  | cons _ _ _ ih => simp [ih]
theorem sum_le3 : ∀ {ys : List PySem.Str}, (∀ z ∈ ys, z.length ≤ 3) → (ys.map (·.length)).sum ≤ 3 * ys.length
  | [], _ => by simp
  | y :: r, h => by
    have h1 := h y List.mem_cons_self
    have h2 := sum_le3 (ys := r) fun z hz => h z (List.mem_cons_of_mem _ hz)
    simp only [List.map_cons, List.sum_cons, List.length_cons]
    omega
theorem empty_len : (PySem.Str.ofString "").length = 0 := by decide +kernel
theorem join_len {ys : List PySem.Str} (h : ∀ z ∈ ys, z.length ≤ 3) : (Txt.join (PySem.Str.ofString "") ys).length ≤ 3 * ys.length := by
  show (Builtin.Str.glued _ _).length ≤ _
  rw [StrLaws.glued_eq_join]
  cases ys with
  | nil => exact Nat.zero_le _
  | cons y r =>
    rw [len_join_cons, empty_len, Nat.mul_zero, Nat.add_zero]
    exact sum_le3 h
theorem updF_self {d : Addr} {o : Obj} {l : List (Addr × Obj)} {g : Obj → List (Addr × Obj)} (U : UpdF d o l g) : g o = l := by
  obtain ⟨pre, post, rfl, hg, _, _⟩ := U.split
  exact hg o
section
variable {prog : Program} {w : World} {A : Around} {h₀ : Heap} {L : Addr} {m : PySem.Str → Option Value} {env : Env} {elt : PySem.Expr} {x : PySem.Str} {scope : Scope} {cl : List (PySem.Str × Addr)} {s : Shared} {P : Nat → Value → Prop} {Fin : List Value → List (Addr × Obj) → Prop} {news : List (Addr × Obj)}
theorem comp_draw {n : Nat} {src : Addr} {g r : Int} {t1 t2 : Tok} {k : Nat} {gl : Obj → List (Addr × Obj)} (U : UpdF src (listOf #[.int g t1, .int r t2] k) news gl) (hg : 0 ≤ g) (hr : 0 ≤ r) (hr2 : r < 2147483647) (V : Value → Prop)
    (turn : ∀ (g r : Int) (t1 t2 : Tok) I oI C oC D m₂ ys h tk (E' : Value → Shared → Prop), 0 ≤ g → 0 ≤ r → r < 2147483647 → NsObj oC m₂ → Fr h₀ L h m → News h₀ L h ((I, oI) :: (C, oC) :: (D, lst ys) :: gl (listOf #[.int g t1, .int r t2] k)) → Off3 I C D (gl (listOf #[.int g t1, .int r t2] k)) → ((@Ne Nat I C) ∧ (@Ne Nat I D) ∧ (@Ne Nat C D)) →
      wpAny (model prog w) A (eval elt (compEnvC scope cl C env)) (CompEnd h₀ L m { s with heap := h, toks := tk } I oI C oC D (lst ys) (fun _ => True) (fun y news' => V y ∧ ∃ (g r : Int) (t1 t2 : Tok), 0 ≤ g ∧ 0 ≤ r ∧ r < 2147483647 ∧ news' = gl (listOf #[.int g t1, .int r t2] k))) E' { s with heap := h, toks := tk })
    (fin : ∀ ys (g r : Int) (t1 t2 : Tok), 0 ≤ g → 0 ≤ r → r < 2147483647 → ys.length = n → (∀ y ∈ ys, V y) → Fin ys (gl (listOf #[.int g t1, .int r t2] k))) :
    CompRest prog w A h₀ L m env elt x scope cl s (fun _ => True) P Fin n 0 [] news := by
  have key : ∀ (j i : Nat) (ys : List Value) (g r : Int) (t1 t2 : Tok), i + j = n → ys.length = i → (∀ y ∈ ys, V y) → 0 ≤ g → 0 ≤ r → r < 2147483647 → CompRest prog w A h₀ L m env elt x scope cl s (fun _ => True) P Fin j i ys (gl (listOf #[.int g t1, .int r t2] k)) := by
    intro j
    induction j with
    | zero =>
      intro i ys g r t1 t2 hi hl hv a b c
      exact CompRest.zero (fin ys g r t1 t2 a b c (by omega) hv)
    | succ j ih =>
      intro i ys g r t1 t2 hi hl hv a b c
      refine CompRest.succ ?_
      intro v I oI C oC D m₂ h tk E' _ hC _ F N off ne
      refine wpAny_mono (turn g r t1 t2 I oI C oC D m₂ ys h tk E' a b c hC F N off ne) (fun y s₂ hq => ?_) fun _ _ e => e
      obtain ⟨h', tk', nw, e, F', N', off', hS, hVy, g', r', t1', t2', a', b', c', rfl⟩ := hq
      refine ⟨h', tk', _, e, F', N', off', hS, ih (i + 1) _ g' r' t1' t2' (by omega) (by simp [hl]) ?_ a' b' c'⟩
      intro q hq
      rcases List.mem_append.mp hq with hq | hq
      · exact hv q hq
      · rw [List.mem_singleton.mp hq]; exact hVy
  have := key n 0 [] g r t1 t2 (by omega) rfl (fun _ h => nomatch h) hg hr hr2
  rwa [updF_self U] at this
end
end Mine

-- part PL3
namespace Mine
open PySem.Builtin PySem.Builtin.Str

theorem str_toList {x y : PySem.Str} (h : x.cps.toList = y.cps.toList) : x = y := by
  cases x with | mk a => cases y with | mk b => congr 1; exact Array.toList_inj.mp h
theorem may_law (b w : PySem.Str) : (decide (b.length < w.length) && Txt.startswith w b) = ((List.range w.length).map (pre w)).any (· == b) := by
  rw [Bool.eq_iff_iff, Bool.and_eq_true, decide_eq_true_eq, List.any_eq_true]
  unfold Txt.startswith
  rw [Bool.and_eq_true, StrLaws.subAt_eq, List.drop_zero, beq_iff_eq]
  constructor
  · rintro ⟨h1, _, h2⟩
    refine ⟨pre w b.length, List.mem_map.mpr ⟨_, List.mem_range.mpr h1, rfl⟩, ?_⟩
    rw [beq_iff_eq]
    exact str_toList (by unfold pre; exact h2)
  · rintro ⟨z, hz, e⟩
    rw [beq_iff_eq] at e
    subst e
    obtain ⟨k, hk, rfl⟩ := List.mem_map.mp hz
    have hk' := List.mem_range.mp hk
    have hl : (pre w k).length = k := by rw [pre_length]; omega
    rw [hl]
    refine ⟨hk', by simp; omega, ?_⟩
    unfold pre; rfl
theorem may_law2 (b w : PySem.Str) : ((rangeKs 0 w.length).map fun k => pre w k.toNat).any (· == b) = (decide (b.length < w.length) && Txt.startswith w b) := by
  rw [may_law]
  congr 1
  unfold rangeKs
  rw [List.map_map]
  apply List.map_congr_left
  intro i _
  simp only [Function.comp]
  congr 1
  omega
theorem app_len (x y : PySem.Str) : (x ++ y).length = x.length + y.length := by
  show (x.cps ++ y.cps).size = x.cps.size + y.cps.size
  exact Array.size_append
theorem rangeKs_succ (a : Int) (n : Nat) : rangeKs a (n + 1) = a :: rangeKs (a + 1) n := by
  unfold rangeKs
  rw [List.range_succ_eq_map, List.map_cons, List.map_map]
  congr 1
  · simp
  · apply List.map_congr_left
    intro i _
    simp only [Function.comp]
    omega
theorem first_of (q : Int → Bool) : ∀ (n : Nat) (a k : Int), a ≤ k → k ≤ a + n → (∀ j, a ≤ j → j < k → q j = false) → (k < a + n → q k = true) → ((rangeKs a n).filter q ++ [a + n]).head? = some k
  | 0, a, k, h1, h2, _, _ => by
    have : k = a := by omega
    subst this
    simp [rangeKs]
  | n + 1, a, k, h1, h2, h3, h4 => by
    rw [rangeKs_succ]
    by_cases e : a = k
    · subst e
      rw [List.filter_cons_of_pos (h4 (by omega))]
      rfl
    · rw [List.filter_cons_of_neg (by rw [h3 a (by omega) (by omega)]; exact Bool.false_ne_true)]
      have := first_of q n (a + 1) k (by omega) (by omega) (fun j ha hb => h3 j (by omega) hb) (fun h => h4 (by omega))
      have e2 : a + 1 + (n : Int) = a + ((n + 1 : Nat) : Int) := by omega
      rw [e2] at this
      exact this
def markAt (x : PySem.Str) (k : Int) : Bool := [Str.ofString "<", Str.ofString "&"].any (· == ⟨#[x.cps.getD k.toNat 0]⟩)
theorem mark_occ (c : Nat) : ([Str.ofString "<", Str.ofString "&"].any (· == (⟨#[c]⟩ : PySem.Str))) = !(occurrences (Str.ofString "<&") ⟨#[c]⟩ 0 (Str.ofString "<&").length 1).isEmpty := by
  rw [StrLaws.found_one]
  have e1 : Str.ofString "<" = ⟨#[60]⟩ := by decide +kernel
  have e2 : Str.ofString "&" = ⟨#[38]⟩ := by decide +kernel
  have e3 : (Str.ofString "<&").cps.toList = [60, 38] := by decide +kernel
  rw [e1, e2, e3, Bool.eq_iff_iff, List.any_eq_true, decide_eq_true_eq]
  constructor
  · rintro ⟨z, hz, e⟩
    rw [beq_iff_eq] at e
    subst e
    simpa using hz
  · intro h
    refine ⟨_, ?_, beq_self_eq_true _⟩
    simpa using h
theorem goOn_mark {x : PySem.Str} {k : Int} (h : k < x.length) : goOn x k = !markAt x k := by
  unfold goOn markAt
  rw [if_pos h, mark_occ]
theorem goOn_end {x : PySem.Str} {k : Int} (h : ¬ k < x.length) : goOn x k = false := by
  unfold goOn
  rw [if_neg h]
theorem marks_first {x : PySem.Str} {p k : Int} (h1 : p ≤ x.length) (hk1 : p ≤ k) (hk2 : ∀ j, p ≤ j → j < k → goOn x j = true) (hk3 : goOn x k = false) :
    ((rangeKs p ((x.length : Int) - p).toNat).filter (markAt x) ++ [(x.length : Int)])[0]? = some k := by
  have e : (x.length : Int) = p + (((x.length : Int) - p).toNat : Int) := by omega
  have hle : k ≤ x.length := by
    apply Classical.byContradiction
    intro h
    have := hk2 x.length h1 (by omega)
    rw [goOn_end (by omega)] at this
    cases this
  have := first_of (markAt x) ((x.length : Int) - p).toNat p k hk1 (by omega) (fun j ha hb => by
    have h := hk2 j ha hb
    rw [goOn_mark (by omega)] at h
    simpa using h) (fun h => by
    rw [goOn_mark (by omega)] at hk3
    simpa using hk3)
  rw [← e] at this
  rw [← List.head?_eq_getElem?]
  exact this
def bra (x : PySem.Str) (k : Int) : Bool := (⟨#[x.cps.getD k.toNat 0]⟩ : PySem.Str) == Str.ofString "]"
theorem bra_iff (x : PySem.Str) (k : Nat) (h : k < x.length) : bra x k = true ↔ x.cps[k]? = some 93 := by
  unfold bra
  have e1 : Str.ofString "]" = ⟨#[93]⟩ := by decide +kernel
  have hl : k < x.cps.size := h
  have e : ((k : Nat) : Int).toNat = k := by omega
  rw [e1, beq_iff_eq, e, Array.getElem?_eq_getElem hl]
  have : x.cps.getD k 0 = x.cps[k] := by simp [Array.getD, hl]
  rw [this]
  constructor
  · intro q; injection q with q; simpa using q
  · intro q; simpa using q
theorem ends_one (x : PySem.Str) (i : Nat) : endsFrom x (Str.ofString "]") i = true ↔ i + 1 ≤ x.length ∧ bra x ((x.length - 1 : Nat) : Int) = true := by
  unfold endsFrom
  have e1 : (Str.ofString "]").length = 1 := by decide +kernel
  have e2 : (Str.ofString "]").cps = #[93] := by decide +kernel
  have e3 : fromIndex x.length (i : Int) = i := by unfold fromIndex; rw [if_neg (by omega)]; omega
  rw [e1, e3, Bool.and_eq_true, decide_eq_true_eq]
  constructor
  · rintro ⟨h, hs⟩
    refine ⟨h, ?_⟩
    rw [bra_iff _ _ (by omega)]
    have := (subAt_iff x _ _ (by rw [e1]; omega)).mp hs 0 (by rw [e1]; omega)
    rw [e2] at this
    simpa using this
  · rintro ⟨h, hs⟩
    refine ⟨h, ?_⟩
    rw [bra_iff _ _ (by omega)] at hs
    rw [subAt_iff x _ _ (by rw [e1]; omega), e1, e2]
    intro k hk
    have : k = 0 := by omega
    subst this
    simpa using hs
theorem ends_two (x : PySem.Str) (i : Nat) : endsFrom x (Str.ofString "]]") i = true ↔ i + 2 ≤ x.length ∧ bra x ((x.length - 1 : Nat) : Int) = true ∧ bra x ((x.length - 2 : Nat) : Int) = true := by
  unfold endsFrom
  have e1 : (Str.ofString "]]").length = 2 := by decide +kernel
  have e2 : (Str.ofString "]]").cps = #[93, 93] := by decide +kernel
  have e3 : fromIndex x.length (i : Int) = i := by unfold fromIndex; rw [if_neg (by omega)]; omega
  rw [e1, e3, Bool.and_eq_true, decide_eq_true_eq]
  constructor
  · rintro ⟨h, hs⟩
    refine ⟨h, ?_⟩
    rw [bra_iff _ _ (by omega), bra_iff _ _ (by omega)]
    have h0 := (subAt_iff x _ _ (by rw [e1]; omega)).mp hs 0 (by rw [e1]; omega)
    have h1 := (subAt_iff x _ _ (by rw [e1]; omega)).mp hs 1 (by rw [e1]; omega)
    rw [e2] at h0 h1
    have : x.length - 2 + 1 = x.length - 1 := by omega
    rw [this] at h1
    exact ⟨by simpa using h1, by simpa using h0⟩
  · rintro ⟨h, hs⟩
    refine ⟨h, ?_⟩
    rw [bra_iff _ _ (by omega), bra_iff _ _ (by omega)] at hs
    rw [subAt_iff x _ _ (by rw [e1]; omega), e1, e2]
    intro k hk
    have hk2 : k = 0 ∨ k = 1 := by omega
    rcases hk2 with rfl | rfl
    · simpa using hs.2
    · have : x.length - 2 + 1 = x.length - 1 := by omega
      rw [this]
      simpa using hs.1
def endsL (x : PySem.Str) (p : Int) : List Int := [(x.length : Int) - 1, (x.length : Int) - 2].filter fun k => decide (p ≤ k) && bra x k
theorem held_law (x : PySem.Str) (p : Int) (hp : 0 ≤ p) : heldN x p = if (x.length : Int) - 1 ∈ endsL x p then ((endsL x p).length : Int) else 0 := by
  obtain ⟨i, rfl⟩ : ∃ i : Nat, p = i := ⟨p.toNat, by omega⟩
  unfold heldN endsL
  have e1 : ∀ (h : i + 1 ≤ x.length), (x.length : Int) - 1 = ((x.length - 1 : Nat) : Int) := fun h => by omega
  have e2 : ∀ (h : i + 2 ≤ x.length), (x.length : Int) - 2 = ((x.length - 2 : Nat) : Int) := fun h => by omega
  rw [List.filter_cons, List.filter_cons, List.filter_nil]
  by_cases a1 : endsFrom x (Str.ofString "]") i = true
  · have b1 := (ends_one x i).mp a1
    have c1 : (decide ((i : Int) ≤ (x.length : Int) - 1) && bra x ((x.length : Int) - 1)) = true := by
      rw [e1 b1.1, b1.2, Bool.and_true, decide_eq_true_eq]; omega
    rw [if_pos c1]
    by_cases a2 : endsFrom x (Str.ofString "]]") i = true
    · have b2 := (ends_two x i).mp a2
      have c2 : (decide ((i : Int) ≤ (x.length : Int) - 2) && bra x ((x.length : Int) - 2)) = true := by
        rw [e2 b2.1, b2.2.2, Bool.and_true, decide_eq_true_eq]; omega
      rw [if_pos a2, if_pos c2, if_pos (by simp)]; rfl
    · have c2 : ¬ (decide ((i : Int) ≤ (x.length : Int) - 2) && bra x ((x.length : Int) - 2)) = true := by
        intro h
        rw [Bool.and_eq_true, decide_eq_true_eq] at h
        apply a2
        refine (ends_two x i).mpr ⟨by omega, b1.2, ?_⟩
        rw [← e2 (by omega)]; exact h.2
      rw [if_neg a2, if_pos a1, if_neg c2, if_pos (by simp)]; rfl
  · have a2 : ¬ endsFrom x (Str.ofString "]]") i = true := fun h => a1 ((ends_one x i).mpr ⟨by have := ((ends_two x i).mp h).1; omega, ((ends_two x i).mp h).2.1⟩)
    have c1 : ¬ (decide ((i : Int) ≤ (x.length : Int) - 1) && bra x ((x.length : Int) - 1)) = true := by
      intro h
      rw [Bool.and_eq_true, decide_eq_true_eq] at h
      apply a1
      refine (ends_one x i).mpr ⟨by omega, ?_⟩
      rw [← e1 (by omega)]; exact h.2
    rw [if_neg a2, if_neg a1, if_neg c1]
    rw [if_neg]
    intro h
    split at h
    · rw [List.mem_singleton] at h; omega
    · cases h
theorem news_sw {h₀ h : Heap} {L : Addr} {p q : Addr × Obj} {l : List (Addr × Obj)} (N : News h₀ L h (p :: q :: l)) : News h₀ L h (p :: l) := fun r hr => N r ((List.mem_cons.mp hr).elim (fun e => by rw [e]; exact List.mem_cons_self) fun e => List.mem_cons_of_mem _ (List.mem_cons_of_mem _ e))
theorem add_L {prog : Program} {w : World} {A : Around} {E : Value → Shared → Prop} {s : Shared} {h₀ : Heap} {L : Addr} {m : PySem.Str → Option Value} {news : List (Addr × Obj)} {l b : Addr} {vs ws : List Value} {ns ms : List Int} {Q : Value → Shared → Prop} (F : Fr h₀ L s.heap m) (N : News h₀ L s.heap news) (hl : s.heap.IsList l vs.toArray) (hb : s.heap.IsList b ws.toArray)
    (hi : IntsAre vs ns) (hj : IntsAre ws ms) (hsz : ns.length + ms.length ≤ 1000)
    (h : ∀ D c h', Fr h₀ L h' m → News h₀ L h' ((D, PySem.W.listOf (vs ++ ws).toArray c) :: news) → AllLt D news → IntsAre (vs ++ ws) (ns ++ ms) → Q (.ref D) { s with heap := h' }) :
    wpAny (model prog w) A (binaryOp .Add (.ref l) (.ref b)) Q E s :=
  add_lists_ints F N hl hb hi hj (fun h' F' N' hI => h _ _ h' F' N' (allLt_of fun p hp => Heap.lt_size (N p hp).1) hI) (by rw [sizeLine_eq]; omega)
theorem held_law2 (x : PySem.Str) (p : Int) (hp : 0 ≤ p) : heldN x p = if (endsL x p).any (· == (x.length : Int) - 1) = true then ((endsL x p).length : Int) else 0 := by
  rw [held_law x p hp]
  by_cases h : (x.length : Int) - 1 ∈ endsL x p
  · rw [if_pos h, if_pos]
    exact List.any_eq_true.mpr ⟨_, h, beq_self_eq_true _⟩
  · rw [if_neg h, if_neg]
    intro q
    obtain ⟨z, hz, e⟩ := List.any_eq_true.mp q
    rw [beq_iff_eq] at e
    rw [e] at hz
    exact h hz
theorem held_t {x : PySem.Str} {p : Int} {n : Nat} (hp : 0 ≤ p) (hl : n = (endsL x p).length) (h : (endsL x p).any (· == (x.length : Int) - 1) = true) : (heldN x p == (n : Int)) = true := by
  rw [held_law2 x p hp, if_pos h, hl]; exact beq_self_eq_true _
theorem held_f {x : PySem.Str} {p : Int} (hp : 0 ≤ p) (h : (endsL x p).any (· == (x.length : Int) - 1) = false) : (heldN x p == 0) = true := by
  rw [held_law2 x p hp, if_neg (by rw [h]; exact Bool.false_ne_true)]; exact beq_self_eq_true _
theorem bra_t {x : PySem.Str} {p k : Int} (h1 : p ≤ k) (h2 : bra x k = true) : (decide (p ≤ k) && bra x k) = true := by rw [h2, decide_eq_true h1]; rfl
theorem bra_f {x : PySem.Str} {p k : Int} (h2 : bra x k = false) : ¬ (decide (p ≤ k) && bra x k) = true := by rw [h2, Bool.and_false]; exact Bool.false_ne_true
theorem bra_n {x : PySem.Str} {p k : Int} (h1 : ¬ p ≤ k) : ¬ (decide (p ≤ k) && bra x k) = true := by rw [decide_eq_false h1, Bool.false_and]; exact Bool.false_ne_true
end Mine

-- part M6
theorem Mine.fresh_M6 : True := by w_top off; exact True.intro
namespace Mine
open PySem.Calls PySem.Spec PyProof.Rows.LCg

local macro_rules | `(tactic| walk_at "binaryOp Mult int int") => `(tactic| (k_here; k_dflt (refine mul_int ?_ (mulOk_mod _ _))))
local macro_rules | `(tactic| units_room) => `(tactic| ((have hcL9 := cLine_is); (try simp only [units_in1, units_deeper, Around.mark_units, units_caller]); (try dsimp only [ktrTop]); omega))
local macro_rules | `(tactic| ktr_enter) => `(tactic| (refine' code_defC ?k1 ?k2 ?k3 ?k4 ?k5 ?kA ?kF ?kK ?k6 ?k7 ?k8 ?k9 ?kB ?kD ?_ ?c2 ?c3 ?c4; (case kA => exact rfl); (case kF => exact rfl); (case kK => assumption); (case k1 => k_asm); (case k2 => k_asm); (case k3 => k_asm); (case k4 => k_asm); (case k5 => k_asm); (case k6 => k_is); (case k7 => k_is); (case k8 => ktr_room); (case k9 => exact BindsTo.of_eq rfl); (case kB => exact rfl); (case kD => decide +kernel); (case c2 => exact rfl); (case c3 => exact rfl); (case c4 => exact rfl); k_whole; intro g' L' h' tk' cells' FG' F' N' Y' B' X' T' l1; (try k_lt l1); k_cells Y'; (try simp only [List.cons_append, List.nil_append] at N'); (try dsimp only); (try k_lift B'); (try k_fold)))
local macro_rules | `(tactic| ktr_enter) => `(tactic| (refine' code_def ?k1 ?k2 ?k3 ?k4 ?k5 ?kA ?kF ?kK ?k6 ?k7 ?k8 ?k9 ?kB ?_ ?c2 ?c3 ?c4 ?c5; (case kA => exact rfl); (case kF => exact rfl); (case kK => assumption); (case k1 => k_asm); (case k2 => k_asm); (case k3 => k_asm); (case k4 => k_asm); (case k5 => k_asm); (case k6 => k_is); (case k7 => k_is); (case k8 => ktr_room); (case k9 => exact BindsTo.of_eq rfl); (case c5 => decide); (case kB => exact locs rfl); (case c2 => exact rfl); (case c3 => exact rfl); (case c4 => exact rfl); k_whole; intro g' L' h' FG' F' N' B' X' T'; (try dsimp only); (try k_lift B'); (try k_fold)))
local macro_rules | `(tactic| walk_at "call builtin:len") => `(tactic| (k_here; (with_reducible show wpAny _ _ (call (Value.builtin "len") [Value.ref _]) _ _ _); k_dflt (refine' len_list ?k1 ?k2 ?_; (case k1 => exact News.isList (N := by k_asm) (by k_mem)); (case k2 => ((try simp only [List.size_toArray]); omega)); k_whole); (try simp only [List.size_toArray])))
local macro_rules | `(tactic| k_all) => `(tactic| assumption)
local macro_rules | `(tactic| k_mem) => `(tactic| (first | assumption | exact List.Mem.head _ | (refine' List.Mem.tail _ ?_; k_mem)))
local macro_rules | `(tactic| walk_at "subscriptTail Name BinOp str int") => `(tactic| (k_here; (with_reducible show wpAny _ _ (subscriptTail _ _ (Value.str _ _) (Value.int _ _)) _ _ _); k_dflt (refine' str_at ?k1 ?k2 ?k3 ?_ ?k4 ?k5; (case k1 => omega); (case k2 => omega); (case k3 => omega); (case k4 => with_unfolding_all rfl); (case k5 => intro _; with_unfolding_all rfl); k_whole)))
local macro_rules | `(tactic| walk_at "subscriptTail Name Name str int") => `(tactic| (k_here; (with_reducible show wpAny _ _ (subscriptTail _ _ (Value.str _ _) (Value.int _ _)) _ _ _); k_dflt (refine' str_at ?k1 ?k2 ?k3 ?_ ?k4 ?k5; (case k1 => omega); (case k2 => omega); (case k3 => omega); (case k4 => with_unfolding_all rfl); (case k5 => intro _; with_unfolding_all rfl); k_whole)))
local macro_rules | `(tactic| walk_at "subscriptTail Name Slice str ref") => `(tactic| (k_here; (with_reducible show wpAny _ _ (subscriptTail _ (Expr.Slice none (some _) none _) _ _) _ _ _); (with_reducible rename Fr _ _ _ _ => F'); (with_reducible rename News _ _ _ _ => N'); (refine sl_to (hsz := ?hsz) (s := ⟨_, _, _, _, _⟩) F' N' ?hj ?_); (case hsz => (rw [sizeLine_eq]; omega)); (case hj => omega); intro _ _ _ _ _))
local macro_rules | `(tactic| walk_at "subscriptTail Name Slice str ref") => `(tactic| (k_here; (with_reducible show wpAny _ _ (subscriptTail _ (Expr.Slice (some _) none none _) _ _) _ _ _); (with_reducible rename Fr _ _ _ _ => F'); (with_reducible rename News _ _ _ _ => N'); (refine sl_from (hsz := ?hsz) (s := ⟨_, _, _, _, _⟩) F' N' ?hj ?hk ?_); (case hsz => (rw [sizeLine_eq]; omega)); (case hj => omega); (case hk => omega); intro _ _ _ _ _))
local macro_rules | `(tactic| walk_at "call ref") => `(tactic| (k_here; (with_reducible show wpAny _ _ (call (Value.ref 63) _) _ _ _); k_dflt (refine' take_ok ?k1 ?k2 ?k3 ?k4 ?k5 ?kK ?kd ?ku ?u1 ?u2 ?u3 ?u4 ?u5 ?u6 ?_; (case k1 => k_asm); (case k2 => k_asm); (case k3 => k_asm); (case k4 => k_asm); (case k5 => k_asm); (case kK => first | exact rfl | assumption); (case kd => ktr_room); (case ku => units_room); (case u1 => k_updF); (case u2 => k_asm); (case u3 => k_asm); (case u4 => k_asm); (case u5 => omega); (case u6 => omega); intro d9 td9 h9 tk9 g9 r9 t91 t92 hd1 hd2 hg9 hr9 hr92 F9 N9; (try dsimp only at N9); (try k_fold))))
local macro_rules | `(tactic| walk_at "call ref") => `(tactic| (k_here; (with_reducible show wpAny _ _ (call (Value.ref 70) _) _ _ _); k_dflt (refine' one_ok ?k1 ?k2 ?k3 ?k4 ?k5 ?kK ?kd ?ku ?u1 ?u2 ?u3 ?u4 ?u5 ?u6 ?u7 ?u8 ?_; (case k1 => k_asm); (case k2 => k_asm); (case k3 => k_asm); (case k4 => k_asm); (case k5 => k_asm); (case kK => first | exact rfl | assumption); (case kd => ktr_room); (case ku => units_room); (case u1 => k_updF); (case u2 => k_asm); (case u3 => k_asm); (case u4 => k_asm); (case u5 => k_mem); (case u6 => omega); (case u7 => exact Nat.le_of_ble_eq_true rfl); (case u8 => exact Nat.le_of_ble_eq_true rfl); intro v9 h9 tk9 g9 r9 t91 t92 hv9 hg9 hr9 hr92 F9 N9; (try dsimp only at N9); (try k_fold))))
local macro_rules | `(tactic| walk_at "call ref") => `(tactic| (k_here; (with_reducible show wpAny _ _ (call (Value.ref 28) _) _ _ _); k_dflt (refine' behind_ok ?k1 ?k2 ?k3 ?k4 ?k5 ?kK ?kd ?ku ?u1 ?u2 ?u3 ?u4 ?_; (case k1 => k_asm); (case k2 => k_asm); (case k3 => k_asm); (case k4 => k_asm); (case k5 => k_asm); (case kK => first | exact rfl | assumption); (case kd => ktr_room); (case ku => units_room); (case u1 => assumption); (case u2 => omega); (case u3 => omega); (case u4 => omega); intro t9 h9 tk9 F9 N9; (try k_fold))))
local macro_rules | `(tactic| walk_at "call ref") => `(tactic| (k_here; (with_reducible show wpAny _ _ (call (Value.ref 80) _) _ _ _); k_dflt (refine' law_behind_ok ?k1 ?k2 ?k3 ?k4 ?k5 ?kK ?kd ?ku ?u1 ?u2 ?u3 ?u4 ?u5 ?_; (case k1 => k_asm); (case k2 => k_asm); (case k3 => k_asm); (case k4 => k_asm); (case k5 => k_asm); (case kK => first | exact rfl | assumption); (case kd => ktr_room); (case ku => units_room); (case u1 => omega); (case u2 => omega); (case u3 => omega); (case u4 => omega); (case u5 => omega); intro t9 h9 tk9 F9 N9; (try k_fold))))
local macro_rules | `(tactic| walk_at "compareOp In str ref") => `(tactic| (k_here; (with_reducible show wpAny _ _ (compareOp CmpOp.In (Value.str _ _) (Value.ref _)) _ _ _); k_dflt (refine' in_list_strs ?k1 ?k2 ?_; (case k1 => exact News.isList (by k_asm) (by k_mem)); (case k2 => exact .cons _ _ (.cons _ _ .nil)); k_whole)))
local macro_rules | `(tactic| walk_at "compareOp In int ref") => `(tactic| (k_here; (with_reducible show wpAny _ _ (compareOp CmpOp.In (Value.int _ _) (Value.ref _)) _ _ _); k_dflt (refine' in_list_ints ?k1 ?k2 ?_; (case k1 => exact News.isList (by k_asm) (by k_mem)); (case k2 => assumption); k_whole)))

set_option maxHeartbeats 0 in
theorem main_holds : PySem.Challenge.rw_xm0648_01.Holds := hd (by
  k_go0
  all_goals try k_fold
  (rename Heap.IsList _ _ _ => hSL); (rename IntsAre _ _ => hSI)
  w_strict (repeat' ((fail_if_success (with_reducible show wpAny _ _ (call (Value.ref 85) _) _ _ _)); (first | (k_unfold; (try dsimp only)) | (k_end; wrow_close) | walk1 | (dsimp only; walk1) | (leave1; try dsimp only) | fail "no step")))
  k_dflt (refine' led_ok (vs := [.int 7 _, .int 8 _]) (ns := [7, 8]) ?k1 ?k2 ?k3 ?k4 ?k5 ?kK ?kd ?ku ?q0 ?q1 ?q2 ?q3 ?q4 ?q5 ?q6 ?q7 ?q8 ?_; (case k1 => k_asm); (case k2 => k_asm); (case k3 => k_asm); (case k4 => k_asm); (case k5 => k_asm); (case kK => first | exact rfl | assumption); (case kd => ktr_room); (case ku => units_room); (case q0 => decide); (case q1 => decide); (case q2 => decide +kernel); (case q3 => decide +kernel); (case q4 => decide +kernel); (case q5 => exact .cons 7 _ (.cons 8 _ .nil)); (case q6 => k_mem); (case q7 => simp); (case q8 => (intro n hn; simp only [List.mem_cons, List.not_mem_nil, or_false] at hn; have hl : (Str.ofString "<!--a-->").length = 8 := (by decide +kernel); omega)); skip)
  intro t9 h9 tk9 F9 N9
  (try simp only [AllLt, and_true] at hlt9); (try dsimp only); (try k_fold)
  w_strict (repeat' ((fail_if_success (with_reducible show wpAny _ _ (call (Value.ref 56) _) _ _ _)); (first | (k_unfold; (try dsimp only)) | (k_end; wrow_close) | walk1 | (dsimp only; walk1) | (leave1; try dsimp only) | fail "no step")))
  (with_reducible rename Fr _ _ _ _ => F0); (with_reducible rename News _ _ _ _ => N0); replace N0 := news_tl N0
  k_dflt (refine' pool_ok  ?k1 ?k2 ?k3 ?k4 ?k5 ?kK ?kd ?ku ?q0 ?q1 ?q2 ?_; (case k1 => k_asm); (case k2 => k_asm); (case k3 => k_asm); (case k4 => k_asm); (case k5 => k_asm); (case kK => first | exact rfl | assumption); (case kd => ktr_room); (case ku => units_room); (case q0 => exact hSL); (case q1 => exact hSI); (case q2 => omega); skip)
  intro src h9 tk9 g r t1 t2 hg hr hr2 F9 N9 hlt9
  (try simp only [AllLt, and_true] at hlt9); (try dsimp only); (try k_fold)
  clear F0 N0
  w_strict (repeat' ((fail_if_success (with_reducible show wpAny _ _ (eval (PySem.Expr.ListComp _ _ _ _) _) _ _ _)); (first | (k_unfold; (try dsimp only)) | (k_end; wrow_close) | walk1 | (dsimp only; walk1) | (leave1; try dsimp only) | fail "no step")))
  k_dflt (refine LCg.ListComp_U (F₀ := by k_asm) (by with_unfolding_all rfl) (by decide) (by rfl) (by decide) (by rfl) ?_)
  w_strict (repeat' ((fail_if_success (with_reducible show LCg.CompSrc _ _ _ _ _ _ _ _ _ _ _ _ _ _)); (first | (k_unfold; (try dsimp only)) | (k_end; wrow_close) | walk1 | (dsimp only; walk1) | (leave1; try dsimp only) | fail "no step")))
  rename_i d td hA tkA g1 r1 ta tb hd1 hd2 hg9 hr9 hr92 FA NA hB tkB tb1 tb2 tb3 hrg hfr hnw hkp
  k_dflt (refine LCg.CompSrc.range (n := d.toNat) (by rfl) (by k_asm) (by k_asm) (by assumption) (small_one (by omega) (by omega) (by omega) (by omega)) (by rw [rangeSize_one]; omega) (by rw [sizeLine_eq]; omega) ?_)
  intro g7
  k_dflt (refine comp_draw (src := src) (g := g1) (r := r1) (t1 := ta) (t2 := tb) (k := 0) (by k_updF) hg9 hr9 hr92 (fun y => ∃ z t, y = .str z t ∧ z.length ≤ 3) ?turn ?fin)
  case turn =>
    intro g r t1 t2 I oI C oC D m₂ ys h tk E' hg hr hr2 hC F9 N9 off9 ne9
    clear NA FA hnw hfr hrg hkp
    (try dsimp only at N9); (try dsimp only at off9)
    obtain ⟨hI1, hC1, hD1⟩ := off9.mem (src, listOf #[.int g t1, .int r t2] 0) (by k_mem)
    replace hI1 : @Ne Nat I src := Ne.symm hI1
    replace hC1 : @Ne Nat C src := Ne.symm hC1
    replace hD1 : @Ne Nat D src := Ne.symm hD1
    clear ne9
    w_strict k_steps
    rename_i v9 hz9 tz9 ga ra ua ub hv9 hga hra hra2 Fz Nz
    refine LCg.CompEnd.intro (by assumption) (by assumption) _ (by kcf_all) (by exact off9) trivial ⟨AllS.mem (P := fun z => z.length ≤ 3) (by repeat' (first | exact True.intro | refine And.intro (by decide +kernel) ?_)) v9 hv9, ga, ra, ua, ub, hga, hra, hra2, rfl⟩
  case fin =>
  intro ys g r t1 t2 hg hr hr2 hlen hV
  unfold LCg.FinE
  intro D h tk F9 N9 off9
  clear NA FA hnw hfr hrg hkp
  (try dsimp only at N9); (try dsimp only at off9); simp only [LCg.Off1, and_true] at off9
  obtain ⟨zs, hz1, hz2⟩ := strs_of hV
  have hzl := strsAre_len hz1
  w_strict (repeat' ((fail_if_success (with_reducible show wpAny _ _ (call (Value.builtin "str.join") _) _ _ _)); (first | (k_unfold; (try dsimp only)) | (k_end; wrow_close) | walk1 | (dsimp only; walk1) | (leave1; try dsimp only) | fail "no step")))
  k_dflt (refine join_list (ys := zs) (News.isList (N := N9) (List.mem_cons_self)) hz1 (by rw [empty_len]; have := sum_le3 hz2; omega) ?_)
  intro tX kX
  have hX : (Txt.join (Str.ofString "") zs).length ≤ 27 := by have := join_len hz2; omega
  generalize Txt.join (Str.ofString "") zs = X at hX
  replace N9 := news_tl (news_tl N9)
  clear off9 hz1 hz2 hzl hV hlen
  w_strict (repeat' ((fail_if_success (with_reducible show wpAny _ _ (call (Value.ref 70) _) _ _ _)); (first | (k_unfold; (try dsimp only)) | (k_end; wrow_close) | walk1 | (dsimp only; walk1) | (leave1; try dsimp only) | fail "no step")))
  w_strict walk1
  rename_i vw hz9 tz9 gw rw' uwa uwb hvw hgw hrw hrw2 Fw Nw
  obtain ⟨wd, tw, rfl, hw1, hw2⟩ := AllS.mem (P := fun z => 1 ≤ z.length ∧ z.length ≤ 3) (by repeat' (first | exact True.intro | refine And.intro (by decide +kernel) ?_)) vw hvw
  clear hvw
  w_strict (repeat' ((fail_if_success (with_reducible show wpAny _ _ (compareOp CmpOp.NotEq (optV _ _) _) _ _ _)); (first | (k_unfold; (try dsimp only)) | (k_end; wrow_close) | walk1 | (dsimp only; walk1) | (leave1; try dsimp only) | fail "no step")))
  refine ne_opt rfl ?_
  w_strict (repeat' ((fail_if_success (with_reducible show wpAny _ _ (exec (PySem.Stmt.Assign _ (PySem.Expr.ListComp _ _ _ _) _) _) _ _ _)); (first | (k_unfold; (try dsimp only)) | (k_end; wrow_close) | walk1 | (dsimp only; walk1) | (leave1; try dsimp only) | fail "no step")))
  rename_i pl tpl hq1 tq1 gq1 rq1 uq1 uq2 hpl1 hpl2 hq2 hq3 hq4 qa ea hq5 oPl dPl tq5 hq6 tq6 qb eb tq7 hq7 tq8 st tst hq8 tq9 g1' r1' u1' u2' hst1 hst2 hg1 hr1 hr12 hq9 oSt Fs Ns dSt
  replace Ns := news_tl Ns
  k_dflt (refine LCg.Assign_ListComp_U (F₀ := by k_asm) (by rfl) (by with_unfolding_all rfl) (by with_unfolding_all rfl) (by decide) (by rfl) (by decide) (by rfl) (by rfl) (by rfl) ?_)
  w_strict (repeat' ((fail_if_success (with_reducible show LCg.CompSrc _ _ _ _ _ _ _ _ _ _ _ _ _ _)); (first | (k_unfold; (try dsimp only)) | (k_end; wrow_close) | walk1 | (dsimp only; walk1) | (leave1; try dsimp only) | fail "no step")))
  rename_i d2 td2 hA2 tkA2 g2 r2 ta2 tb2 hda hdb hg2 hr2' hr22 FA2 NA2 hB2 tkB2 tc1 tc2 tc3 hrg2 hfr2 hnw2 hkp2
  k_dflt (refine LCg.CompSrc.range (n := d2.toNat) (by rfl) (by k_asm) (by k_asm) (by assumption) (small_one (by omega) (by omega) (by omega) (by omega)) (by rw [rangeSize_one]; omega) (by rw [sizeLine_eq]; omega) ?_)
  intro g72
  k_dflt (refine comp_draw (src := src) (g := g2) (r := r2) (t1 := ta2) (t2 := tb2) (k := 0) (by k_updF) hg2 hr2' hr22 (fun y => ∃ i t, y = .int i t ∧ pl + st ≤ i ∧ i ≤ X.length) ?turn2 ?fin2)
  case turn2 =>
    intro g r t1 t2 I oI C oC D m₂ ys h tk E' hg hr hr2 hC F9 N9 off9 ne9
    clear NA2 FA2 hnw2 hfr2 hrg2 hkp2 Fs Ns ne9
    (try dsimp only at N9); (try dsimp only at off9)
    obtain ⟨hI1, hC1, hD1⟩ := off9.mem (src, listOf #[.int g t1, .int r t2] 0) (by k_mem)
    replace hI1 : @Ne Nat I src := Ne.symm hI1
    replace hC1 : @Ne Nat C src := Ne.symm hC1
    replace hD1 : @Ne Nat D src := Ne.symm hD1
    w_strict k_steps
    rename_i dd tdd hz9 tz9 ga ra ua ub hdd1 hdd2 hga hra hra2 Fz Nz
    refine LCg.CompEnd.intro (by assumption) (by assumption) _ (by kcf_all) (by exact off9) trivial ⟨⟨_, _, rfl, by omega, by omega⟩, ga, ra, ua, ub, hga, hra, hra2, rfl⟩
  case fin2 =>
  intro ys g r t1 t2 hg hr hr2 hlen hV
  unfold LCg.FinA
  intro D h tk F9 N9 off9
  clear NA2 FA2 hnw2 hfr2 hrg2 hkp2 Fs Ns
  (try dsimp only at N9); (try dsimp only at off9); simp only [LCg.Off1, and_true] at off9
  obtain ⟨ns, hn1, hn2⟩ := ints_of hV
  have hnl := hn1.length
  w_strict (repeat' ((fail_if_success (with_reducible show wpAny _ _ (call (Value.builtin "sorted") _) _ _ _)); (first | (k_unfold; (try dsimp only)) | (k_end; wrow_close) | walk1 | (dsimp only; walk1) | (leave1; try dsimp only) | fail "no step")))
  k_dflt (refine kso_sorted (vs := ys) (ns := ns) (by k_asm) N9 (News.isList (N := N9) List.mem_cons_self) hn1 (by omega) ?_)
  intro Ds vss nss cs9 hs9 Fs9 Ns9 _ hs1 hs2 hs3 hs4 _
  replace Ns9 := news_sw Ns9
  have hnb : ∀ n ∈ nss ++ [(X.length : Int)], pl + st ≤ n ∧ n ≤ (X.length : Int) := by
    intro n hn
    rcases List.mem_append.mp hn with hn | hn
    · exact hn2 n (hs3.mem_iff.mp hn)
    · rw [List.mem_singleton.mp hn]; omega
  have hnp : (nss ++ [(X.length : Int)]).Pairwise (· ≤ ·) := by
    rw [List.pairwise_append]
    refine ⟨hs4, List.pairwise_singleton _ _, fun a ha b hb => ?_⟩
    rw [List.mem_singleton.mp hb]
    exact (hn2 a (hs3.mem_iff.mp ha)).2
  clear N9 F9 off9 hs3 hs4 hn1 hn2 hV
  w_strict (repeat' ((fail_if_success (with_reducible show wpAny _ _ (binaryOp Operator.Add (Value.ref _) (Value.ref _)) _ _ _)); (first | (k_unfold; (try dsimp only)) | (k_end; wrow_close) | walk1 | (dsimp only; walk1) | (leave1; try dsimp only) | fail "no step")))
  (with_reducible rename Fr _ _ _ _ => F0); (with_reducible rename News _ _ _ _ => N0)
  k_dflt (refine add_L (ms := [(X.length : Int)]) F0 N0 (News.isList (N := N0) (by k_mem)) (News.isList (N := N0) (by k_mem)) hs1 (.cons _ _ .nil) (by simp only [List.length_singleton]; omega) ?_)
  intro Da ca ha9 Fa Na _ hs5
  replace Na := news_sw (news_sw Na)
  clear F0 N0; (try clear Fs9); (try clear Ns9)
  w_strict (repeat' ((fail_if_success (with_reducible show wpAny _ _ (call (Value.ref 85) _) _ _ _)); (first | (k_unfold; (try dsimp only)) | (k_end; wrow_close) | walk1 | (dsimp only; walk1) | (leave1; try dsimp only) | fail "no step")))
  k_dflt (refine' led_ok  ?k1 ?k2 ?k3 ?k4 ?k5 ?kK ?kd ?ku ?q0 ?q1 ?q2 ?q3 ?q4 ?q5 ?q6 ?q7 ?q8 ?_; (case k1 => k_asm); (case k2 => k_asm); (case k3 => k_asm); (case k4 => k_asm); (case k5 => k_asm); (case kK => first | exact rfl | assumption); (case kd => ktr_room); (case ku => units_room); (case q0 => omega); (case q1 => omega); (case q2 => omega); (case q3 => omega); (case q4 => omega); (case q5 => exact hs5); (case q6 => k_mem); (case q7 => exact hnp); (case q8 => exact hnb); skip)
  intro t9 h9 tk9 F9 N9
  (try simp only [AllLt, and_true] at hlt9); (try dsimp only); (try k_fold)
  replace N9 := news_tl N9
  clear Fa Na hnp hnb hs5
  w_strict (repeat' ((fail_if_success (with_reducible show wpAny _ _ (call (Value.ref 70) _) _ _ _)); (first | (k_unfold; (try dsimp only)) | (k_end; wrow_close) | walk1 | (dsimp only; walk1) | (leave1; try dsimp only) | fail "no step")))
  w_strict walk1
  rename_i vv hz9' tz9' gv rv' uva uvb hvv hgv hrv hrv2 Fv Nv
  obtain ⟨wh, tv, rfl, hv1, hv2⟩ := AllS.mem (P := fun z => 1 ≤ z.length ∧ z.length ≤ 9) (by repeat' (first | exact True.intro | refine And.intro (by decide +kernel) ?_)) vv hvv
  clear hvv
  replace Nv := news_tl Nv
  w_strict (repeat' ((fail_if_success (with_reducible show wpAny _ _ (call (Value.ref 70) _) _ _ _)); (first | (k_unfold; (try dsimp only)) | (k_end; wrow_close) | walk1 | (dsimp only; walk1) | (leave1; try dsimp only) | fail "no step")))
  w_strict walk1
  rename_i ve hz8' tz8' ge re' uea ueb hve hge hre hre2 Fe Ne
  obtain ⟨we, te, rfl, he1⟩ := AllS.mem (P := fun z => z.length ≤ 1) (by repeat' (first | exact True.intro | refine And.intro (by decide +kernel) ?_)) ve hve
  clear hve
  replace Ne := news_tl Ne
  w_strict (repeat' ((fail_if_success (with_reducible show wpAny _ _ (binaryOp Operator.Add (Value.str _ _) (Value.str _ _)) _ _ _)); (first | (k_unfold; (try dsimp only)) | (k_end; wrow_close) | walk1 | (dsimp only; walk1) | (leave1; try dsimp only) | fail "no step")))
  k_dflt (refine add_str (hsz := ?hsz) ?_)
  case hsz => rw [sizeLine_eq, pre_length]; omega
  intro tbg kbg
  generalize hB : pre wh _ ++ we = bg
  have hbg : bg.length ≤ 10 := by rw [← hB, app_len, pre_length]; omega
  clear hB
  w_strict (repeat' ((fail_if_success (with_reducible show wpAny _ _ (call (Value.ref 21) _) _ _ _)); (first | (k_unfold; (try dsimp only)) | (k_end; wrow_close) | walk1 | (dsimp only; walk1) | (leave1; try dsimp only) | fail "no step")))
  k_dflt (refine' may_ok  ?k1 ?k2 ?k3 ?k4 ?k5 ?kK ?kd ?ku ?q0 ?q1 ?_; (case k1 => k_asm); (case k2 => k_asm); (case k3 => k_asm); (case k4 => k_asm); (case k5 => k_asm); (case kK => first | exact rfl | assumption); (case kd => ktr_room); (case ku => units_room); (case q0 => omega); (case q1 => omega); skip)
  intro t9 h9 tk9 F9 N9
  (try simp only [AllLt, and_true] at hlt9); (try dsimp only); (try k_fold)
  w_strict (repeat' ((fail_if_success (with_reducible show wpAny _ _ (eval (PySem.Expr.ListComp _ _ _ _) _) _ _ _)); (first | (k_unfold; (try dsimp only)) | (k_end; wrow_close) | walk1 | (dsimp only; walk1) | (leave1; try dsimp only) | fail "no step")))
  k_dflt (refine LCg.ListComp_U (F₀ := by k_asm) (by with_unfolding_all rfl) (by decide) (by rfl) (by decide) (by rfl) ?_)
  w_strict (repeat' ((fail_if_success (with_reducible show LCg.CompSrc _ _ _ _ _ _ _ _ _ _ _ _ _ _)); (first | (k_unfold; (try dsimp only)) | (k_end; wrow_close) | walk1 | (dsimp only; walk1) | (leave1; try dsimp only) | fail "no step")))
  k_dflt (refine LCg.CompSrc.range (n := wh.length) (by rfl) (by k_asm) (by k_asm) (by assumption) (small_one (by omega) (by omega) (by omega) (by omega)) (by rw [rangeSize_one]; omega) (by rw [sizeLine_eq]; omega) ?_)
  intro g73
  k_dflt (refine kct_range (fun k => pre wh k.toNat) ?turn3 ?fin3)
  case turn3 =>
    intro k t2 I2 oI C oC D m₂ ys h tk E' hlo hhi hC hx9 F9 N9 off9 ne9 mk9
    w_strict k_steps
    refine LCg.CompEnd.intro (by assumption) (by assumption) _ (by kcf_all) (by exact off9) trivial ⟨rfl, _, rfl⟩
  case fin3 =>
  unfold KPfDone
  intro ys3 hys3 hlen3
  replace hys3 := CarriedAll.strsOf hys3
  unfold LCg.FinE
  intro D3 h3 tk3 F3 N3 off3
  w_strict (repeat' ((fail_if_success (with_reducible show wpAny _ _ (compareOp CmpOp.In _ _) _ _ _)); (first | (k_unfold; (try dsimp only)) | (k_end; wrow_close) | walk1 | (dsimp only; walk1) | (leave1; try dsimp only) | fail "no step")))
  k_dflt (refine in_list_strs (News.isList (N := N3) List.mem_cons_self) hys3 ?_)
  rw [may_law2]
  replace N3 := news_tl N3
  clear hys3 off3
  w_strict (repeat' ((fail_if_success (with_reducible show wpAny _ _ (compareOp CmpOp.NotEq (Value.bool _) (Value.bool _)) _ _ _)); (first | (k_unfold; (try dsimp only)) | (k_end; wrow_close) | walk1 | (dsimp only; walk1) | (leave1; try dsimp only) | fail "no step")))
  k_dflt (refine ne_bool ?_)
  rw [bne_self_eq_false]
  w_strict (repeat' ((fail_if_success (with_reducible show wpAny _ _ (exec (PySem.Stmt.Assign _ (PySem.Expr.ListComp _ _ _ _) _) _) _ _ _)); (first | (k_unfold; (try dsimp only)) | (k_end; wrow_close) | walk1 | (dsimp only; walk1) | (leave1; try dsimp only) | fail "no step")))
  k_dflt (refine LCt.Assign_ListComp_T (F₀ := by k_asm) (by rfl) (by with_unfolding_all rfl) (by with_unfolding_all rfl) (by decide) (by rfl) (by decide) (by rfl) (by rfl) (by rfl) ?_)
  w_strict (repeat' ((fail_if_success (with_reducible show LCt.CompSrcT _ _ _ _ _ _ _ _ _ _ _ _ _ _ _)); (first | (k_unfold; (try dsimp only)) | (k_end; wrow_close) | walk1 | (dsimp only; walk1) | (leave1; try dsimp only) | fail "no step")))
  k_dflt (refine LCt.CompSrcT.range (n := (X.length - pl).toNat) (by rfl) (by k_asm) (by k_asm) (by assumption) (small_one (by omega) (by omega) (by omega) (by omega)) (by rw [rangeSize_one]; omega) (by rw [sizeLine_eq]; omega) ?_)
  intro g74
  refine kci_range (fun l k => if markAt X k = true then l ++ [k] else l) ?turn4 ?fin4 ?grow4
  case grow4 => exact grows_filter _
  case turn4 =>
    intro k t2 I2 oI C oC D2 m₂ ys l h tk E' hlo hhi hys hC hx9 F9 N9 off9 ne9 mk9
    w_strict k_steps
    · refine LCg.CompEnd.intro (by assumption) (by assumption) _ (by kcf_all) off9 trivial ?_
      exact ⟨rfl, _, _, rfl, by rw [if_pos (by assumption)]⟩
    · refine LCg.CompEnd.intro (by assumption) (by assumption) _ (by kcf_all) off9 trivial ?_
      (rename List.any _ _ = false => hh)
      exact ⟨rfl, by rw [if_neg (by unfold markAt; rw [hh]; exact Bool.false_ne_true)]⟩
  case fin4 =>
  unfold KPfDone
  rw [foldl_filter, List.nil_append]
  intro ys4 hys4 hlen4
  have hlen5 := hys4.length
  unfold LCg.FinA
  intro D4 h4 tk4 F4 N4 off4
  w_strict (repeat' ((fail_if_success (with_reducible show wpAny _ _ (call (Value.ref 42) _) _ _ _)); (first | (k_unfold; (try dsimp only)) | (k_end; wrow_close) | walk1 | (dsimp only; walk1) | (leave1; try dsimp only) | fail "no step")))
  k_dflt (refine' text_end_ok  ?k1 ?k2 ?k3 ?k4 ?k5 ?kK ?kd ?ku ?q0 ?q1 ?_; (case k1 => k_asm); (case k2 => k_asm); (case k3 => k_asm); (case k4 => k_asm); (case k5 => k_asm); (case kK => first | exact rfl | assumption); (case kd => ktr_room); (case ku => units_room); (case q0 => omega); (case q1 => omega); skip)
  intro kt tt9 h9 tk9 hk1 hk2 hk3 F9 N9
  (try simp only [AllLt, and_true] at hlt9); (try dsimp only); (try k_fold)
  clear F4 N4 off4
  w_strict (repeat' ((fail_if_success (with_reducible show wpAny _ _ (binaryOp Operator.Add (Value.ref _) (Value.ref _)) _ _ _)); (first | (k_unfold; (try dsimp only)) | (k_end; wrow_close) | walk1 | (dsimp only; walk1) | (leave1; try dsimp only) | fail "no step")))
  (with_reducible rename Fr _ _ _ _ => F0); (with_reducible rename News _ _ _ _ => N0)
  k_dflt (refine add_L (ms := [(X.length : Int)]) F0 N0 (News.isList (N := N0) (by k_mem)) (News.isList (N := N0) (by k_mem)) hys4 (.cons _ _ .nil) (by simp only [List.length_singleton]; omega) ?_)
  intro Db cb hb9 Fb Nb _ hb5
  clear F0 N0
  w_strict (repeat' ((fail_if_success (with_reducible show wpAny _ _ (subscriptTail _ _ (Value.ref _) (Value.int _ _)) _ _ _)); (first | (k_unfold; (try dsimp only)) | (k_end; wrow_close) | walk1 | (dsimp only; walk1) | (leave1; try dsimp only) | fail "no step")))
  k_dflt (refine item_at (its := ys4 ++ [.int (X.length : Int) _]) (News.isList (N := Nb) List.mem_cons_self) (by decide) (by decide) (by rw [List.length_append, List.length_singleton]; omega) ?_)
  intro vb _ hvb
  obtain ⟨kb, tb4, rfl, hkb⟩ := IntsAre.at hb5 _ vb hvb
  have hkt : kt = kb := by
    have h := marks_first (by omega) hk1 hk2 hk3
    exact Option.some.inj (h.symm.trans hkb)
  subst hkt
  replace Nb := news_tl (news_sw Nb)
  clear hb5 hkb hk2 hk3 hys4
  w_strict (repeat' ((fail_if_success (with_reducible show wpAny _ _ (compareOp CmpOp.NotEq (Value.int _ _) (Value.int _ _)) _ _ _)); (first | (k_unfold; (try dsimp only)) | (k_end; wrow_close) | walk1 | (dsimp only; walk1) | (leave1; try dsimp only) | fail "no step")))
  k_dflt (refine ne_int ?_)
  rw [bne_self_eq_false]
  w_strict (repeat' ((fail_if_success (with_reducible show wpAny _ _ (exec (PySem.Stmt.Assign _ (PySem.Expr.ListComp _ _ _ _) _) _) _ _ _)); (first | (k_unfold; (try dsimp only)) | (k_end; wrow_close) | walk1 | (dsimp only; walk1) | (leave1; try dsimp only) | fail "no step")))
  k_dflt (refine LCt.Assign_ListComp_T (F₀ := by k_asm) (by rfl) (by with_unfolding_all rfl) (by with_unfolding_all rfl) (by decide) (by rfl) (by decide) (by rfl) (by rfl) (by rfl) ?_)
  w_strict (repeat' ((fail_if_success (with_reducible show LCt.CompSrcT _ _ _ _ _ _ _ _ _ _ _ _ _ _ _)); (first | (k_unfold; (try dsimp only)) | (k_end; wrow_close) | walk1 | (dsimp only; walk1) | (leave1; try dsimp only) | fail "no step")))
  k_dflt (refine LCt.CompSrcT.ledger (its := #[.int ((X.length : Int) - 1) _, .int ((X.length : Int) - 2) _]) (by rfl) (by k_asm) (by k_asm) (by k_mem) (by exact Nat.le_of_ble_eq_true rfl) ?_)
  intro g75
  refine kci_list (vs := [.int ((X.length : Int) - 1) _, .int ((X.length : Int) - 2) _]) (ns := [(X.length : Int) - 1, (X.length : Int) - 2]) (fun l k => if (fun k : Int => decide (pl ≤ k) && bra X k) k = true then l ++ [k] else l) (.cons _ _ (.cons _ _ .nil)) ?turn5 ?fin5 ?grow5
  case grow5 => exact grows_filter _
  case turn5 =>
    intro k t2 I2 oI C oC D2 m₂ ys l h tk E' hmem hys hC hx9 F9 N9 off9 ne9 mk9
    have hkX : k < X.length := by
      simp only [List.mem_cons, List.not_mem_nil, or_false] at hmem
      omega
    w_strict k_steps
    · refine LCg.CompEnd.intro (by assumption) (by assumption) _ (by kcf_all) off9 (by first | lcg_src | assumption) ?_
      rename_i ha hb
      exact ⟨rfl, _, _, rfl, by rw [if_pos (bra_t ha hb)]⟩
    · refine LCg.CompEnd.intro (by assumption) (by assumption) _ (by kcf_all) off9 (by first | lcg_src | assumption) ?_
      rename_i hb
      exact ⟨rfl, by rw [if_neg (bra_f hb)]⟩
    · refine LCg.CompEnd.intro (by assumption) (by assumption) _ (by kcf_all) off9 (by first | lcg_src | assumption) ?_
      rename_i ha
      exact ⟨rfl, by rw [if_neg (bra_n ha)]⟩
  case fin5 =>
  unfold KPfDone
  rw [foldl_filter, List.nil_append]
  intro ys5 hys5 hlen6
  replace hlen6 : ys5.length ≤ 2 := hlen6
  unfold LCg.FinA
  intro D5 h5 tk5 F5 N5 off5
  w_strict (repeat' ((fail_if_success (with_reducible show wpAny _ _ (call (Value.ref 49) _) _ _ _)); (first | (k_unfold; (try dsimp only)) | (k_end; wrow_close) | walk1 | (dsimp only; walk1) | (leave1; try dsimp only) | fail "no step")))
  k_dflt (refine' held_ok  ?k1 ?k2 ?k3 ?k4 ?k5 ?kK ?kd ?ku ?q0 ?q1 ?_; (case k1 => k_asm); (case k2 => k_asm); (case k3 => k_asm); (case k4 => k_asm); (case k5 => k_asm); (case kK => first | exact rfl | assumption); (case kd => ktr_room); (case ku => units_room); (case q0 => omega); (case q1 => omega); skip)
  intro tt9 h9 tk9 F9 N9
  (try simp only [AllLt, and_true] at hlt9); (try dsimp only); (try k_fold)
  clear F5 N5 off5
  w_strict (repeat' ((fail_if_success (with_reducible show wpAny _ _ (compareOp CmpOp.In (Value.int _ _) (Value.ref _)) _ _ _)); (first | (k_unfold; (try dsimp only)) | (k_end; wrow_close) | walk1 | (dsimp only; walk1) | (leave1; try dsimp only) | fail "no step")))
  k_dflt (refine in_list_ints (News.isList (N := N9) List.mem_cons_self) hys5 ?_)
  have hlen7 : ys5.length = (endsL X pl).length := hys5.length
  clear hys5
  replace N9 := news_sub (l' := [_]) N9 (fun q hq => by rw [List.mem_singleton.mp hq]; exact List.mem_cons_self)
  rcases hcs : (List.filter (fun k => decide (pl ≤ k) && bra X k) [(X.length : Int) - 1, (X.length : Int) - 2]).any (fun x => x == (X.length : Int) - 1) with _ | _
  · w_strict (repeat' ((fail_if_success (with_reducible show wpAny _ _ (compareOp CmpOp.Eq (Value.int _ _) (Value.int _ _)) _ _ _)); (first | (k_unfold; (try dsimp only)) | (k_end; wrow_close) | walk1 | (dsimp only; walk1) | (leave1; try dsimp only) | fail "no step")))
    (try k_unfold); (try dsimp only)
    k_dflt (refine eq_int ?_)
    rw [held_f (by omega) hcs]
    w_strict k_steps
  · w_strict (repeat' ((fail_if_success (with_reducible show wpAny _ _ (call (Value.builtin "len") _) _ _ _)); (first | (k_unfold; (try dsimp only)) | (k_end; wrow_close) | walk1 | (dsimp only; walk1) | (leave1; try dsimp only) | fail "no step")))
    k_dflt (refine len_list (News.isList (N := N9) List.mem_cons_self) (by rw [List.size_toArray]; omega) ?_)
    rw [List.size_toArray]
    w_strict (repeat' ((fail_if_success (with_reducible show wpAny _ _ (compareOp CmpOp.Eq (Value.int _ _) (Value.int _ _)) _ _ _)); (first | (k_unfold; (try dsimp only)) | (k_end; wrow_close) | walk1 | (dsimp only; walk1) | (leave1; try dsimp only) | fail "no step")))
    (try k_unfold); (try dsimp only)
    k_dflt (refine eq_int ?_)
    rw [held_t (by omega) hlen7 hcs]
    w_strict k_steps)end Mine

theorem PySem.Challenge.cw_xm0648_01_holds : PySem.Challenge.rw_xm0648_01.Holds := by
  exact Mine.main_holds
