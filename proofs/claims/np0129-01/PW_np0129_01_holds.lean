import PyProof.Rows.All
import Wide.All
import OpenK.AllK
import Wide.FinOn
import PySem.Challenge.RW_np0129_01
set_option Elab.async false
namespace Np
section
open PySem PySem.W PyProof.Rows
set_option Elab.async false
set_option maxRecDepth 100000
set_option maxHeartbeats 8000000
/-- the text's defs and classes alone -/
def viewX : PySem.Program := view PySem.Challenge.pw_np0129_01 [1, 2, 3, 4, 5, 6, 7, 8, 9, 10, 12, 13, 14, 15, 16, 17, 18, 19, 20, 21]
local macro_rules | `(tactic| o_head $H) => `(tactic| (
  refine holds_open (q := viewX) (loose := []) (Xt := fun s => xlAt viewX [] s && recOk (RowW.records (OpenRow.toRowW PySem.Challenge.rw_np0129_01.row)) s) (XP := XL viewX []) (Yf := Hook.obs $H) (Ya := Hook.val $H) (YP := Hook.says $H) (N := 2238) ?hl (Hook.of $H) (Hook.keeps $H) (fun s e => xl_of s (Bool.and_eq_true_iff.mp e).1) XL.keeps (by rfl) (by rfl) (by rfl) (fun s e => recFacts_of (Bool.and_eq_true_iff.mp e).2) (by rfl) (by first | assumption | decide +kernel) (by decide +kernel) ⟨rfl, rfl, rfl, rfl, rfl, by decide +kernel⟩ ?hw ?hc
  case hl => exact fun w => by kernel_rfl))
open_top hd for PySem.Challenge.rw_np0129_01
end
section
open PySem PySem.W PyProof.Rows
set_option Elab.async false
set_option maxRecDepth 100000

abbrev Led := List (Addr × Obj)
/-- what a caller hands to a call: the frames below, the frame, the written part, the ledger, the top -/
def Spec (w : World) (mean : ExcName → Option Value) (mg mb : Str → Option Value) (f : Addr) (D U : Nat) (news : Led) (vs : List Value) (P : Value → Led → Prop) : Prop :=
  ∀ (dp un : Nat) (gd : Option (List Code)) (cn : Str) (cs : Scope) (a : Addr) (ccd : Value) (cl : List (Str × Addr)) (outer : List Env) (A₀ : Around) (base h₀ : Heap) (L : Addr) (m : Str → Option Value) (s : Shared) (Q E : Value → Shared → Prop),
    Below A₀ base outer h₀ → Fr h₀ L s.heap m → (hd.heap_39 w.params).In h₀ → News h₀ L s.heap news → Top viewX (looseW viewX []) mean mg mb h₀ → cs.kind = .function → dp + D < recursionLimit → un + U < cLine →
    (∀ r news' h' tk', Fr h₀ L h' m → News h₀ L h' news' → P r news' → Q r { s with heap := h', toks := tk' }) →
    wpAny (model PySem.Challenge.rw_np0129_01.row.prog w) (ktrTop dp un gd cn cs L a ccd cl outer) (call (.ref f) vs) Q E s

/-- a frame's names, one by one -/
def ovr : List (Str × Option Value) → Str → Option Value
  | [], _ => none
  | (k, v) :: r, y => if y = k then v else ovr r y
def setO (x : Str) (v : Option Value) : List (Str × Option Value) → List (Str × Option Value)
  | [] => [(x, v)]
  | (k, u) :: r => if k = x then (k, v) :: r else (k, u) :: setO x v r
theorem ovr_set_at (x : Str) (v : Option Value) (y : Str) : ∀ l, ovr (setO x v l) y = if y = x then v else ovr l y
  | [] => rfl
  | (k, u) :: r => by
    unfold setO
    by_cases hk : k = x
    · subst hk
      rw [if_pos rfl]
      show (if y = k then v else ovr r y) = if y = k then v else if y = k then u else ovr r y
      by_cases hy : y = k
      · rw [if_pos hy, if_pos hy]
      · rw [if_neg hy, if_neg hy, if_neg hy]
    · rw [if_neg hk]
      show (if y = k then u else ovr (setO x v r) y) = if y = x then v else if y = k then u else ovr r y
      rw [ovr_set_at x v y r]
      by_cases hy : y = k
      · subst hy; rw [if_pos rfl, if_neg hk, if_pos rfl]
      · rw [if_neg hy, if_neg hy]
theorem ovr_set (x : Str) (v : Option Value) (l : List (Str × Option Value)) : (fun y => if y = x then v else ovr l y) = ovr (setO x v l) := funext fun y => (ovr_set_at x v y l).symm
theorem lookup_ovr (ns : List Str) : ∀ b : List (Str × Value), (fun y => b.lookup y) = ovr (b.map (fun p => (p.1, some p.2)) ++ ns.map fun n => (n, none)) := by
  intro b
  funext y
  induction b with
  | nil =>
    induction ns with
    | nil => rfl
    | cons n r ih =>
      show none = if y = n then none else ovr (r.map fun n => (n, none)) y
      by_cases h : y = n
      · rw [if_pos h]
      · rw [if_neg h]; exact ih
  | cons p r ih =>
    show List.lookup y (p :: r) = if y = p.1 then some p.2 else ovr (r.map (fun p => (p.1, some p.2)) ++ ns.map fun n => (n, none)) y
    rw [List.lookup_cons]
    by_cases h : y = p.1
    · rw [if_pos h]; simp [h]
    · rw [if_neg h, ← ih]
      have : (y == p.1) = false := by simpa using h
      rw [this]
theorem fr_ovr {h₀ h : Heap} {L : Addr} {b : List (Str × Value)} (F : Fr h₀ L h (fun y => b.lookup y)) (ns : List Str) : Fr h₀ L h (ovr (b.map (fun p => (p.1, some p.2)) ++ ns.map fun n => (n, none))) := by
  rw [lookup_ovr ns b] at F; exact F
theorem fr_eq {h₀ h : Heap} {L : Addr} {m m' : Str → Option Value} (F : Fr h₀ L h m) (e : m = m') : Fr h₀ L h m' := e ▸ F
end
section
open PySem PySem.W PyProof.Rows PySem.Calls
set_option Elab.async false
set_option maxRecDepth 100000

def LEnd (h₀ : Heap) (L : Addr) (s₁ : Shared) (I : Addr) (it : Obj) (rest : (Str → Option Value) → Led → Prop) (s₂ : Shared) : Prop :=
  ∃ h' tk m' news', s₂ = { s₁ with heap := h', toks := tk } ∧ Fr h₀ L h' m' ∧ News h₀ L h' ((I, it) :: news') ∧ (∀ p ∈ news', p.1 ≠ I) ∧ rest m' news'
def LPost (h₀ : Heap) (L : Addr) (s₁ : Shared) (I : Addr) (it : Obj) (rest : (Str → Option Value) → Led → Prop) (Q : Flow → Shared → Prop) (f : Flow) (s₂ : Shared) : Prop :=
  match f with
  | .ret v => Q (.ret v) s₂
  | .brk => Q .next s₂
  | _ => LEnd h₀ L s₁ I it rest s₂
/-- the end of a turn: what is kept of the ledger (in any order), the names -/
theorem LEnd.intro {h₀ : Heap} {L I : Addr} {it : Obj} {rest : (Str → Option Value) → Led → Prop} {s₁ : Shared} {h' : Heap} {tk : Nat} {m' : Str → Option Value} {all : Led} (F : Fr h₀ L h' m') (N : News h₀ L h' all) (news' : Led)
    (hi : (I, it) ∈ all) (sub : ∀ p ∈ news', p ∈ all) (off : ∀ p ∈ news', p.1 ≠ I) (r : rest m' news') : LEnd h₀ L s₁ I it rest { s₁ with heap := h', toks := tk } :=
  ⟨h', tk, m', news', rfl, F, fun p hp => by rcases List.mem_cons.mp hp with rfl | hp; exact N _ hi; exact N p (sub p hp), off, r⟩
/-- a place where the walk is to stop -/
def Stop (P : Prop) : Prop := P
theorem Stop.mk {P : Prop} (h : Stop P) : P := h
theorem Stop.out {P : Prop} (h : P) : Stop P := h
/-- a sum of tokens is put behind one name -/
theorem gen_toks {prog : Program} {w : World} {A : Around} {α : Type} {p : Sem α} {Q : α → Shared → Prop} {E : Value → Shared → Prop} {h : Heap} {g : Array GenState} {d : Drawn} {t n : Nat} {o : OsState}
    (H : ∀ tk, wpAny (model prog w) A p Q E ⟨h, g, d, tk, o⟩) : wpAny (model prog w) A p Q E ⟨h, g, d, t + n, o⟩ := H _

section
variable {prog : Program} {w : World} {A : Around} {E : Value → Shared → Prop} {s : Shared} {env : Env} {h₀ : Heap} {x : Str} {body : List Stmt} {Q : Flow → Shared → Prop}

theorem loop_core {I : Addr} {fp : List Addr} {n : Nat} {P : Nat → Value → Prop} {St : Nat → Heap → Prop} {m : Str → Option Value} {news : Led} (J : Nat → (Str → Option Value) → Led → Prop)
    (W : Walks prog w A I fp [I] n P St) (hL : env.locals ∉ fp) (hI : h₀.get? I = none) (hlive : ∀ i h, St i h → ∃ o, h.get? I = some o) (hst : St 0 s.heap)
    (F : Fr h₀ env.locals s.heap m) (N : News h₀ env.locals s.heap news) (hn : ∀ p ∈ news, p.1 ≠ I)
    (hax : ∀ b ∈ fp, b ≠ I → (∃ o, h₀.get? b = some o) ∨ ∃ o, ∀ i m nw, J i m nw → (b, o) ∈ nw) (hj : J 0 m news)
    (turn : ∀ i v m₁ news₁ h tk ito, i < n → P i v → J i m₁ news₁ → (∀ p ∈ news₁, p.1 ≠ I) → Fr h₀ env.locals h (fun y => if y = x then some v else m₁ y) → News h₀ env.locals h ((I, ito) :: news₁) →
      wpAny (model prog w) A (execs body env) (LPost h₀ env.locals { s with heap := h, toks := tk } I ito (J (i + 1)) Q) E { s with heap := h, toks := tk })
    (done : ∀ m₁ news₁ h tk, J n m₁ news₁ → Fr h₀ env.locals h m₁ → News h₀ env.locals h news₁ → Q .next { s with heap := h, toks := tk }) :
    LoopAtV prog w A h₀ env x body Q E (.ref I) s := by
  refine ⟨I, fp, [I], n, P, St, m, news, J, rfl, W, hL, ?_, ?_, hst, F, N, hj, ?_, ?_⟩
  · intro b hb; rw [List.mem_singleton.mp hb]; exact hI
  · intro p hp hm; exact hn p hp (List.mem_singleton.mp hm)
  · rintro i v m₁ news₁ s₁ own ⟨hh', tk', rfl⟩ hin hP hJ hoff hown hget hall hst' F₁ N₁
    obtain ⟨ito, hito⟩ := hlive _ _ hst'
    have hIfp : I ∈ fp := W.sub I (List.mem_singleton.mpr rfl)
    have hmem := hall I hIfp hI ito hito
    have hne : ∀ p ∈ news₁, p.1 ≠ I := fun p hp e => hoff p hp (List.mem_singleton.mpr e)
    have N₂ : News h₀ env.locals hh' ((I, ito) :: news₁) := fun p hp => by
      rcases List.mem_cons.mp hp with rfl | hp
      · exact N₁ _ (List.mem_append_left _ hmem)
      · exact N₁ p (List.mem_append_right _ hp)
    refine wpAny_mono (turn i v m₁ news₁ hh' tk' ito hin hP hJ hne F₁ N₂) (fun f s₂ p => ?_) fun _ _ e => e
    have fin : LEnd h₀ env.locals { s with heap := hh', toks := tk' } I ito (J (i + 1)) s₂ → LoopStepU h₀ env.locals [I] own (J (i + 1)) { s with heap := hh', toks := tk' } .next s₂ := by
      rintro ⟨h', tk, m', news', e, F', N', hne', hJ'⟩
      refine ⟨rfl, h', tk, m', news', e, F', ?_, fun p hp hq => hne' p hp (List.mem_singleton.mp hq), hJ'⟩
      intro p hp
      rcases List.mem_append.mp hp with hp | hp
      · have hpf := hown p hp
        by_cases hpI : p.1 = I
        · have e1 := hget p hp
          have e2 : hh'.get? I = some p.2 := by rw [← hpI]; exact e1
          have e3 : p.2 = ito := by rw [hito] at e2; exact (Option.some.inj e2).symm
          have e4 : p = (I, ito) := Prod.ext hpI e3
          rw [e4]; exact N' _ (.head _)
        · rcases hax p.1 hpf hpI with ⟨o, ho⟩ | ⟨o, ho⟩
          · have := (N₁ p (List.mem_append_left _ hp)).2.2
            rw [ho] at this; cases this
          · have e1 := (N₁ _ (List.mem_append_right _ (ho _ _ _ hJ))).1
            have e2 := hget p hp
            have e3 : p.2 = o := by
              have e2' : hh'.get? p.1 = some p.2 := e2
              have e1' : hh'.get? p.1 = some o := e1
              rw [e1'] at e2'; exact (Option.some.inj e2').symm
            have e4 : p = (p.1, o) := Prod.ext rfl e3
            rw [e4]; exact N' _ (.tail _ (ho _ _ _ hJ'))
      · exact N' p (.tail _ hp)
    cases f with
    | ret v => exact .ret p
    | brk => exact .brk p
    | next => exact .next (fin p)
    | cont => exact .cont (fin p)
  · rintro h' tk m' news' F' N' _ hJ
    exact done m' news' h' tk hJ F' N'

/-- a loop over a list that the ledger bears all along (or the base) -/
theorem for_list {l : Addr} {vs : Array Value} {m : Str → Option Value} {news : Led} (J : Nat → (Str → Option Value) → Led → Prop)
    (hh : A.handled = none) (hl : s.heap.IsList l vs) (hlL : l ≠ env.locals)
    (F : Fr h₀ env.locals s.heap m) (N : News h₀ env.locals s.heap news)
    (hax : (∃ o, h₀.get? l = some o) ∨ ∃ o, ∀ i m nw, J i m nw → (l, o) ∈ nw) (hj : J 0 m news)
    (turn : ∀ i v m₁ news₁ h tk I ito, vs[i]? = some v → J i m₁ news₁ → (∀ p ∈ news₁, p.1 ≠ I) → Fr h₀ env.locals h (fun y => if y = x then some v else m₁ y) → News h₀ env.locals h ((I, ito) :: news₁) →
      wpAny (model prog w) A (execs body env) (LPost h₀ env.locals { s with heap := h, toks := tk } I ito (J (i + 1)) Q) E { s with heap := h, toks := tk })
    (done : ∀ m₁ news₁ h tk, J vs.size m₁ news₁ → Fr h₀ env.locals h m₁ → News h₀ env.locals h news₁ → Q .next { s with heap := h, toks := tk }) :
    wpAny (model prog w) A (pyIter (.ref l)) (fun it s₂ => LoopAtV prog w A h₀ env x body Q E it s₂) E s := by
  obtain ⟨ol, hol, _⟩ := id hl
  have hlt : l < s.heap.objs.size := Heap.lt_size hol
  have hne : l ≠ s.heap.objs.size := Nat.ne_of_lt hlt
  refine wpAny_pyIter_list hl ?_
  have W := Walks.list (prog := prog) (w := w) hh s.heap.objs.size l hne vs
  refine loop_core J W ?_ (next_is_new F) ?_ ⟨⟨_, Heap.get?_push_size _ rfl, rfl, rfl⟩, hl.at fun o e => Heap.get?_push_of_some _ e⟩ (F.push _)
    (fun p hp => ⟨Heap.get?_push_of_some _ (N p hp).1, (N p hp).2⟩) (fun p hp => Nat.ne_of_lt (Heap.lt_size (N p hp).1)) ?_ hj ?_ done
  · intro hm
    rcases List.mem_cons.mp hm with e | hm
    · exact absurd F.ns.lt (e ▸ Nat.lt_irrefl _)
    · exact hlL (List.mem_singleton.mp hm).symm
  · rintro i h ⟨⟨o, ho, _⟩, _⟩; exact ⟨o, ho⟩
  · intro b hb hbI
    rcases List.mem_cons.mp hb with e | hm
    · exact absurd e hbI
    · rw [List.mem_singleton.mp hm]; exact hax
  · intro i v m₁ news₁ h tk ito _ hP hJ hne F₁ N₁
    exact turn i v m₁ news₁ h tk _ ito (by simpa using hP) hJ hne F₁ N₁

/-- a loop over the keys of a dict by texts -/
theorem for_dict {d : Addr} {K : Type} [DecidableEq K] {knd : KeyKind prog w K} {kvs : List (K × Value)} {m : Str → Option Value} {news : Led} (J : Nat → (Str → Option Value) → Led → Prop)
    (hh : A.handled = none) (hds : (d == sysModules) = false) (hd : s.heap.DictOf knd d kvs) (hdL : d ≠ env.locals)
    (F : Fr h₀ env.locals s.heap m) (N : News h₀ env.locals s.heap news)
    (hax : (∃ o, h₀.get? d = some o) ∨ ∃ o, ∀ i m nw, J i m nw → (d, o) ∈ nw) (hj : J 0 m news)
    (turn : ∀ i k y v m₁ news₁ h tk I ito, kvs[i]? = some (k, y) → knd.is k v = true → J i m₁ news₁ → (∀ p ∈ news₁, p.1 ≠ I) → Fr h₀ env.locals h (fun y => if y = x then some v else m₁ y) → News h₀ env.locals h ((I, ito) :: news₁) →
      wpAny (model prog w) A (execs body env) (LPost h₀ env.locals { s with heap := h, toks := tk } I ito (J (i + 1)) Q) E { s with heap := h, toks := tk })
    (done : ∀ m₁ news₁ h tk, J kvs.length m₁ news₁ → Fr h₀ env.locals h m₁ → News h₀ env.locals h news₁ → Q .next { s with heap := h, toks := tk }) :
    wpAny (model prog w) A (pyIter (.ref d)) (fun it s₂ => LoopAtV prog w A h₀ env x body Q E it s₂) E s := by
  obtain ⟨ep, hat⟩ := hd.dictAt
  have hlt : d < s.heap.objs.size := hat.lt_size
  have hne : d ≠ s.heap.objs.size := Nat.ne_of_lt hlt
  refine wpAny_pyIter_dict hds hat ?_
  have W := Walks.dictKeys (prog := prog) (w := w) (knd := knd) hh s.heap.objs.size d hne kvs ep
  refine loop_core J W ?_ (next_is_new F) ?_ ⟨⟨_, Heap.get?_push_size _ rfl, rfl, rfl⟩, hat.push _⟩ (F.push _)
    (fun p hp => ⟨Heap.get?_push_of_some _ (N p hp).1, (N p hp).2⟩) (fun p hp => Nat.ne_of_lt (Heap.lt_size (N p hp).1)) ?_ hj ?_ done
  · intro hm
    rcases List.mem_cons.mp hm with e | hm
    · exact absurd F.ns.lt (e ▸ Nat.lt_irrefl _)
    · exact hdL (List.mem_singleton.mp hm).symm
  · rintro i h ⟨⟨o, ho, _⟩, _⟩; exact ⟨o, ho⟩
  · intro b hb hbI
    rcases List.mem_cons.mp hb with e | hm
    · exact absurd e hbI
    · rw [List.mem_singleton.mp hm]; exact hax
  · rintro i v m₁ news₁ h tk ito _ ⟨k, y, hx, hk⟩ hJ hne F₁ N₁
    exact turn i k y v m₁ news₁ h tk _ ito hx hk hJ hne F₁ N₁

/-- a loop over a range by ones -/
theorem for_range {r : Addr} {a₀ b₀ : Int} {t₀ u₀ v₀ : Tok} {n : Nat} {m : Str → Option Value} {news : Led} (J : Nat → (Str → Option Value) → Led → Prop)
    (hh : A.handled = none) (hr : IsRange s.heap r a₀ b₀ 1 t₀ u₀ v₀) (hsmall : Builtin.Range.small a₀ b₀ 1 = true) (hn : Builtin.Range.rangeSize a₀ b₀ 1 = (n : Int))
    (F : Fr h₀ env.locals s.heap m) (N : News h₀ env.locals s.heap news) (hj : J 0 m news)
    (turn : ∀ i t m₁ news₁ h tk I ito, i < n → J i m₁ news₁ → (∀ p ∈ news₁, p.1 ≠ I) → Fr h₀ env.locals h (fun y => if y = x then some (.int (a₀ + (i : Int)) t) else m₁ y) → News h₀ env.locals h ((I, ito) :: news₁) →
      wpAny (model prog w) A (execs body env) (LPost h₀ env.locals { s with heap := h, toks := tk } I ito (J (i + 1)) Q) E { s with heap := h, toks := tk })
    (done : ∀ m₁ news₁ h tk, J n m₁ news₁ → Fr h₀ env.locals h m₁ → News h₀ env.locals h news₁ → Q .next { s with heap := h, toks := tk }) :
    wpAny (model prog w) A (pyIter (.ref r)) (fun it s₂ => LoopAtV prog w A h₀ env x body Q E it s₂) E s := by
  refine wpAny_pyIter_range hr hsmall ?_
  have W : Walks prog w A s.heap.objs.size [s.heap.objs.size] [s.heap.objs.size] n (fun i v => i < n ∧ ∃ t, v = .int (a₀ + i * 1) t)
      (fun i h => IsRangeIter h s.heap.objs.size (a₀ + (i : Nat) * 1) ((n : Int) - (i : Nat)) 1) := (Walks.range hh _ a₀ 1 n).bound
  refine loop_core J W ?_ (next_is_new F) ?_ (by show IsRangeIter _ _ _ _ _; rw [hn]; simpa using Heap.get?_push_size _ rfl) (F.push _)
    (fun p hp => ⟨Heap.get?_push_of_some _ (N p hp).1, (N p hp).2⟩) (fun p hp => Nat.ne_of_lt (Heap.lt_size (N p hp).1)) ?_ hj ?_ done
  · intro hm
    exact absurd F.ns.lt ((List.mem_singleton.mp hm) ▸ Nat.lt_irrefl _)
  · intro i h hst; exact ⟨_, hst⟩
  · intro b hb hbI
    exact absurd (List.mem_singleton.mp hb) hbI
  · rintro i v m₁ news₁ h tk ito hi ⟨_, t, rfl⟩ hJ hne F₁ N₁
    rw [Int.mul_one] at F₁
    exact turn i t m₁ news₁ h tk _ ito hi hJ hne F₁ N₁
end

theorem isList_of {h₀ h : Heap} {L l : Addr} {news : Led} {vs : Array Value} {n : Nat} (N : News h₀ L h news) (hm : (l, PySem.W.listOf vs n) ∈ news) : h.IsList l vs := ⟨_, (N _ hm).1, rfl, n, rfl⟩
theorem news_ne {h₀ h : Heap} {L l : Addr} {o : Obj} {news : Led} (N : News h₀ L h news) (hm : (l, o) ∈ news) : l ≠ L := (N _ hm).2.1

section
variable {prog : Program} {w : World} {A : Around} {E : Value → Shared → Prop} {Q : Flow → Shared → Prop} {s : Shared} {env : Env} {h₀ : Heap} {L : Addr}
/-- a while that leaves the ledger as it is -/
theorem while_led {test : PySem.Expr} {body : List Stmt} {pos : Pos} {m : Str → Option Value} {news : Led} (J : Nat → (Str → Option Value) → Prop) {n₀ : Nat}
    (F : Fr h₀ L s.heap m) (N : News h₀ L s.heap news) (hJ : J n₀ m)
    (turn : ∀ n m₁ h₁ tk₁, Fr h₀ L h₁ m₁ → News h₀ L h₁ news → J n m₁ →
      wpAny (model prog w) A (isTrue test env (eval test env)) (fun b s₂ =>
        if b = true then wpAny (model prog w) A (execs body env) (WhileStep h₀ L s (fun n m nw => nw = news ∧ J n m) n) E s₂ else Q .next s₂) E { s with heap := h₁, toks := tk₁ })
    (hE : PassesOwn (model prog w) A env E := by passes_own) :
    wpAny (model prog w) A (exec (.While test body [] pos) env) Q E s :=
  While_inv (fun n m nw => nw = news ∧ J n m) F N ⟨rfl, hJ⟩ (fun n m₁ news₁ h₁ tk₁ F₁ N₁ hj => by obtain ⟨rfl, hj⟩ := hj; exact turn n m₁ h₁ tk₁ F₁ N₁ hj) hE
end
end
section
open PySem PySem.W PyProof.Rows PySem.Calls
set_option Elab.async false
set_option maxRecDepth 100000

/-- the ledger with another object at d -/
def setL (d : Addr) (o : Obj) (l : Led) : Led := l.map fun p => if p.1 = d then (d, o) else p
theorem setL_ne {d : Addr} {o : Obj} {l : Led} {p : Addr × Obj} (h : p ∈ l) (hn : p.1 ≠ d) : p ∈ setL d o l :=
  List.mem_map.mpr ⟨p, h, by rw [if_neg hn]⟩
theorem setL_self {d : Addr} {o o₀ : Obj} {l : Led} (h : (d, o₀) ∈ l) : (d, o) ∈ setL d o l :=
  List.mem_map.mpr ⟨(d, o₀), h, by rw [if_pos rfl]⟩
theorem setL_cons {d : Addr} {o : Obj} {l : Led} {p : Addr × Obj} (hn : p.1 ≠ d) : setL d o (p :: l) = p :: setL d o l := by
  show (if p.1 = d then (d, o) else p) :: _ = _; rw [if_neg hn]; rfl
theorem setL_append {d : Addr} {o : Obj} {pre l : Led} (h : ∀ p ∈ pre, p.1 ≠ d) : setL d o (pre ++ l) = pre ++ setL d o l := by
  induction pre with
  | nil => rfl
  | cons p r ih =>
    rw [List.cons_append, setL_cons (h p (.head _)), ih fun q hq => h q (.tail _ hq)]; rfl
theorem setL_inv {d : Addr} {o : Obj} {l : Led} {p : Addr × Obj} (h : p ∈ setL d o l) : p = (d, o) ∨ (p ∈ l ∧ p.1 ≠ d) := by
  obtain ⟨q, hq, e⟩ := List.mem_map.mp h
  by_cases hd : q.1 = d
  · rw [if_pos hd] at e; exact .inl e.symm
  · rw [if_neg hd] at e; subst e; exact .inr ⟨hq, hd⟩
theorem setL_adr {d : Addr} {o : Obj} {l : Led} : (setL d o l).map (·.1) = l.map (·.1) := by
  unfold setL
  rw [List.map_map]
  refine List.map_congr_left fun p _ => ?_
  show (if p.1 = d then (d, o) else p).1 = p.1
  by_cases h : p.1 = d
  · rw [if_pos h]; exact h.symm
  · rw [if_neg h]
theorem setL_lt {d a : Addr} {o : Obj} {l : Led} (h : ∀ p ∈ l, p.1 < a) : ∀ p ∈ setL d o l, p.1 < a := by
  intro p hp
  have : p.1 ∈ (setL d o l).map (·.1) := List.mem_map.mpr ⟨p, hp, rfl⟩
  rw [setL_adr] at this
  obtain ⟨q, hq, e⟩ := List.mem_map.mp this
  rw [← e]; exact h q hq
theorem setL_off {d a : Addr} {o : Obj} {l : Led} (h : ∀ p ∈ l, p.1 ≠ a) : ∀ p ∈ setL d o l, p.1 ≠ a := by
  intro p hp
  have : p.1 ∈ (setL d o l).map (·.1) := List.mem_map.mpr ⟨p, hp, rfl⟩
  rw [setL_adr] at this
  obtain ⟨q, hq, e⟩ := List.mem_map.mp this
  rw [← e]; exact h q hq
def rest (d : Addr) (l : Led) : Led := l.filter fun p => decide (p.1 ≠ d)
theorem rest_off {d : Addr} {l : Led} : ∀ p ∈ rest d l, p.1 ≠ d := fun p hp => by simpa using (List.mem_filter.mp hp).2
theorem news_front {h₀ h : Heap} {L d : Addr} {o : Obj} {l : Led} (N : News h₀ L h l) (hm : (d, o) ∈ l) : News h₀ L h ((d, o) :: rest d l) := fun p hp => by
  rcases List.mem_cons.mp hp with rfl | hp
  · exact N _ hm
  · exact N p (List.mem_filter.mp hp).1
theorem news_unfront {h₀ h : Heap} {L d : Addr} {o : Obj} {l : Led} (N : News h₀ L h ((d, o) :: rest d l)) : News h₀ L h (setL d o l) := fun p hp => by
  rcases setL_inv hp with rfl | ⟨hp, hn⟩
  · exact N _ (.head _)
  · exact N p (.tail _ (List.mem_filter.mpr ⟨hp, by simpa using hn⟩))
theorem news_sub {h₀ h : Heap} {L : Addr} {l l' : Led} (N : News h₀ L h l) (hs : ∀ p ∈ l', p ∈ l) : News h₀ L h l' := fun p hp => N p (hs p hp)

section
variable {prog : Program} {w : World} {A : Around} {E : Value → Shared → Prop} {s : Shared} {h₀ : Heap} {L d : Addr} {m : Str → Option Value} {news : Led} {o : Obj} {K : Type} [DecidableEq K] {knd : KeyKind prog w K} {kvs : List (K × Value)} {k : K} {key : Value}

theorem dictAt_of (N : News h₀ L s.heap news) (hm : (d, o) ∈ news) (hd : o.IsDictOf knd kvs) : s.heap.DictOf knd d kvs := Heap.dictOf_iff.mpr ⟨o, (N _ hm).1, hd⟩
theorem dict_in {Q : Value → Shared → Prop} (N : News h₀ L s.heap news) (hm : (d, o) ∈ news) (hd : o.IsDictOf knd kvs) (hs : (d == sysModules) = false) (hk : knd.is k key = true)
    (h : Q (.bool (valueAt kvs k).isSome) { s with toks := s.toks + 1 }) : wpAny (model prog w) A (compareOp .In key (.ref d)) Q E s :=
  wpAny_in_of hk hs (dictAt_of N hm hd).mapOf h
theorem dict_notin {Q : Value → Shared → Prop} (N : News h₀ L s.heap news) (hm : (d, o) ∈ news) (hd : o.IsDictOf knd kvs) (hs : (d == sysModules) = false) (hk : knd.is k key = true)
    (h : Q (.bool (!(valueAt kvs k).isSome)) { s with toks := s.toks + 1 }) : wpAny (model prog w) A (compareOp .NotIn key (.ref d)) Q E s :=
  wpAny_notIn_of hk hs (dictAt_of N hm hd).mapOf h
theorem dict_item {value slice : PySem.Expr} {Q : Value → Shared → Prop} (N : News h₀ L s.heap news) (hm : (d, o) ∈ news) (hd : o.IsDictOf knd kvs) (hk : knd.is k key = true) (hv : (valueAt kvs k).isSome = true)
    (h : ∀ v, valueAt kvs k = some v → Q v { s with toks := s.toks + 1 })
    (hs : subscripted slice false (.ref d) key = operate [.ref d, key] (getItem (.ref d) key)) :
    wpAny (model prog w) A (subscriptTail value slice (.ref d) key) Q E s := by
  obtain ⟨v, hv⟩ := Option.isSome_iff_exists.mp hv
  have D := dictAt_of N hm hd
  exact tail_any D.typeIs slot_dict_getitem.lookup (wpAny_getItem_of hk D.mapOf hv (h v hv)) hs
theorem dict_getItem {Q : Value → Shared → Prop} (N : News h₀ L s.heap news) (hm : (d, o) ∈ news) (hd : o.IsDictOf knd kvs) (hk : knd.is k key = true) (hv : (valueAt kvs k).isSome = true)
    (h : ∀ v, valueAt kvs k = some v → Q v { s with toks := s.toks + 1 }) : wpAny (model prog w) A (getItem (.ref d) key) Q E s := by
  obtain ⟨v, hv⟩ := Option.isSome_iff_exists.mp hv
  exact wpAny_getItem_of hk (dictAt_of N hm hd).mapOf hv (h v hv)
theorem dict_set {v : Value} {Q : Unit → Shared → Prop} (F : Fr h₀ L s.heap m) (N : News h₀ L s.heap news) (hm : (d, o) ∈ news) (hd : o.IsDictOf knd kvs) (hk : knd.is k key = true)
    (h : ∀ h' o', Fr h₀ L h' m → News h₀ L h' (setL d o' news) → o'.IsDictOf knd (stored kvs k v) → Q () { s with heap := h', toks := s.toks + 1 })
    (hz : kvs.length ≤ sizeLine) : wpAny (model prog w) A (setItem (.ref d) key v) Q E s := by
  have Nm := N _ hm
  refine wpAny_setItem_pairs (hsz := hz) hk (dictAt_of N hm hd) fun h' hmm hs => ?_
  obtain ⟨o', ho', hd'⟩ := Heap.dictOf_iff.mp hmm
  refine h h' o' (F.change hs Nm.2.1 Nm.2.2) (fun p hp => ?_) hd'
  rcases setL_inv hp with rfl | ⟨hp, hn⟩
  · exact ⟨ho', Nm.2⟩
  · exact ⟨(hs.2 p.1 hn).trans (N p hp).1, (N p hp).2⟩
theorem list_append {its : Array Value} {n : Nat} {x : Value} {Q : Value → Shared → Prop} (F : Fr h₀ L s.heap m) (N : News h₀ L s.heap news) (hm : (d, PySem.W.listOf its n) ∈ news)
    (h : ∀ h', Fr h₀ L h' m → News h₀ L h' (setL d (PySem.W.listOf (its.push x) (n + 1)) news) → Q .none { s with heap := h' }) (hsz : its.size ≤ sizeLine) :
    wpAny (model prog w) A (call (.builtin "list.append") [.ref d, x]) Q E s := by
  have Nm := N _ hm
  refine append_at (hsz := hsz) Nm.1 fun h' hs ho' => h h' (F.change hs Nm.2.1 Nm.2.2) fun p hp => ?_
  rcases setL_inv hp with rfl | ⟨hp, hn⟩
  · exact ⟨ho', Nm.2⟩
  · exact ⟨(hs.2 p.1 hn).trans (N p hp).1, (N p hp).2⟩
theorem attr_set {Kf : Frag} {x C dx : Addr} {ox : Obj} {es es' : List DictEntry} {n n' : Nat} {name : Str} {v : Value} {Q : Unit → Shared → Prop} (F : Fr h₀ L s.heap m) (X₀ : Kf.In h₀) (N : News h₀ L s.heap news) (I : InstAt s.heap x ox C (some (dictOf es n))) (hd : ox.dict = some dx)
    (hm : (dx, dictOf es n) ∈ news)
    (hs : findIn Kf (.ref C) "__setattr__" = some (some (.builtin "object.__setattr__"))) (hp : plainOver Kf C = true) (ht : takerIn Kf C name = some none) (hh : hasDictIn Kf C = true) (hl : (getL name es).isSome = true)
    (e : (putL name (PyData.keyHash w.params name) (.str name (s.toks + 1)) v es, putN name es n) = (es', n')) (hz : es'.length ≤ 1000)
    (h : ∀ h', Fr h₀ L h' m → News h₀ L h' (setL dx (dictOf es' n') news) → Q () { s with heap := h', toks := s.toks + 2 }) :
    wpAny (model prog w) A (setAttr (.ref x) name v) Q E s :=
  set_dict F X₀ (news_front N hm) I hd hs hp ht hh hl e (Upd.head rest_off) hz fun h' F' N' => h h' F' (news_unfront N')
end

section
variable {prog : Program} {w : World} {A : Around} {E : Value → Shared → Prop} {s : Shared} {h₀ : Heap} {L l : Addr} {m : Str → Option Value} {news : Led} {value slice : PySem.Expr} {its : Array Value} {n : Nat} {vl vu : Value} {Q : Value → Shared → Prop}
theorem slice_butlast (F : Fr h₀ L s.heap m) (N : News h₀ L s.heap news) (hm : (l, PySem.W.listOf its n) ∈ news) (hz : its.size ≤ sizeLine) (pl : IsPart vl none) (pu : IsPart vu (some (-1)))
    (h : ∀ D h', Fr h₀ L h' m → News h₀ L h' ((D, PySem.W.listOf (its.toList.take (its.size - 1)).toArray 0) :: news) → (∀ p ∈ news, p.1 < D) → Q (.ref D) { s with heap := h' })
    (hs : subscripted slice false (.ref l) (.ref s.heap.objs.size) = operate [.ref s.heap.objs.size, .ref l] (getItem (.ref l) (.ref s.heap.objs.size))) (ht : ∀ r, letTemporaryGo value (.ref l) r = pure ()) :
    wpAny (model prog w) A (subscriptTail value slice (.ref l) (.ref s.heap.objs.size)) Q E { s with heap := s.heap.push { cls := .type "slice", data := .fields #[vl, vu, .none] } } := by
  refine kmk_slice F N (isList_of N hm) pl pu (fun D h' F' N' l1 => h D h' F' ?_ l1) hs ht hz
  have := slicePick_butLast its 1 (Nat.le_refl _)
  rw [← this]; exact N'
end

section
variable {prog : Program} {w : World} {A : Around} {E : Value → Shared → Prop} {s : Shared} {h₀ : Heap} {L l : Addr} {news : Led} {value slice : PySem.Expr} {its : Array Value} {n : Nat} {u : Tok} {Q : Value → Shared → Prop}
theorem list_item {k : Int} (N : News h₀ L s.heap news) (hm : (l, PySem.W.listOf its n) ∈ news) (h0 : 0 ≤ k) (h1 : k < its.size) (hz : its.size ≤ sizeLine) (h : ∀ v, its[k.toNat]? = some v → Q v s)
    (hs : subscripted slice false (.ref l) (.int k u) = operate [.ref l, .int k u] (getItem (.ref l) (.int k u))) :
    wpAny (model prog w) A (subscriptTail value slice (.ref l) (.int k u)) Q E s := by
  have hl := isList_of N hm
  have hlt : k.toNat < its.size := by omega
  have hz' : its.size ≤ 16777216 := by rw [← sizeLine_eq]; exact hz
  exact tail_any hl.typeIs slot_list_getitem.lookup (wpAny_getItem_list (x := its[k.toNat]) hl h0 (by omega) (by simp [hlt]) (h _ (by simp [hlt]))) hs
theorem list_lastS {R : List Str} (N : News h₀ L s.heap news) (hm : (l, PySem.W.listOf its n) ∈ news) (hR : StrsAre its.toList R) (hne : R ≠ []) (h : ∀ t, Q (.str (R.getLastD (Str.ofString "")) t) s)
    (hs : subscripted slice false (.ref l) (.int (-1) u) = operate [.ref l, .int (-1) u] (getItem (.ref l) (.int (-1) u))) :
    wpAny (model prog w) A (subscriptTail value slice (.ref l) (.int (-1) u)) Q E s := by
  have hl := isList_of N hm
  have hlen := hR.length
  have hpos : 0 < R.length := List.length_pos_iff.mpr hne
  have hsz : its.size = R.length := by simpa using hlen
  have hg : R[R.length - 1]? = some (R.getLastD (Str.ofString "")) := by
    rw [← List.getLast?_eq_getElem?, List.getLastD_eq_getLast?]
    cases hq : R.getLast? with
    | none => exact absurd (List.getLast?_eq_none_iff.mp hq) hne
    | some x => rfl
  obtain ⟨t, ht⟩ := hR.get _ _ hg
  refine tail_any hl.typeIs slot_list_getitem.lookup (wpAny_getItem_list_neg (x := .str (R.getLastD (Str.ofString "")) t) hl (by decide) (by omega) (by decide) ?_ (h t)) hs
  have e : ((-1 : Int) + (its.size : Int)).toNat = R.length - 1 := by omega
  rw [e]
  simpa using ht
end

section
variable {prog : Program} {w : World} {A : Around} {E : Value → Shared → Prop} {s : Shared} {h₀ : Heap} {L l b : Addr} {m : Str → Option Value} {news : Led} {its its2 : Array Value} {n k : Nat} {Q : Value → Shared → Prop}
theorem list_plus (F : Fr h₀ L s.heap m) (N : News h₀ L s.heap news) (hm : (l, PySem.W.listOf its n) ∈ news) (hm2 : (b, PySem.W.listOf its2 k) ∈ news)
    (h : ∀ D h', Fr h₀ L h' m → News h₀ L h' ((D, PySem.W.listOf (its.toList ++ its2.toList).toArray 0) :: news) → (∀ p ∈ news, p.1 < D) → Q (.ref D) { s with heap := h' })
    (hsz : its.size + its2.size ≤ sizeLine) : wpAny (model prog w) A (binaryOp .Add (.ref l) (.ref b)) Q E s :=
  add_arrays (hsz := hsz) F N (isList_of N hm) (isList_of N hm2) fun h' F' N' => h _ h' F' N' fun p hp => Heap.lt_size (N p hp).1
end
end
open PySem PySem.W PyProof.Rows
local macro_rules | `(tactic| walk_at "exec For Name Name cons nil") => `(tactic| ((try k_fold); refine Stop.mk ?_))
local macro_rules | `(tactic| walk_at "exec For Name Call cons nil") => `(tactic| ((try k_fold); refine Stop.mk ?_))
local macro_rules | `(tactic| walk_at "exec For Name Subscript cons nil") => `(tactic| ((try k_fold); refine Stop.mk ?_))
local macro_rules | `(tactic| walk_at "exec For Name Attribute cons nil") => `(tactic| ((try k_fold); refine Stop.mk ?_))
local macro_rules | `(tactic| walk_at "pyIter ref") => `(tactic| ((try k_fold); refine Stop.mk ?_))
local macro_rules | `(tactic| walk_at "LPost") => `(tactic| dsimp only [LPost])
local macro_rules | `(tactic| walk_at "exec While") => `(tactic| ((try k_fold); refine Stop.mk ?_))
local macro_rules | `(tactic| walk_at "call ref") => `(tactic| ((try k_fold); refine Stop.mk ?_))
local macro_rules | `(tactic| k_mem) => `(tactic| assumption)
local macro_rules | `(tactic| walk_at "compareOp In str ref") => `(tactic| (k_dflt (refine' dict_in (knd := PySem.strKind _ _) ?N ?m ?d ?s ?k ?_; (case N => k_asm); (case m => k_mem); (case d => assumption); (case s => assumption); (case k => exact PySem.strKind_is _ _ _ _); k_whole)))
local macro_rules | `(tactic| walk_at "compareOp NotIn str ref") => `(tactic| (k_dflt (refine' dict_notin (knd := PySem.strKind _ _) ?N ?m ?d ?s ?k ?_; (case N => k_asm); (case m => k_mem); (case d => assumption); (case s => assumption); (case k => exact PySem.strKind_is _ _ _ _); k_whole)))
local macro_rules | `(tactic| walk_at "subscriptTail") => `(tactic| ((with_reducible show wpAny _ _ (subscriptTail _ _ (Value.ref _) (Value.str _ _)) _ _ _); k_dflt (refine' dict_item (knd := PySem.strKind _ _) ?N ?m ?d ?k ?v ?_ ?h; (case N => k_asm); (case m => k_mem); (case d => assumption); (case k => exact PySem.strKind_is _ _ _ _); (case v => assumption); (case h => with_unfolding_all rfl); k_whole); intro dv hdv; ((try k_fold); refine Stop.mk ?_)))
local macro_rules | `(tactic| walk_at "subscriptTail Name Slice ref ref") => `(tactic| (k_here; k_dflt (refine' slice_butlast ?F ?N ?m ?z ?p ?q ?_ ?s ?t; (case F => k_asm); (case N => k_asm); (case m => k_mem); (case z => assumption); (case p => kmk_part); (case q => kmk_part); (case s => with_unfolding_all rfl); (case t => kmk_pure)); intro sl' h' F' N' l1; (try k_lt l1); (try k_sweep)))
local macro_rules | `(tactic| walk_at "subscriptTail Name UnaryOp ref int") => `(tactic| ((with_reducible show wpAny _ _ (subscriptTail _ _ (Value.ref _) (Value.int _ _)) _ _ _); k_dflt (refine' list_lastS ?N ?m ?r ?e ?_ ?h; (case N => k_asm); (case m => k_mem); (case r => assumption); (case e => assumption); (case h => with_unfolding_all rfl)); intro ts'))
local macro_rules | `(tactic| walk_at "eval ListComp") => `(tactic| ((try k_fold); refine Stop.mk ?_))
local macro_rules | `(tactic| walk_at "CompSrcT") => `(tactic| ((try k_fold); refine Stop.mk ?_))
local macro_rules | `(tactic| walk_at "CompSrc") => `(tactic| ((try k_fold); refine Stop.mk ?_))
local macro_rules | `(tactic| walk_at "binaryOp Add ref ref") => `(tactic| (k_here; k_dflt (refine' list_plus ?F ?N ?m ?q ?_ ?z; (case F => k_asm); (case N => k_asm); (case m => k_mem); (case q => k_mem); (case z => (rw [sizeLine_eq]; first | decide | (simp; done) | (simp; omega)))); intro sl' h' F' N' l1; (try k_lt l1); (try k_sweep)))
local macro_rules | `(tactic| walk_at "setItem ref str") => `(tactic| (k_dflt (refine' dict_set (knd := PySem.strKind _ _) ?F ?N ?m ?d ?k ?_ ?z; (case F => k_asm); (case N => k_asm); (case m => k_mem); (case d => assumption); (case k => exact PySem.strKind_is _ _ _ _); (case z => assumption)); intro h' od' F' N' hd'; ((try k_fold); refine Stop.mk ?_)))
local macro_rules | `(tactic| walk_at "execs cons") => `(tactic| (with_reducible refine gen_toks ?_; intro tk))
section
open PySem PySem.W PyProof.Rows
set_option Elab.async false
set_option maxRecDepth 100000
set_option maxHeartbeats 4000000
def joinS (b p : Str) : Str := (if b = Str.ofString "::" then Str.ofString "" else b) ++ Str.ofString "::" ++ p
def stepsS : Str → List Str → List Str
  | a, [] => [a]
  | a, p :: r => if p = Str.ofString "" then stepsS a r else a :: stepsS (joinS a p) r

theorem spec_join (w : World) (mean mg mb) (news : Led) (b p : Str) (tb tp : Tok) (hb : b.length ≤ 1000000) (hp : p.length ≤ 1000000) :
    Spec w mean mg mb 132 1 8 news [.str b tb, .str p tp] (fun r news' => news' = news ∧ ∃ t, r = .str (joinS b p) t) := by
  unfold Spec
  w_top off
  k_fill
  intro dp un gd cn cs a ccd cl outer A₀ base h₀ L m s Q E B F X N T hk hdp hu hret
  obtain ⟨hpZ, geZ, drZ, tkZ, osZ⟩ := s
  dsimp only at F N hret ⊢
  refine wpAny_call ?_
  k_dflt (refine' code_def (binds := [(Str.ofString "base", .str b tb), (Str.ofString "part", .str p tp)]) ?k1x8 ?k2x8 ?k3x8 ?k4x8 ?k5x8 ?kAx8 ?kFx8 ?kKx8 ?k6x8 ?k7x8 ?k8x8 ?k9x8 ?kBx8 ?_ ?c2x8 ?c3x8 ?c4x8 ?c5x8; (case kAx8 => exact rfl); (case kFx8 => exact rfl); (case kKx8 => assumption); (case k1x8 => k_asm); (case k2x8 => k_asm); (case k3x8 => k_asm); (case k4x8 => k_asm); (case k5x8 => k_asm); (case k6x8 => k_is); (case k7x8 => k_is); (case k8x8 => ktr_room); (case k9x8 => first | exact BindsTo.of_eq rfl | exact binds_K (by k_in) rfl (by k_is) rfl rfl rfl); (case c5x8 => decide); (case kBx8 => exact locs rfl); (case c2x8 => exact rfl); (case c3x8 => exact rfl); (case c4x8 => exact rfl); k_whole; intro g1 L1 h1 FG1 F1 N1 B1 X1 T1; (try dsimp only); (try k_fold))
  replace F1 : Fr g1 L1 h1 (ovr [(Str.ofString "part", some (.str p tp)), (Str.ofString "base", some (.str b tb))]) := fr_ovr F1 []
  k_steps
  · have e : joinS b p = Str.ofString "" ++ Str.ofString "::" ++ p := by
      unfold joinS; rw [if_pos (by simpa using ‹(b == Str.ofString "::") = true›)]
    exact hret _ _ _ _ (by assumption) (by assumption) ⟨rfl, _, by rw [e]⟩
  · have e : joinS b p = b ++ Str.ofString "::" ++ p := by
      unfold joinS; rw [if_neg (by simpa using ‹(b == Str.ofString "::") = false›)]
    exact hret _ _ _ _ (by assumption) (by assumption) ⟨rfl, _, by rw [e]⟩
theorem joinS_len (b p : Str) : (joinS b p).length ≤ b.length + 2 + p.length := by
  unfold joinS
  simp only [Str.length_append]
  split
  · have : (Str.ofString "").length = 0 := by decide
    have : (Str.ofString "::").length = 2 := by decide
    omega
  · have : (Str.ofString "::").length = 2 := by decide
    omega
end
section
open PySem PySem.W PyProof.Rows PySem.Calls
set_option Elab.async false
set_option maxRecDepth 100000

abbrev SK (w : World) := PySem.strKind PySem.Challenge.rw_np0129_01.row.prog w
def nmOf (q : List Str) : Str := q.foldl joinS (Str.ofString "::")
theorem nmOf_nil : nmOf [] = Str.ofString "::" := rfl
theorem nmOf_snoc (q : List Str) (p : Str) : nmOf (q ++ [p]) = joinS (nmOf q) p := by unfold nmOf; rw [List.foldl_append]; rfl

/-- a namespace, and where it lies -/
structure Nd where
  pth : List Str
  tn : Tok
  x : Addr
  d : Addr
  ch : Addr
  cm : Addr
  vr : Addr
  ex : Addr
  pa : Addr
  ts : Nat → Tok
  par : Value
  kids : List (Str × Value)
  cmds : List (Str × Value)
  exps : Array Value
  path : Array Value
  ke : Nat
  kp : Nat

def ent (w : World) (nm : String) (t : Tok) (v : Value) : DictEntry := ⟨PyData.keyHash w.params (Str.ofString nm), .str (Str.ofString nm) t, v⟩
def nsEs (w : World) (nd : Nd) : List DictEntry :=
  [ent w "name" (nd.ts 0) (.str (nmOf nd.pth) nd.tn), ent w "parent" (nd.ts 1) nd.par, ent w "children" (nd.ts 2) (.ref nd.ch), ent w "commands" (nd.ts 3) (.ref nd.cm),
   ent w "vars" (nd.ts 4) (.ref nd.vr), ent w "exports" (nd.ts 5) (.ref nd.ex), ent w "path" (nd.ts 6) (.ref nd.pa), ent w "is_dead" (nd.ts 7) (.bool false)]

/-- the ledger bears a dict of that content there -/
structure DictIn (w : World) (news : Led) (a : Addr) (kvs : List (Str × Value)) : Prop where
  at' : ∃ o, (a, o) ∈ news ∧ o.IsDictOf (SK w) kvs
  lo : (a == sysModules) = false
theorem DictIn.mono {w : World} {news news' : Led} {a : Addr} {kvs : List (Str × Value)} (h : DictIn w news a kvs) (hs : ∀ p ∈ news, p.1 = a → p ∈ news') : DictIn w news' a kvs :=
  let ⟨⟨o, ho, hd⟩, lo⟩ := h; ⟨⟨o, hs _ ho rfl, hd⟩, lo⟩

structure NdIn (w : World) (news : Led) (nd : Nd) : Prop where
  hx : (nd.x, instObj 31 nd.d) ∈ news
  hd : (nd.d, dictOf (nsEs w nd) 8) ∈ news
  hch : DictIn w news nd.ch nd.kids
  hcm : DictIn w news nd.cm nd.cmds
  hvr : DictIn w news nd.vr []
  hex : (nd.ex, PySem.W.listOf nd.exps nd.ke) ∈ news
  hpa : (nd.pa, PySem.W.listOf nd.path nd.kp) ∈ news
def Nd.addrs (nd : Nd) : List Addr := [nd.x, nd.d, nd.ch, nd.cm, nd.vr, nd.ex, nd.pa]
theorem Nd.mx (nd : Nd) : nd.x ∈ nd.addrs := .head _
theorem Nd.md (nd : Nd) : nd.d ∈ nd.addrs := .tail _ (.head _)
theorem Nd.mch (nd : Nd) : nd.ch ∈ nd.addrs := .tail _ (.tail _ (.head _))
theorem Nd.mcm (nd : Nd) : nd.cm ∈ nd.addrs := .tail _ (.tail _ (.tail _ (.head _)))
theorem Nd.mvr (nd : Nd) : nd.vr ∈ nd.addrs := .tail _ (.tail _ (.tail _ (.tail _ (.head _))))
theorem Nd.mex (nd : Nd) : nd.ex ∈ nd.addrs := .tail _ (.tail _ (.tail _ (.tail _ (.tail _ (.head _)))))
theorem Nd.mpa (nd : Nd) : nd.pa ∈ nd.addrs := .tail _ (.tail _ (.tail _ (.tail _ (.tail _ (.tail _ (.head _))))))
/-- a node's seven addresses are pairwise distinct -/
structure OwnD (nd : Nd) : Prop where
  n1 : nd.x ≠ nd.d
  n2 : nd.x ≠ nd.ch
  n3 : nd.x ≠ nd.cm
  n4 : nd.x ≠ nd.vr
  n5 : nd.x ≠ nd.ex
  n6 : nd.x ≠ nd.pa
  n7 : nd.d ≠ nd.ch
  n8 : nd.d ≠ nd.cm
  n9 : nd.d ≠ nd.vr
  n10 : nd.d ≠ nd.ex
  n11 : nd.d ≠ nd.pa
  n12 : nd.ch ≠ nd.cm
  n13 : nd.ch ≠ nd.vr
  n14 : nd.ch ≠ nd.ex
  n15 : nd.ch ≠ nd.pa
  n16 : nd.cm ≠ nd.vr
  n17 : nd.cm ≠ nd.ex
  n18 : nd.cm ≠ nd.pa
  n19 : nd.vr ≠ nd.ex
  n20 : nd.vr ≠ nd.pa
  n21 : nd.ex ≠ nd.pa
theorem OwnD.of {nd : Nd} (h : nd.addrs.Nodup) : OwnD nd := by
  simp only [Nd.addrs, List.nodup_cons, List.mem_cons, List.not_mem_nil, or_false, not_or] at h
  obtain ⟨⟨n1, n2, n3, n4, n5, n6⟩, ⟨n7, n8, n9, n10, n11⟩, ⟨n12, n13, n14, n15⟩, ⟨n16, n17, n18⟩, ⟨n19, n20⟩, n21, _⟩ := h
  exact ⟨n1, n2, n3, n4, n5, n6, n7, n8, n9, n10, n11, n12, n13, n14, n15, n16, n17, n18, n19, n20, n21⟩
theorem NdIn.mono {w : World} {news news' : Led} {nd : Nd} (h : NdIn w news nd) (hs : ∀ p ∈ news, p.1 ∈ nd.addrs → p ∈ news') : NdIn w news' nd where
  hx := hs _ h.hx (Nd.mx _)
  hd := hs _ h.hd (by simp [Nd.addrs])
  hch := h.hch.mono fun p hp e => hs p hp (by simp [Nd.addrs, e])
  hcm := h.hcm.mono fun p hp e => hs p hp (by simp [Nd.addrs, e])
  hvr := h.hvr.mono fun p hp e => hs p hp (by simp [Nd.addrs, e])
  hex := hs _ h.hex (by simp [Nd.addrs])
  hpa := hs _ h.hpa (by simp [Nd.addrs])

def menu : List Str := [Str.ofString "a", Str.ofString "b", Str.ofString "x", Str.ofString "c:d"]
def has (ns : List Nd) (q : List Str) : Bool := ns.any fun nd => decide (nd.pth = q)
theorem has_iff {ns : List Nd} {q : List Str} : has ns q = true ↔ ∃ nd ∈ ns, nd.pth = q := by
  unfold has; rw [List.any_eq_true]; simp

/-- the tree itself -/
structure Tree (ns : List Nd) : Prop where
  nodup : (ns.map (·.pth)).Nodup
  root : has ns [] = true
  kid : ∀ nd ∈ ns, ∀ p v, valueAt nd.kids p = some v ↔ ∃ c ∈ ns, c.pth = nd.pth ++ [p] ∧ v = .ref c.x
  up : ∀ nd ∈ ns, ∀ q p, nd.pth = q ++ [p] → ∃ u ∈ ns, u.pth = q ∧ nd.par = .ref u.x
  top : ∀ nd ∈ ns, nd.pth = [] → nd.par = .none
  part : ∀ nd ∈ ns, ∀ p ∈ nd.pth, p ∈ menu
  adr : (ns.flatMap Nd.addrs).Nodup
  len : ns.length ≤ 100
  deep : ∀ nd ∈ ns, nd.pth.length ≤ 50
  few : ∀ nd ∈ ns, nd.kids.length ≤ ns.length

structure Rep (w : World) (news : Led) (ns : List Nd) : Prop where
  tree : Tree ns
  node : ∀ nd ∈ ns, NdIn w news nd
theorem Rep.mono {w : World} {news news' : Led} {ns : List Nd} (h : Rep w news ns) (hs : ∀ p ∈ news, p ∈ news') : Rep w news' ns :=
  ⟨h.tree, fun nd hn => (h.node nd hn).mono fun p hp _ => hs p hp⟩

theorem Tree.inj {ns : List Nd} (T : Tree ns) {a b : Nd} (ha : a ∈ ns) (hb : b ∈ ns) (e : a.pth = b.pth) : a = b := by
  have : ∀ {l : List Nd}, (l.map (·.pth)).Nodup → a ∈ l → b ∈ l → a = b := by
    intro l
    induction l with
    | nil => intro _ h; cases h
    | cons c r ih =>
      intro hn h1 h2
      rw [List.map_cons, List.nodup_cons] at hn
      rcases List.mem_cons.mp h1 with e1 | k1 <;> rcases List.mem_cons.mp h2 with e2 | k2
      · rw [e1, e2]
      · exact absurd (List.mem_map.mpr ⟨b, k2, by rw [← e, e1]⟩) hn.1
      · exact absurd (List.mem_map.mpr ⟨a, k1, by rw [e, e2]⟩) hn.1
      · exact ih hn.2 k1 k2
  exact this T.nodup ha hb
theorem Tree.kidSome {ns : List Nd} (T : Tree ns) {nd : Nd} (hn : nd ∈ ns) (p : Str) : (valueAt nd.kids p).isSome = has ns (nd.pth ++ [p]) := by
  cases hv : valueAt nd.kids p with
  | some v =>
    obtain ⟨c, hc, e, _⟩ := (T.kid nd hn p v).mp hv
    exact (has_iff.mpr ⟨c, hc, e⟩).symm
  | none =>
    cases hh : has ns (nd.pth ++ [p]) with
    | false => rfl
    | true =>
      obtain ⟨c, hc, e⟩ := has_iff.mp hh
      rw [(T.kid nd hn p (.ref c.x)).mpr ⟨c, hc, e, rfl⟩] at hv
      cases hv

/-- down from q along the parts -/
def goS (hs : List Str → Bool) : List Str → List Str → Option (List Str)
  | q, [] => some q
  | q, p :: r => if p = Str.ofString "" then goS hs q r else if hs (q ++ [p]) = true then goS hs (q ++ [p]) r else none
/-- what a search hands back -/
def FoundAt (ns : List Nd) : Option (List Str) → Value → Prop
  | none, v => v = .none
  | some q, v => ∃ nd ∈ ns, nd.pth = q ∧ v = .ref nd.x
end
section
open PySem PySem.W PyProof.Rows
set_option Elab.async false
set_option maxRecDepth 100000
def encL : List Str → List Nat
  | [] => []
  | p :: r => 58 :: 58 :: (p.cps.toList ++ encL r)
theorem cps_append (a b : Str) : (a ++ b).cps.toList = a.cps.toList ++ b.cps.toList := by
  show (a.cps ++ b.cps).toList = _
  simp
theorem str_ext {a b : Str} (h : a.cps.toList = b.cps.toList) : a = b := by
  obtain ⟨x⟩ := a; obtain ⟨y⟩ := b
  have : x = y := by simpa using h
  rw [this]
theorem encL_append (q r : List Str) : encL (q ++ r) = encL q ++ encL r := by
  induction q with
  | nil => rfl
  | cons p q ih => simp [encL, ih]
theorem cc : (Str.ofString "::").cps.toList = [58, 58] := by decide
theorem joinS_big {a p : Str} (h : 3 ≤ a.cps.toList.length) : (joinS a p).cps.toList = a.cps.toList ++ 58 :: 58 :: p.cps.toList := by
  unfold joinS
  rw [if_neg (by intro e; rw [e, cc] at h; simp at h), cps_append, cps_append, cc]
  simp
theorem fold_enc : ∀ (q : List Str) (a : Str), 3 ≤ a.cps.toList.length → (q.foldl joinS a).cps.toList = a.cps.toList ++ encL q
  | [], a, _ => by simp [encL]
  | p :: r, a, h => by
    rw [List.foldl_cons, fold_enc r (joinS a p) (by rw [joinS_big h, List.length_append]; omega), joinS_big h]
    simp [encL]
theorem joinS_root (p : Str) : (joinS (Str.ofString "::") p).cps.toList = 58 :: 58 :: p.cps.toList := by
  unfold joinS
  rw [if_pos rfl, cps_append, cps_append, cc]
  have : (Str.ofString "").cps.toList = [] := by decide
  rw [this]; rfl
theorem menu_cps {p : Str} (h : p ∈ menu) : p.cps.toList = [97] ∨ p.cps.toList = [98] ∨ p.cps.toList = [120] ∨ p.cps.toList = [99, 58, 100] := by
  simp only [menu, List.mem_cons, List.not_mem_nil, or_false] at h
  rcases h with rfl | rfl | rfl | rfl
  · exact .inl (by decide)
  · exact .inr (.inl (by decide))
  · exact .inr (.inr (.inl (by decide)))
  · exact .inr (.inr (.inr (by decide)))
theorem menu_pos {p : Str} (h : p ∈ menu) : 1 ≤ p.cps.toList.length := by
  rcases menu_cps h with e | e | e | e <;> rw [e] <;> simp
theorem nmOf_cons {p : Str} {r : List Str} (h : p ∈ menu) : (nmOf (p :: r)).cps.toList = encL (p :: r) := by
  have h1 := menu_pos h
  unfold nmOf
  rw [List.foldl_cons, fold_enc r _ (by rw [joinS_root, List.length_cons, List.length_cons]; omega), joinS_root]
  simp [encL]
theorem encL_inj : ∀ (q r : List Str), (∀ p ∈ q, p ∈ menu) → (∀ p ∈ r, p ∈ menu) → encL q = encL r → q = r
  | [], [], _, _, _ => rfl
  | [], p :: r, _, _, h => by simp [encL] at h
  | p :: q, [], _, _, h => by simp [encL] at h
  | p :: q, a :: r, hq, hr, h => by
    have h1 := menu_cps (hq p (.head _))
    have h2 := menu_cps (hr a (.head _))
    simp only [encL, List.cons.injEq, true_and] at h
    have e : p.cps.toList = a.cps.toList := by
      rcases h1 with e1 | e1 | e1 | e1 <;> rcases h2 with e2 | e2 | e2 | e2 <;> rw [e1, e2] at h ⊢ <;> simp at h
    rw [e] at h
    rw [str_ext e, encL_inj q r (fun x hx => hq x (.tail _ hx)) (fun x hx => hr x (.tail _ hx)) (List.append_cancel_left h)]
theorem nmOf_root : (nmOf []).cps.toList = [58, 58] := cc
theorem nmOf_inj {q r : List Str} (hq : ∀ p ∈ q, p ∈ menu) (hr : ∀ p ∈ r, p ∈ menu) (h : nmOf q = nmOf r) : q = r := by
  cases q with
  | nil =>
    cases r with
    | nil => rfl
    | cons p r =>
      have e := congrArg (fun x : Str => x.cps.toList) h
      rw [nmOf_root, nmOf_cons (hr p (.head _))] at e
      have := menu_pos (hr p (.head _))
      have e2 := congrArg List.length e
      simp only [encL, List.length_cons, List.length_append, List.length_nil] at e2
      omega
  | cons a q =>
    cases r with
    | nil =>
      have e := congrArg (fun x : Str => x.cps.toList) h
      rw [nmOf_root, nmOf_cons (hq a (.head _))] at e
      have := menu_pos (hq a (.head _))
      have e2 := congrArg List.length e
      simp only [encL, List.length_cons, List.length_append, List.length_nil] at e2
      omega
    | cons p r =>
      refine encL_inj _ _ hq hr ?_
      rw [← nmOf_cons (hq a (.head _)), ← nmOf_cons (hr p (.head _)), h]
end
section
open PySem PySem.W PyProof.Rows
set_option Elab.async false
set_option maxRecDepth 100000
set_option maxHeartbeats 8000000
local macro_rules | `(tactic| k_room) => `(tactic| ktr_room)
local macro_rules | `(tactic| k_units) => `(tactic| ktr_units)
def tsOf (l : List Tok) : Nat → Tok := fun i => l.getD i 0
/-- what Namespace(name, parent) makes -/
def NewNs (w : World) (news : Led) (b : Str) (tb : Tok) (par : Value) (r : Value) (news' : Led) : Prop :=
  ∃ (x d ch cm vr ex pa : Addr) (ts : Nat → Tok) (och ocm ovr : Obj), r = .ref x ∧
    news' = (pa, PySem.W.listOf #[] 0) :: (ex, PySem.W.listOf #[] 0) :: (vr, ovr) :: (cm, ocm) :: (ch, och) :: (x, instObj 31 d) :: (d, dictOf [ent w "name" (ts 0) (.str b tb), ent w "parent" (ts 1) par, ent w "children" (ts 2) (.ref ch), ent w "commands" (ts 3) (.ref cm),
      ent w "vars" (ts 4) (.ref vr), ent w "exports" (ts 5) (.ref ex), ent w "path" (ts 6) (.ref pa), ent w "is_dead" (ts 7) (.bool false)] 8) :: news ∧
    och.IsDictOf (SK w) [] ∧ ocm.IsDictOf (SK w) [] ∧ ovr.IsDictOf (SK w) [] ∧ (ch == sysModules) = false ∧ (cm == sysModules) = false ∧ (vr == sysModules) = false ∧
    (∀ p ∈ news, p.1 < d) ∧ @LT.lt Nat _ d x ∧ @LT.lt Nat _ x ch ∧ @LT.lt Nat _ ch cm ∧ @LT.lt Nat _ cm vr ∧ @LT.lt Nat _ vr ex ∧ @LT.lt Nat _ ex pa
theorem spec_ns (w : World) (mean mg mb) (news : Led) (b : Str) (tb : Tok) (par : Value) :
    Spec w mean mg mb 31 5 32 news [.str b tb, par] (NewNs w news b tb par) := by
  unfold Spec
  w_top off
  k_fill
  intro dp un gd cn cs a ccd cl outer A₀ base h₀ L m s Q E B F X N T hk hdp hu hret
  k_dflt (refine' call_cls F X N ?z1 ?z2 ?z3 ?_; (case z1 => k_is); (case z2 => k_is); (case z3 => k_is); k_whole; intro xx dd h' F' N' l1 l2; (try k_lt l1); (try k_lt2 l2))
  have hl1 := l1
  k_dflt (refine' code_def (binds := [(Str.ofString "self", .ref xx), (Str.ofString "name", .str b tb), (Str.ofString "parent", par)]) ?k1x2 ?k2x2 ?k3x2 ?k4x2 ?k5x2 ?kAx2 ?kFx2 ?kKx2 ?k6x2 ?k7x2 ?k8x2 ?k9x2 ?kBx2 ?_ ?c2x2 ?c3x2 ?c4x2 ?c5x2; (case kAx2 => exact rfl); (case kFx2 => exact rfl); (case kKx2 => assumption); (case k1x2 => k_asm); (case k2x2 => k_asm); (case k3x2 => k_asm); (case k4x2 => k_asm); (case k5x2 => k_asm); (case k6x2 => k_is); (case k7x2 => k_is); (case k8x2 => ktr_room); (case k9x2 => first | exact BindsTo.of_eq rfl | exact binds_K (by k_in) rfl (by k_is) rfl rfl rfl); (case c5x2 => decide); (case kBx2 => exact locs rfl); (case c2x2 => exact rfl); (case c3x2 => exact rfl); (case c4x2 => exact rfl); k_whole; intro g1 L1 h1 FG1 F1 N1 B1 X1 T1; (try dsimp only); (try k_fold))
  replace F1 : Fr g1 L1 h1 (ovr [(Str.ofString "parent", some (par)), (Str.ofString "name", some (.str b tb)), (Str.ofString "self", some (.ref xx))]) := fr_ovr F1 []
  k_steps
  refine hret _ _ _ _ (by assumption) (by assumption) ⟨xx, dd, _, _, _, _, _, tsOf [_, _, _, _, _, _, _, _], _, _, _, rfl, rfl, ?_, ?_, ?_, ?_, ?_, ?_, hl1, ?_, ?_, ?_, ?_, ?_, ?_⟩
  all_goals first | assumption | omega

def cmdEs (w : World) (last : Str) (tl : Tok) (sx : Addr) (act : Str) (ta : Tok) (dat : Int) (td : Tok) (tr : Addr) (ts : Nat → Tok) : List DictEntry :=
  [ent w "name" (ts 0) (.str last tl), ent w "space" (ts 1) (.ref sx), ent w "action" (ts 2) (.str act ta), ent w "data" (ts 3) (.int dat td), ent w "traces" (ts 4) (.ref tr),
   ent w "is_busy" (ts 5) (.bool false), ent w "is_first" (ts 6) (.bool false), ent w "source" (ts 7) .none, ent w "is_dead" (ts 8) (.bool false)]
/-- what Command(..) makes -/
def NewCmd (w : World) (news : Led) (last : Str) (tl : Tok) (sx : Addr) (act : Str) (ta : Tok) (dat : Int) (td : Tok) (r : Value) (news' : Led) : Prop :=
  ∃ (x d tr : Addr) (ts : Nat → Tok), r = .ref x ∧ news' = (tr, PySem.W.listOf #[] 0) :: (x, instObj 53 d) :: (d, dictOf (cmdEs w last tl sx act ta dat td tr ts) 9) :: news ∧
    (∀ p ∈ news, p.1 < d) ∧ @LT.lt Nat _ d x ∧ @LT.lt Nat _ x tr
theorem spec_cmd (w : World) (mean mg mb) (news : Led) (b : Str) (tb : Tok) (sx : Addr) (act : Str) (ta : Tok) (dat : Int) (td : Tok) :
    Spec w mean mg mb 53 5 32 news [.str b tb, .ref sx, .str act ta, .int dat td] (NewCmd w news b tb sx act ta dat td) := by
  unfold Spec
  w_top off
  k_fill
  intro dp un gd cn cs a ccd cl outer A₀ base h₀ L m s Q E B F X N T hk hdp hu hret
  k_dflt (refine' call_cls F X N ?z1 ?z2 ?z3 ?_; (case z1 => k_is); (case z2 => k_is); (case z3 => k_is); k_whole; intro xx dd h' F' N' l1 l2; (try k_lt l1); (try k_lt2 l2))
  have hl1 := l1
  k_dflt (refine' code_def (binds := [(Str.ofString "self", .ref xx), (Str.ofString "name", .str b tb), (Str.ofString "space", .ref sx), (Str.ofString "action", .str act ta), (Str.ofString "data", .int dat td)]) ?k1x4 ?k2x4 ?k3x4 ?k4x4 ?k5x4 ?kAx4 ?kFx4 ?kKx4 ?k6x4 ?k7x4 ?k8x4 ?k9x4 ?kBx4 ?_ ?c2x4 ?c3x4 ?c4x4 ?c5x4; (case kAx4 => exact rfl); (case kFx4 => exact rfl); (case kKx4 => assumption); (case k1x4 => k_asm); (case k2x4 => k_asm); (case k3x4 => k_asm); (case k4x4 => k_asm); (case k5x4 => k_asm); (case k6x4 => k_is); (case k7x4 => k_is); (case k8x4 => ktr_room); (case k9x4 => first | exact BindsTo.of_eq rfl | exact binds_K (by k_in) rfl (by k_is) rfl rfl rfl); (case c5x4 => decide); (case kBx4 => exact locs rfl); (case c2x4 => exact rfl); (case c3x4 => exact rfl); (case c4x4 => exact rfl); k_whole; intro g1 L1 h1 FG1 F1 N1 B1 X1 T1; (try dsimp only); (try k_fold))
  replace F1 : Fr g1 L1 h1 (ovr [(Str.ofString "data", some (.int dat td)), (Str.ofString "action", some (.str act ta)), (Str.ofString "space", some (.ref sx)), (Str.ofString "name", some (.str b tb)), (Str.ofString "self", some (.ref xx))]) := fr_ovr F1 []
  k_steps
  refine hret _ _ _ _ (by assumption) (by assumption) ⟨xx, dd, _, tsOf [_, _, _, _, _, _, _, _, _], rfl, rfl, hl1, ?_, ?_⟩
  all_goals first | assumption | omega
end
section
open PySem PySem.W PyProof.Rows PySem.SeqAt
set_option Elab.async false
set_option maxRecDepth 100000

/-- any heap that bears the ledger reads the value as that data -/
def LR (news : Led) (v : Value) (D : PyData) : Prop := ∀ h : Heap, (∀ p ∈ news, h.get? p.1 = some p.2) → ∃ as, Reads h v D as
def LRs (news : Led) (vs : List Value) (Ds : List PyData) : Prop := ∀ h : Heap, (∀ p ∈ news, h.get? p.1 = some p.2) → ∃ as, ReadsAll h vs Ds as
theorem LR.none {news : Led} : LR news .none .none := fun _ _ => ⟨_, .none⟩
theorem LR.bool {news : Led} (b : Bool) : LR news (.bool b) (.bool b) := fun _ _ => ⟨_, .bool b⟩
theorem LR.int {news : Led} (i : Int) (t : Tok) : LR news (.int i t) (.int i) := fun _ _ => ⟨_, .int i t⟩
theorem LR.str {news : Led} (x : Str) (t : Tok) : LR news (.str x t) (.str x) := fun _ _ => ⟨_, .str x t⟩
theorem LRs.nil {news : Led} : LRs news [] [] := fun _ _ => ⟨_, .nil⟩
theorem LRs.cons {news : Led} {v : Value} {vs : List Value} {D : PyData} {Ds : List PyData} (a : LR news v D) (b : LRs news vs Ds) : LRs news (v :: vs) (D :: Ds) := fun h hh =>
  let ⟨_, x⟩ := a h hh; let ⟨_, y⟩ := b h hh; ⟨_, .cons x y⟩
theorem LR.tup {news : Led} {t : Addr} {vs : Array Value} {k : Nat} {Ds : List PyData} (hm : (t, ({ cls := .type "tuple", data := .seq vs k } : Obj)) ∈ news) (a : LRs news vs.toList Ds) : LR news (.ref t) (.tuple Ds) := fun h hh =>
  let ⟨_, x⟩ := a h hh; ⟨_, .tuple (hh _ hm) rfl rfl x⟩
theorem LR.list {news : Led} {l : Addr} {vs : Array Value} {k : Nat} {Ds : List PyData} (hm : (l, PySem.W.listOf vs k) ∈ news) (a : LRs news vs.toList Ds) : LR news (.ref l) (.list Ds) := fun h hh =>
  let ⟨_, x⟩ := a h hh; ⟨_, .list (hh _ hm) rfl rfl x⟩
theorem LRs.strs {news : Led} {vs : List Value} {ss : List Str} (h : StrsAre vs ss) : LRs news vs (ss.map PyData.str) := by
  induction h with
  | nil => exact .nil
  | cons x t _ ih => exact .cons (.str _ _) ih
theorem LR.mono {news news' : Led} {v : Value} {D : PyData} (a : LR news v D) (hs : ∀ p ∈ news, p ∈ news') : LR news' v D := fun h hh => a h fun p hp => hh p (hs p hp)

section
variable {prog : Program} {w : World} {A : Around} {E : Value → Shared → Prop} {s : Shared} {h₀ : Heap} {L : Addr} {news : Led} {a b : Value} {D : PyData} {Q : Value → Shared → Prop}
theorem ne_same (N : News h₀ L s.heap news) (ra : LR news a D) (rb : LR news b D) (hs : shaped D = true) (hu : A.units + 64 < cLine) (h : Q (.bool false) s) : wpAny (model prog w) A (compareOp .NotEq a b) Q E s := by
  obtain ⟨as, x⟩ := ra s.heap fun p hp => (N p hp).1
  obtain ⟨bs, y⟩ := rb s.heap fun p hp => (N p hp).1
  refine ne_dataH x y hs hs hu ?_
  rw [eqv_refl D (canLay_of_shaped hs)]
  exact h
theorem eqAt_same (N : News h₀ L s.heap news) (ra : LR news a D) (rb : LR news b D) (hs : shaped D = true) (hu : A.units + 64 < cLine) : EqAt A s a b true := by
  obtain ⟨as, x⟩ := ra s.heap fun p hp => (N p hp).1
  obtain ⟨bs, y⟩ := rb s.heap fun p hp => (N p hp).1
  have := eqAt_reads D D A s a b as bs x y (canLay_of_shaped hs) (canLay_of_shaped hs) (room_of_shaped hs hu)
  rwa [eqv_refl D (canLay_of_shaped hs)] at this
end

/-- what a command tells -/
def toldD (nm last : Str) (dat : Int) : PyData := .tuple [.str nm, .str last, .str (Str.ofString "act"), .int dat, .tuple [.list [], .bool false, .none, .bool false]]
/-- a command, and where it lies -/
structure CmdIn (w : World) (news : Led) (cx sx : Addr) (last : Str) (dat : Int) : Prop where
  at' : ∃ d tr tl ta td ts k, (cx, instObj 53 d) ∈ news ∧ (d, dictOf (cmdEs w last tl sx (Str.ofString "act") ta dat td tr ts) 9) ∈ news ∧ (tr, PySem.W.listOf #[] k) ∈ news
theorem CmdIn.mono {w : World} {news news' : Led} {cx sx : Addr} {last : Str} {dat : Int} (h : CmdIn w news cx sx last dat) (hs : ∀ p ∈ news, p ∈ news') : CmdIn w news' cx sx last dat :=
  let ⟨⟨d, tr, tl, ta, td, ts, k, a, b, c⟩⟩ := h; ⟨⟨d, tr, tl, ta, td, ts, k, hs _ a, hs _ b, hs _ c⟩⟩
/-- one line of the law's book -/
structure Bn where
  pth : List Str
  ha : Addr
  ma : Addr
  qa : Addr
  kv : List (Str × Value)
  mks : List Str
  mv : Array Value
  km : Nat
  pq : List (List Str)
  pv : Array Value
  kq : Nat
def datOf : Value → Int
  | .int d _ => d
  | _ => 0
def hkv (bs : List Bn) : List (Str × Value) := bs.map fun b => (nmOf b.pth, .ref b.ha)
def mkv (bs : List Bn) : List (Str × Value) := bs.map fun b => (nmOf b.pth, .ref b.ma)
def qkv (bs : List Bn) : List (Str × Value) := bs.map fun b => (nmOf b.pth, .ref b.qa)
def atNm (bs : List Bn) (name : Str) : Option Bn := bs.find? fun b => decide (nmOf b.pth = name)
theorem valueAt_map (bs : List Bn) (f : Bn → Value) (name : Str) : valueAt (bs.map fun b => (nmOf b.pth, f b)) name = (atNm bs name).map f := by
  unfold valueAt atNm
  induction bs with
  | nil => rfl
  | cons b r ih =>
    rw [List.map_cons, List.find?_cons, List.find?_cons]
    by_cases h : nmOf b.pth = name
    · simp [h]
    · simp only [h, decide_false]; exact ih
def dueOf (bs : List Bn) (name last : Str) : Option Int := (atNm bs name).bind fun b => (valueAt b.kv last).map datOf
/-- the law's own inner dicts -/
structure HeldIn (w : World) (news : Led) (hA : Addr) (bs : List Bn) : Prop where
  out : DictIn w news hA (hkv bs)
  inn : ∀ b ∈ bs, DictIn w news b.ha b.kv ∧ ∀ k v, valueAt b.kv k = some v → ∃ d t, v = .int d t
theorem HeldIn.mono {w : World} {news news' : Led} {hA : Addr} {bs : List Bn} (h : HeldIn w news hA bs) (hs : ∀ p ∈ news, p ∈ news') : HeldIn w news' hA bs :=
  ⟨h.out.mono fun p hp _ => hs p hp, fun b hb => ⟨(h.inn b hb).1.mono fun p hp _ => hs p hp, (h.inn b hb).2⟩⟩
/-- what a search in the book hands back -/
def Due (news : Led) (name last : Str) : Option Int → Value → Prop
  | none, r => r = .none
  | some d, r => (∃ a, r = .ref a) ∧ LR news r (toldD name last d)
theorem atNm_mem {bs : List Bn} {name : Str} {b : Bn} (h : atNm bs name = some b) : b ∈ bs ∧ nmOf b.pth = name :=
  ⟨List.mem_of_find?_eq_some h, by simpa using List.find?_some h⟩
end
section
open PySem PySem.W PyProof.Rows PySem.Calls
set_option Elab.async false
set_option maxRecDepth 100000

theorem valueAt_stored' (k : Str) (v : Value) (q : Str) : ∀ kvs : List (Str × Value), valueAt (stored kvs k v) q = if q = k then some v else valueAt kvs q := by
  intro kvs
  unfold stored
  by_cases ha : (kvs.any fun kv => decide (kv.1 = k)) = true
  · rw [if_pos ha]
    induction kvs with
    | nil => simp at ha
    | cons kv r ih =>
      unfold valueAt at ih ⊢
      rw [List.map_cons, List.find?_cons, List.find?_cons]
      by_cases hk : kv.1 = k
      · rw [if_pos hk]
        by_cases hq : q = k
        · subst hq; simp [hk]
        · rw [if_neg hq]
          have h1 : ¬ kv.1 = q := fun e => hq (by rw [← e, hk])
          simp only [h1, decide_false]
          clear ih ha
          congr 1
          induction r with
          | nil => rfl
          | cons a r ih2 =>
            rw [List.map_cons, List.find?_cons, List.find?_cons, ih2]
            by_cases h2 : a.1 = k
            · rw [if_pos h2]
              have h3 : ¬ a.1 = q := fun e => hq (by rw [← e, h2])
              simp [h3]
            · rw [if_neg h2]
      · rw [if_neg hk]
        have ha' : (r.any fun kv => decide (kv.1 = k)) = true := by
          rw [List.any_cons] at ha; simpa [hk] using ha
        by_cases hq : kv.1 = q
        · have : ¬ q = k := fun e => hk (by rw [hq, e])
          simp [hq, this]
        · simp only [hq, decide_false]
          exact ih ha'
  · rw [if_neg ha]
    unfold valueAt
    rw [List.find?_append]
    by_cases hq : q = k
    · subst hq
      have : kvs.find? (fun kv => decide (kv.1 = q)) = none := by
        rw [List.find?_eq_none]; intro x hx hxk; exact ha (List.any_eq_true.mpr ⟨x, hx, hxk⟩)
      rw [this]; simp
    · rw [if_neg hq]
      have : ¬ k = q := fun e => hq e.symm
      cases kvs.find? fun kv => decide (kv.1 = q) <;> simp [this]

theorem stored_len (kvs : List (Str × Value)) (k : Str) (v : Value) : (stored kvs k v).length ≤ kvs.length + 1 := by
  unfold stored
  split
  · simp
  · simp
def setKid (u : Nd) (p : Str) (cx : Addr) (n : Nd) : Nd := if n.pth = u.pth then { n with kids := stored n.kids p (.ref cx) } else n
theorem setKid_pth (u : Nd) (p : Str) (cx : Addr) (n : Nd) : (setKid u p cx n).pth = n.pth := by unfold setKid; split <;> rfl
theorem setKid_x (u : Nd) (p : Str) (cx : Addr) (n : Nd) : (setKid u p cx n).x = n.x := by unfold setKid; split <;> rfl
theorem setKid_par (u : Nd) (p : Str) (cx : Addr) (n : Nd) : (setKid u p cx n).par = n.par := by unfold setKid; split <;> rfl
theorem setKid_addrs (u : Nd) (p : Str) (cx : Addr) (n : Nd) : (setKid u p cx n).addrs = n.addrs := by unfold setKid; split <;> rfl
theorem setKid_eta (u : Nd) (p : Str) (cx : Addr) (n : Nd) : setKid u p cx n = { n with kids := (setKid u p cx n).kids } := by
  unfold setKid; by_cases h : n.pth = u.pth
  · rw [if_pos h]
  · rw [if_neg h]
/-- a tree with one more namespace -/
def addKid (ns : List Nd) (u : Nd) (p : Str) (c : Nd) : List Nd := ns.map (setKid u p c.x) ++ [c]
theorem addKid_pths (ns : List Nd) (u : Nd) (p : Str) (c : Nd) : (addKid ns u p c).map (·.pth) = ns.map (·.pth) ++ [c.pth] := by
  unfold addKid
  rw [List.map_append, List.map_map]
  congr 1
  exact List.map_congr_left fun n _ => setKid_pth u p c.x n
theorem addKid_addrs (ns : List Nd) (u : Nd) (p : Str) (c : Nd) : (addKid ns u p c).flatMap Nd.addrs = ns.flatMap Nd.addrs ++ c.addrs := by
  unfold addKid
  rw [List.flatMap_append, List.flatMap_map]
  simp only [setKid_addrs]
  simp
theorem mem_addKid {ns : List Nd} {u : Nd} {p : Str} {c n : Nd} : n ∈ addKid ns u p c ↔ (∃ n₀ ∈ ns, n = setKid u p c.x n₀) ∨ n = c := by
  unfold addKid
  rw [List.mem_append, List.mem_map, List.mem_singleton]
  constructor
  · rintro (⟨a, ha, rfl⟩ | rfl)
    · exact .inl ⟨a, ha, rfl⟩
    · exact .inr rfl
  · rintro (⟨a, ha, rfl⟩ | rfl)
    · exact .inl ⟨a, ha, rfl⟩
    · exact .inr rfl
theorem has_false {ns : List Nd} {q : List Str} (h : has ns q = false) : ∀ n ∈ ns, n.pth ≠ q := fun n hn e => by
  rw [has_iff.mpr ⟨n, hn, e⟩] at h; cases h
theorem snoc_inj {q r : List Str} {a b : Str} (h : q ++ [a] = r ++ [b]) : q = r ∧ a = b := by
  have := List.append_inj' h rfl
  exact ⟨this.1, by simpa using this.2⟩

theorem Tree.addKid {ns : List Nd} {u c : Nd} {p : Str} (T : Tree ns) (hu : u ∈ ns) (hno : has ns (u.pth ++ [p]) = false) (hc : c.pth = u.pth ++ [p]) (hpar : c.par = .ref u.x) (hk : c.kids = [])
    (hp : p ∈ menu) (hadr : (ns.flatMap Nd.addrs ++ c.addrs).Nodup) (hlen : ns.length + 1 ≤ 100) (hdeep : u.pth.length + 1 ≤ 50) : Tree (addKid ns u p c) where
  nodup := by
    rw [addKid_pths, List.nodup_append]
    refine ⟨T.nodup, by simp, ?_⟩
    intro a ha b hb e
    obtain ⟨n, hn, rfl⟩ := List.mem_map.mp ha
    rw [List.mem_singleton.mp hb, hc] at e
    exact has_false hno n hn e
  root := by
    obtain ⟨r, hr, e⟩ := has_iff.mp T.root
    exact has_iff.mpr ⟨setKid u p c.x r, mem_addKid.mpr (.inl ⟨r, hr, rfl⟩), by rw [setKid_pth, e]⟩
  kid := by
    intro nd hnd q v
    rcases mem_addKid.mp hnd with ⟨n, hn, rfl⟩ | rfl
    · rw [setKid_pth]
      by_cases hnu : n.pth = u.pth
      · have en : n = u := T.inj hn hu hnu
        subst en
        have ek : (setKid n p c.x n).kids = stored n.kids p (.ref c.x) := by unfold setKid; rw [if_pos rfl]
        rw [ek, valueAt_stored']
        by_cases hq : q = p
        · subst hq
          rw [if_pos rfl]
          constructor
          · intro e; exact ⟨c, mem_addKid.mpr (.inr rfl), hc, (Option.some.inj e).symm⟩
          · rintro ⟨c', hc', e, rfl⟩
            rcases mem_addKid.mp hc' with ⟨n', hn', rfl⟩ | rfl
            · rw [setKid_pth] at e; exact absurd e (has_false hno n' hn')
            · rfl
        · rw [if_neg hq, T.kid n hn q v]
          constructor
          · rintro ⟨c', hc', e, rfl⟩
            exact ⟨setKid n p c.x c', mem_addKid.mpr (.inl ⟨c', hc', rfl⟩), by rw [setKid_pth, e], by rw [setKid_x]⟩
          · rintro ⟨c', hc', e, rfl⟩
            rcases mem_addKid.mp hc' with ⟨n', hn', rfl⟩ | rfl
            · rw [setKid_pth] at e; exact ⟨n', hn', e, by rw [setKid_x]⟩
            · rw [hc] at e; exact absurd (snoc_inj e).2.symm hq
      · have ek : (setKid u p c.x n).kids = n.kids := by unfold setKid; rw [if_neg hnu]
        rw [ek, T.kid n hn q v]
        constructor
        · rintro ⟨c', hc', e, rfl⟩
          exact ⟨setKid u p c.x c', mem_addKid.mpr (.inl ⟨c', hc', rfl⟩), by rw [setKid_pth, e], by rw [setKid_x]⟩
        · rintro ⟨c', hc', e, rfl⟩
          rcases mem_addKid.mp hc' with ⟨n', hn', rfl⟩ | rfl
          · rw [setKid_pth] at e; exact ⟨n', hn', e, by rw [setKid_x]⟩
          · rw [hc] at e; exact absurd (snoc_inj e).1.symm hnu
    · rw [hk]
      constructor
      · intro e; cases e
      · rintro ⟨c', hc', e, rfl⟩
        exfalso
        rcases mem_addKid.mp hc' with ⟨n', hn', rfl⟩ | rfl
        · rw [setKid_pth, hc] at e
          obtain ⟨u', hu', e', _⟩ := T.up n' hn' _ _ e
          exact has_false hno u' hu' e'
        · have := congrArg List.length e
          simp at this
  up := by
    intro nd hnd q a e
    rcases mem_addKid.mp hnd with ⟨n, hn, rfl⟩ | rfl
    · rw [setKid_pth] at e
      obtain ⟨u', hu', e', hp'⟩ := T.up n hn q a e
      exact ⟨setKid u p c.x u', mem_addKid.mpr (.inl ⟨u', hu', rfl⟩), by rw [setKid_pth, e'], by rw [setKid_par, setKid_x, hp']⟩
    · rw [hc] at e
      have hq := (snoc_inj e).1
      exact ⟨setKid u p nd.x u, mem_addKid.mpr (.inl ⟨u, hu, rfl⟩), by rw [setKid_pth, hq], by rw [setKid_x, hpar]⟩
  top := by
    intro nd hnd e
    rcases mem_addKid.mp hnd with ⟨n, hn, rfl⟩ | rfl
    · rw [setKid_pth] at e; rw [setKid_par]; exact T.top n hn e
    · rw [hc] at e; simp at e
  part := by
    intro nd hnd a ha
    rcases mem_addKid.mp hnd with ⟨n, hn, rfl⟩ | rfl
    · rw [setKid_pth] at ha; exact T.part n hn a ha
    · rw [hc] at ha
      rcases List.mem_append.mp ha with ha | ha
      · exact T.part u hu a ha
      · rw [List.mem_singleton.mp ha]; exact hp
  adr := by rw [addKid_addrs]; exact hadr
  len := by unfold Np.addKid; simp; omega
  deep := by
    intro nd hnd
    rcases mem_addKid.mp hnd with ⟨n, hn, rfl⟩ | rfl
    · rw [setKid_pth]; exact T.deep n hn
    · rw [hc]; simp; omega

  few := by
    intro nd hnd
    have hl : (Np.addKid ns u p c).length = ns.length + 1 := by unfold Np.addKid; simp
    rw [hl]
    rcases mem_addKid.mp hnd with ⟨n, hn, rfl⟩ | rfl
    · have := T.few n hn
      unfold setKid
      split
      · have := stored_len n.kids p (.ref c.x); dsimp only; omega
      · omega
    · rw [hk]; simp

theorem pairwise_ne {α : Type} {R : α → α → Prop} (hs : ∀ a b, R a b → R b a) : ∀ {l : List α}, l.Pairwise R → ∀ {a b : α}, a ∈ l → b ∈ l → a ≠ b → R a b
  | [], _, _, _, ha, _, _ => nomatch ha
  | x :: r, h, a, b, ha, hb, hne => by
    rw [List.pairwise_cons] at h
    rcases List.mem_cons.mp ha with e1 | ha <;> rcases List.mem_cons.mp hb with e2 | hb
    · exact absurd (e1.trans e2.symm) hne
    · rw [e1]; exact h.1 b hb
    · rw [e2]; exact hs _ _ (h.1 a ha)
    · exact pairwise_ne hs h.2 ha hb hne
theorem Tree.own {ns : List Nd} (T : Tree ns) {u : Nd} (hu : u ∈ ns) : u.addrs.Nodup := (List.pairwise_flatMap.mp T.adr).1 u hu
theorem Tree.apart {ns : List Nd} (T : Tree ns) {n u : Nd} (hn : n ∈ ns) (hu : u ∈ ns) (hne : n.pth ≠ u.pth) : ∀ a ∈ n.addrs, ∀ b ∈ u.addrs, a ≠ b :=
  pairwise_ne (fun _ _ h a ha b hb e => h b hb a ha e.symm) (List.pairwise_flatMap.mp T.adr).2 hn hu (fun e => hne (by rw [e]))

theorem Rep.addKid {w : World} {news news' : Led} {ns : List Nd} {u c : Nd} {p : Str} (R : Rep w news ns) (hu : u ∈ ns) (T' : Tree (addKid ns u p c)) (hold : ∀ q ∈ news, q.1 ≠ u.ch → q ∈ news')
    (hch : DictIn w news' u.ch (stored u.kids p (.ref c.x))) (hc : NdIn w news' c) : Rep w news' (addKid ns u p c) := by
  refine ⟨T', fun nd hnd => ?_⟩
  rcases mem_addKid.mp hnd with ⟨n, hn, rfl⟩ | rfl
  · have hN := R.node n hn
    by_cases hnu : n.pth = u.pth
    · have en : n = u := R.tree.inj hn hu hnu
      subst en
      have ho := R.tree.own hu
      have own := OwnD.of ho
      have e : setKid n p c.x n = { n with kids := stored n.kids p (.ref c.x) } := by unfold setKid; rw [if_pos rfl]
      rw [e]
      exact {
        hx := hold _ hN.hx own.n2
        hd := hold _ hN.hd own.n7
        hch := hch
        hcm := hN.hcm.mono fun q hq e => hold q hq (by rw [e]; exact fun e => own.n12 e.symm)
        hvr := hN.hvr.mono fun q hq e => hold q hq (by rw [e]; exact fun e => own.n13 e.symm)
        hex := hold _ hN.hex (fun e => own.n14 e.symm)
        hpa := hold _ hN.hpa (fun e => own.n15 e.symm) }
    · have e : setKid u p c.x n = n := by unfold setKid; rw [if_neg hnu]
      rw [e]
      exact hN.mono fun q hq hm => hold q hq (R.tree.apart hn hu hnu _ hm _ (Nd.mch _))
  · exact hc

/-- down from q along the parts, making what is missing -/
def growP : List (List Str) → List Str → List Str → List (List Str) × List Str
  | P, q, [] => (P, q)
  | P, q, p :: r => if p = Str.ofString "" then growP P q r else growP (if q ++ [p] ∈ P then P else P ++ [q ++ [p]]) (q ++ [p]) r
theorem has_mem {ns : List Nd} {q : List Str} : has ns q = true ↔ q ∈ ns.map (·.pth) := by
  rw [has_iff, List.mem_map]
/-- nothing but kids has turned, and what is new is bare -/
def Grown (ns ns1 : List Nd) : Prop := ∃ (kf : Nd → List (Str × Value)) (ext : List Nd), ns1 = ns.map (fun nd => { nd with kids := kf nd }) ++ ext ∧ ∀ c ∈ ext, c.cmds = [] ∧ c.exps = #[] ∧ c.path = #[]
theorem Grown.refl (ns : List Nd) : Grown ns ns := ⟨fun nd => nd.kids, [], by simp, by simp⟩
theorem Grown.addKid {ns ns1 : List Nd} (h : Grown ns ns1) (u : Nd) (p : Str) {c : Nd} (hc : c.cmds = [] ∧ c.exps = #[] ∧ c.path = #[]) : Grown ns (addKid ns1 u p c) := by
  obtain ⟨kf, ext, rfl, he⟩ := h
  refine ⟨fun nd => (setKid u p c.x { nd with kids := kf nd }).kids, ext.map (setKid u p c.x) ++ [c], ?_, ?_⟩
  · unfold Np.addKid
    rw [List.map_append, List.map_map, List.append_assoc]
    congr 1
    refine List.map_congr_left fun nd _ => ?_
    exact setKid_eta u p c.x { nd with kids := kf nd }
  · intro d hd
    rcases List.mem_append.mp hd with hd | hd
    · obtain ⟨e, hee, rfl⟩ := List.mem_map.mp hd
      have := he e hee
      unfold setKid
      split
      · exact this
      · exact this
    · rw [List.mem_singleton.mp hd]; exact hc

theorem NdIn.addr_mem {w : World} {news : Led} {nd : Nd} (h : NdIn w news nd) : ∀ a ∈ nd.addrs, ∃ o, (a, o) ∈ news := by
  intro a ha
  simp only [Nd.addrs, List.mem_cons, List.not_mem_nil, or_false] at ha
  rcases ha with rfl | rfl | rfl | rfl | rfl | rfl | rfl
  · exact ⟨_, h.hx⟩
  · exact ⟨_, h.hd⟩
  · obtain ⟨⟨o, ho, _⟩, _⟩ := h.hch; exact ⟨o, ho⟩
  · obtain ⟨⟨o, ho, _⟩, _⟩ := h.hcm; exact ⟨o, ho⟩
  · obtain ⟨⟨o, ho, _⟩, _⟩ := h.hvr; exact ⟨o, ho⟩
  · exact ⟨_, h.hex⟩
  · exact ⟨_, h.hpa⟩
theorem Rep.addr_mem {w : World} {news : Led} {ns : List Nd} (R : Rep w news ns) : ∀ a ∈ ns.flatMap Nd.addrs, ∃ o, (a, o) ∈ news := by
  intro a ha
  obtain ⟨nd, hn, ha⟩ := List.mem_flatMap.mp ha
  exact (R.node nd hn).addr_mem a ha
end
section
open PySem PySem.W PyProof.Rows PySem.Calls
set_option Elab.async false
set_option maxRecDepth 100000

theorem news_eq {h₀ h : Heap} {L : Addr} {l l' : Led} (N : News h₀ L h l) (e : l = l') : News h₀ L h l' := e ▸ N
theorem setL_mid {d : Addr} {o o' : Obj} {pre post : Led} (hp : ∀ p ∈ pre, p.1 ≠ d) (hq : ∀ p ∈ post, p.1 ≠ d) : setL d o' (pre ++ (d, o) :: post) = pre ++ (d, o') :: post := by
  rw [setL_append hp]
  congr 1
  show (if d = d then (d, o') else (d, o)) :: setL d o' post = _
  rw [if_pos rfl, ← List.append_nil post, setL_append hq]
  rfl
section
variable {prog : Program} {w : World} {A : Around} {E : Value → Shared → Prop} {s : Shared} {h₀ : Heap} {L d : Addr} {m : Str → Option Value} {news : Led}
theorem list_pop {p : List Value} {y : Value} {n : Nat} {Q : Value → Shared → Prop} (F : Fr h₀ L s.heap m) (N : News h₀ L s.heap news) (hm : (d, PySem.W.listOf (p ++ [y]).toArray n) ∈ news) (hz : p.length + 1 ≤ sizeLine)
    (h : ∀ h', Fr h₀ L h' m → News h₀ L h' (setL d (PySem.W.listOf p.toArray (n + 1)) news) → Q y { s with heap := h' }) : wpAny (model prog w) A (call (.builtin "list.pop") [.ref d]) Q E s := by
  refine kl_pop (p := p) (y := y) F (news_front N hm) ?_ (Upd.head rest_off) (by simpa using hz) fun h' F' N' => h h' F' (news_unfront N')
  show kl_last (p ++ [y]) = some (p, y)
  clear hm hz h
  induction p with
  | nil => rfl
  | cons a r ih =>
    show kl_last (a :: (r ++ [y])) = _
    rw [kl_last, ih]
end

/-- down the tree, what is found and what waits -/
structure Dfs (ns : List Nd) (D W : List (List Str)) : Prop where
  nd : D.Nodup
  sub : ∀ q ∈ D, has ns q = true
  wnd : W.Nodup
  wsub : ∀ q ∈ W, q ∈ D
  par : ∀ q p, q ++ [p] ∈ D → q ∈ D ∧ q ∉ W
  kid : ∀ q ∈ D, q ∉ W → ∀ p, has ns (q ++ [p]) = true → q ++ [p] ∈ D
  root : [] ∈ D
theorem Dfs.start {ns : List Nd} (T : Tree ns) : Dfs ns [[]] [[]] where
  nd := by simp
  sub := by intro q hq; rw [List.mem_singleton.mp hq]; exact T.root
  wnd := by simp
  wsub := fun q hq => hq
  par := by intro q p h; simp at h
  kid := by intro q hq hn; exact absurd hq hn
  root := .head _
theorem Dfs.step {ns : List Nd} {D W K : List (List Str)} {u : List Str} (h : Dfs ns D (W ++ [u])) (hK : K.Nodup) (hk : ∀ q, q ∈ K ↔ ∃ p, q = u ++ [p] ∧ has ns q = true) : Dfs ns (D ++ K) (W ++ K) := by
  have huD : u ∈ D := h.wsub u (by simp)
  have hwn := List.nodup_append.mp h.wnd
  have huW : u ∉ W := fun hu => hwn.2.2 u hu u (by simp) rfl
  have hdis : ∀ q ∈ K, q ∉ D := by
    intro q hq hD
    obtain ⟨p, rfl, _⟩ := (hk q).mp hq
    exact (h.par u p hD).2 (by simp)
  refine ⟨?_, ?_, ?_, ?_, ?_, ?_, ?_⟩
  · exact List.nodup_append.mpr ⟨h.nd, hK, fun a ha b hb e => hdis b hb (e ▸ ha)⟩
  · intro q hq
    rcases List.mem_append.mp hq with hq | hq
    · exact h.sub q hq
    · obtain ⟨_, _, hh⟩ := (hk q).mp hq; exact hh
  · exact List.nodup_append.mpr ⟨hwn.1, hK, fun a ha b hb e => hdis b hb (e ▸ h.wsub a (List.mem_append_left _ ha))⟩
  · intro q hq
    rcases List.mem_append.mp hq with hq | hq
    · exact List.mem_append_left _ (h.wsub q (List.mem_append_left _ hq))
    · exact List.mem_append_right _ hq
  · intro q p hqp
    rcases List.mem_append.mp hqp with hqp | hqp
    · obtain ⟨h1, h2⟩ := h.par q p hqp
      refine ⟨List.mem_append_left _ h1, fun hw => ?_⟩
      rcases List.mem_append.mp hw with hw | hw
      · exact h2 (List.mem_append_left _ hw)
      · exact hdis q hw h1
    · obtain ⟨p', e, _⟩ := (hk _).mp hqp
      have e' := List.append_inj' e rfl
      rw [e'.1]
      refine ⟨List.mem_append_left _ huD, fun hw => ?_⟩
      rcases List.mem_append.mp hw with hw | hw
      · exact huW hw
      · exact hdis u hw huD
  · intro q hq hn p hp
    rcases List.mem_append.mp hq with hq | hq
    · by_cases e : q = u
      · subst e; exact List.mem_append_right _ ((hk _).mpr ⟨p, rfl, hp⟩)
      · exact List.mem_append_left _ (h.kid q hq (fun hw => by
          rcases List.mem_append.mp hw with hw | hw
          · exact hn (List.mem_append_left _ hw)
          · exact e (List.mem_singleton.mp hw)) p hp)
    · exact absurd (List.mem_append_right _ hq) hn
  · exact List.mem_append_left _ h.root
theorem Dfs.all {ns : List Nd} {D : List (List Str)} (T : Tree ns) (h : Dfs ns D []) : ∀ q, q ∈ D ↔ has ns q = true := by
  intro q
  constructor
  · exact h.sub q
  · intro hq
    obtain ⟨k, hk⟩ : ∃ k, q.length = k := ⟨_, rfl⟩
    induction k generalizing q with
    | zero => rw [List.eq_nil_of_length_eq_zero hk]; exact h.root
    | succ k ih =>
      obtain ⟨nd, hnd, rfl⟩ := has_iff.mp hq
      have hne : nd.pth ≠ [] := by intro e; rw [e] at hk; cases hk
      have e := (List.dropLast_concat_getLast hne).symm
      obtain ⟨u, hu, hup, _⟩ := T.up nd hnd _ _ e
      rw [e]
      refine h.kid _ (ih _ (has_iff.mpr ⟨u, hu, hup⟩) (by rw [List.length_dropLast, hk]; rfl)) (fun h => nomatch h) _ (by rw [← e]; exact hq)
theorem nodup_len {D P : List (List Str)} (hn : D.Nodup) (hs : ∀ q ∈ D, q ∈ P) : D.length ≤ P.length := by
  induction D generalizing P with
  | nil => simp
  | cons d D ih =>
    rw [List.nodup_cons] at hn
    have hd := hs d (.head _)
    have := ih (P := P.erase d) hn.2 (fun q hq => (List.mem_erase_of_ne (fun e : q = d => hn.1 (by rw [← e]; exact hq))).mpr (hs q (.tail _ hq)))
    rw [List.length_erase_of_mem hd] at this
    have hp := List.length_pos_of_mem hd
    rw [List.length_cons]; omega
theorem Dfs.len {ns : List Nd} {D W : List (List Str)} (h : Dfs ns D W) : D.length ≤ ns.length := by
  have := nodup_len (P := ns.map (·.pth)) h.nd (fun q hq => has_mem.mp (h.sub q hq))
  simpa using this
def xAt (ns : List Nd) (q : List Str) : Value := match ns.find? fun nd => decide (nd.pth = q) with
  | some nd => .ref nd.x
  | none => .none
theorem Tree.xAt {ns : List Nd} (T : Tree ns) {nd : Nd} (hn : nd ∈ ns) : xAt ns nd.pth = .ref nd.x := by
  unfold Np.xAt
  cases hf : ns.find? fun c => decide (c.pth = nd.pth) with
  | none => exact absurd (List.find?_eq_none.mp hf nd hn) (by simp)
  | some c =>
    have h1 := List.find?_some hf
    have h2 := List.mem_of_find?_eq_some hf
    rw [T.inj h2 hn (by simpa using h1)]
/-- the names of the tree, and where they lie -/
def tkv (ns : List Nd) (D : List (List Str)) : List (Str × Value) := D.map fun q => (nmOf q, xAt ns q)
theorem Tree.menu {ns : List Nd} (T : Tree ns) {q : List Str} (h : has ns q = true) : ∀ p ∈ q, p ∈ Np.menu := by
  obtain ⟨nd, hn, rfl⟩ := has_iff.mp h; exact T.part nd hn
theorem valueAt_tkv {ns : List Nd} (T : Tree ns) {D : List (List Str)} (hs : ∀ q ∈ D, has ns q = true) {q : List Str} (hq : ∀ p ∈ q, p ∈ Np.menu) : valueAt (tkv ns D) (nmOf q) = if q ∈ D then some (xAt ns q) else none := by
  unfold tkv valueAt
  induction D with
  | nil => rfl
  | cons d D ih =>
    rw [List.map_cons, List.find?_cons]
    by_cases h : nmOf d = nmOf q
    · have e := nmOf_inj (T.menu (hs d (.head _))) hq h
      subst e
      simp
    · have e : ¬ q = d := fun e => h (by rw [e])
      simp only [h, decide_false]
      rw [ih fun q hq => hs q (.tail _ hq)]
      simp [e]
theorem nodup_kids {q : List Str} {kvs : List (Str × Value)} (h : (kvs.map (·.1)).Nodup) : (kvs.map fun kv => q ++ [kv.1]).Nodup := by
  induction kvs with
  | nil => simp
  | cons kv r ih =>
    rw [List.map_cons, List.nodup_cons] at h ⊢
    refine ⟨fun hm => h.1 ?_, ih h.2⟩
    obtain ⟨x, hx, e⟩ := List.mem_map.mp hm
    have := (snoc_inj e).2
    exact List.mem_map.mpr ⟨x, hx, this⟩
theorem isSome_mem {kvs : List (Str × Value)} {p : Str} : (valueAt kvs p).isSome = true ↔ ∃ y, (p, y) ∈ kvs := by
  unfold valueAt
  rw [Option.isSome_map]
  rw [List.find?_isSome]
  constructor
  · rintro ⟨x, hx, e⟩
    have : x.1 = p := by simpa using e
    exact ⟨x.2, by rw [← this]; exact hx⟩
  · rintro ⟨y, hy⟩
    exact ⟨_, hy, by simp⟩
theorem kids_mem {ns : List Nd} (T : Tree ns) {nd : Nd} (hn : nd ∈ ns) : ∀ q, q ∈ (nd.kids.map fun kv => nd.pth ++ [kv.1]) ↔ ∃ p, q = nd.pth ++ [p] ∧ has ns q = true := by
  intro q
  rw [List.mem_map]
  constructor
  · rintro ⟨kv, hkv, rfl⟩
    exact ⟨kv.1, rfl, by rw [← T.kidSome hn]; exact isSome_mem.mpr ⟨kv.2, hkv⟩⟩
  · rintro ⟨p, rfl, hp⟩
    rw [← T.kidSome hn] at hp
    obtain ⟨y, hy⟩ := isSome_mem.mp hp
    exact ⟨_, hy, rfl⟩
theorem stored_new {kvs : List (Str × Value)} {k : Str} {v : Value} (h : valueAt kvs k = none) : stored kvs k v = kvs ++ [(k, v)] := by
  unfold stored
  rw [if_neg]
  intro ha
  obtain ⟨x, hx, e⟩ := List.any_eq_true.mp ha
  unfold valueAt at h
  cases hf : kvs.find? fun kv => decide (kv.1 = k) with
  | none => exact absurd (List.find?_eq_none.mp hf x hx) (by simpa using e)
  | some y => rw [hf] at h; cases h
end
section
open PySem PySem.W PyProof.Rows PySem.Calls PySem.Spec
set_option Elab.async false
set_option maxRecDepth 100000

/-- strings in order are alike when they are the same but for the order -/
theorem strs_uniq : ∀ (a b : List Str), a.Perm b → a.Pairwise (fun x y => x.cps.toList ≤ y.cps.toList) → b.Pairwise (fun x y => x.cps.toList ≤ y.cps.toList) → a = b
  | [], b, p, _, _ => by rw [p.nil_eq]
  | x :: r, [], p, _, _ => by have := p.length_eq; simp at this
  | x :: r, y :: t, p, ha, hb => by
    have hx := List.pairwise_cons.mp ha
    have hy := List.pairwise_cons.mp hb
    have e : x = y := by
      refine str_ext ?_
      have h1 : x.cps.toList ≤ y.cps.toList := by
        rcases List.mem_cons.mp (p.mem_iff.mpr (List.mem_cons_self (a := y) (l := t))) with e | h
        · rw [e]; exact List.le_refl _
        · exact hx.1 y h
      have h2 : y.cps.toList ≤ x.cps.toList := by
        rcases List.mem_cons.mp (p.mem_iff.mp (List.mem_cons_self (a := x) (l := r))) with e | h
        · rw [e]; exact List.le_refl _
        · exact hy.1 x h
      exact List.le_antisymm h1 h2
    subst e
    rw [strs_uniq r t (List.Perm.cons_inv p) hx.2 hy.2]
theorem rising_le : ∀ (p : Str) (l : List Str), risingS p l = true → (p :: l).Pairwise (fun x y => x.cps.toList ≤ y.cps.toList)
  | p, [], _ => by simp
  | p, x :: r, h => by
    have h' : (!ltCps x.cps.toList p.cps.toList && risingS x r) = true := h
    rw [Bool.and_eq_true] at h'
    have ih := rising_le x r h'.2
    have h1 : p.cps.toList ≤ x.cps.toList := by
      have h3 := h'.1
      rw [ltCps_eq] at h3
      have h4 : ¬ x.cps.toList < p.cps.toList := by simpa using h3
      exact h4
    refine List.pairwise_cons.mpr ⟨fun y hy => ?_, ih⟩
    rcases List.mem_cons.mp hy with rfl | hy
    · exact h1
    · exact List.le_trans h1 ((List.pairwise_cons.mp ih).1 y hy)
theorem sortedS_uniq {a b : List Str} (p : a.Perm b) (ha : sortedS a = true) (hb : sortedS b = true) : a = b := by
  refine strs_uniq a b p ?_ ?_
  · cases a with
    | nil => exact .nil
    | cons x r => exact rising_le x r ha
  · cases b with
    | nil => exact .nil
    | cons x r => exact rising_le x r hb

section
variable {prog : Program} {w : World} {A : Around} {E : Value → Shared → Prop} {s : Shared} {h₀ : Heap} {L B : Addr} {m : Str → Option Value} {news : Led} {vs : List Value} {n : Nat}
theorem sortedHeap_at {h : Heap} {a : Addr} {vs out : List Value} {n : Nat} (F : Fr h₀ L h m) (N : News h₀ L h ((a, PySem.W.listOf vs.toArray n) :: news)) (hB : ∀ p ∈ news, p.1 ≠ a) :
    Fr h₀ L (sortedHeap h a vs out.toArray) m ∧ ∃ c, News h₀ L (sortedHeap h a vs out.toArray) ((a, PySem.W.listOf out.toArray c) :: news) := by
  have z := N _ (.head _)
  have ho : h.get? a = some (seqObj "list" vs.toArray n) := z.1
  have N0 : News h₀ L h news := fun p hp => N p (.tail _ hp)
  have s1 := Heap.SameBut.update h a (Obj.mapSeq fun _ => (#[] : Array Value))
  obtain ⟨e1, ho1⟩ : ∃ e1, (h.update a (Obj.mapSeq fun _ => (#[] : Array Value))).get? a = some (seqObj "list" #[] e1) := ⟨_, get?_update_seq ho fun _ => #[]⟩
  have F3 := ((kas_fr F s1 z.2.1 z.2.2).push (seqObj "tuple" vs.toArray 0)).push (seqObj "list" #[] 0)
  have N3 : News h₀ L (((h.update a (Obj.mapSeq fun _ => (#[] : Array Value))).push (seqObj "tuple" vs.toArray 0)).push (seqObj "list" #[] 0)) news := fun p hp =>
    ⟨Heap.get?_push_of_some _ (Heap.get?_push_of_some _ ((s1.2 p.1 (hB p hp)).trans (N0 p hp).1)), (N0 p hp).2⟩
  have ho3 : (((h.update a (Obj.mapSeq fun _ => (#[] : Array Value))).push (seqObj "tuple" vs.toArray 0)).push (seqObj "list" #[] 0)).get? a = some (seqObj "list" #[] e1) := Heap.get?_push_of_some _ (Heap.get?_push_of_some _ ho1)
  have s2 := Heap.SameBut.update (((h.update a (Obj.mapSeq fun _ => (#[] : Array Value))).push (seqObj "tuple" vs.toArray 0)).push (seqObj "list" #[] 0)) a (Obj.mapSeq fun _ => out.toArray)
  obtain ⟨c, hz⟩ : ∃ c, ((((h.update a (Obj.mapSeq fun _ => (#[] : Array Value))).push (seqObj "tuple" vs.toArray 0)).push (seqObj "list" #[] 0)).update a (Obj.mapSeq fun _ => out.toArray)).get? a = some (seqObj "list" out.toArray c) := ⟨_, get?_update_seq ho3 fun _ => out.toArray⟩
  have N4 : News h₀ L (sortedHeap h a vs out.toArray) ((a, PySem.W.listOf out.toArray c) :: news) := fun p hp => by
    rcases List.mem_cons.mp hp with e | hp
    · rw [e]; exact ⟨hz, z.2⟩
    · exact ⟨(s2.2 p.1 (hB p hp)).trans (N3 p hp).1, (N3 p hp).2⟩
  exact ⟨kas_fr F3 s2 z.2.1 z.2.2, c, N4⟩

theorem sort_strs {ss : List Str} {Q : Value → Shared → Prop} (F : Fr h₀ L s.heap m) (N : News h₀ L s.heap ((B, PySem.W.listOf vs.toArray n) :: news)) (hB : ∀ p ∈ news, p.1 ≠ B) (hS : StrsAre vs ss) (h64 : vs.length < 64)
    (h : ∀ h' vs' ss' c, Fr h₀ L h' m → News h₀ L h' ((B, PySem.W.listOf vs'.toArray c) :: news) → StrsAre vs' ss' → ss'.Perm ss → sortedS ss' = true → Q .none { s with heap := h' }) :
    wpAny (model prog w) A (call (.builtin "list.sort") [.ref B]) Q E s := by
  have z := N _ (.head _)
  have ho : s.heap.get? B = some (seqObj "list" vs.toArray n) := z.1
  refine wpAny_call_entry slot_list_sort ⟨_, z.1, rfl⟩ entry_list_sort (list_sort_treeK strKind_oneLt ho hS.keysOf (fun v₁ v₂ rest e => keyKind_strs (by rw [← e]; exact hS)) h64 fun st' hp hs => ?_) (args_list_sort _)
  obtain ⟨ss', h1, h2, h3⟩ := sorted_out_str hS hp hs
  obtain ⟨F', c, N'⟩ := sortedHeap_at (out := ((arrOf st').map (·.2)).toList) F N hB
  rw [Array.toArray_toList] at F' N'
  refine ⟨_, rfl, h _ ((arrOf st').map (·.2)).toList ss' c F' (by rw [Array.toArray_toList]; exact N') h1 h2 h3⟩

theorem list_sort_short {a : Addr} {P : PySem.Fin → Shared → Prop} (ho : s.heap.get? a = some (seqObj "list" vs.toArray n)) (h2 : vs.length < 2) (h : P (.done (.ret .none)) { s with heap := sortedHeap s.heap a vs vs.toArray }) :
    wpAny (model prog w) A (Builtin.«list.sort» ⟨[.ref a], []⟩) P E s := by
  rw [list_sort_plain]
  have ha : a < s.heap.objs.size := Heap.lt_size ho
  refine wpAny_bind (listItems_at ho rfl ?_)
  refine wpAny_bind (listUpdate_at ho rfl ?_ (by rw [List.size_toArray, sizeLine_eq]; omega) (Nat.zero_le _))
  obtain ⟨e1, ho1⟩ : ∃ e1, (s.heap.update a (Obj.mapSeq fun _ => #[])).get? a = some (seqObj "list" #[] e1) := ⟨_, get?_update_seq ho (fun _ => #[])⟩
  refine wpAny_bind (seqEpoch_at ho1 rfl ?_)
  refine wpAny_bind (wpAny_newTuple ?_ (by show vs.length ≤ _; rw [sizeLine_eq]; omega))
  refine wpAny_bind (wpAny_newList ?_ (Nat.zero_le _))
  refine wpAny_holding ?_
  have ho6 : (((s.heap.update a (Obj.mapSeq fun _ => #[])).push (seqObj "tuple" vs.toArray 0)).push (seqObj "list" #[] 0)).get? a = some (seqObj "list" #[] e1) := Heap.get?_push_of_some _ (Heap.get?_push_of_some _ ho1)
  show wpAny (model prog w) A _ P E { s with heap := ((s.heap.update a (Obj.mapSeq fun _ => #[])).push (seqObj "tuple" vs.toArray 0)).push (seqObj "list" #[] 0) }
  dsimp only
  have h2' : vs.toArray.size < 2 := by rw [List.size_toArray]; exact h2
  rw [if_pos h2', if_pos h2']
  refine wpAny_bind (wpAny_pure ?_)
  rw [StateT.run_pure]
  refine wpAny_bind (wpAny_pure ?_)
  dsimp only
  refine wpAny_bind (seqEpoch_at ho6 rfl ?_)
  have e : (arrOf (SortSt.mk' general' (vs.toArray.zip vs.toArray) #[] 7 none)).map (·.2) = vs.toArray := by
    show (vs.toArray.zip vs.toArray).map (·.2) = vs.toArray
    apply Array.toList_inj.mp
    rw [Array.toList_map, Array.toList_zip]
    exact List.map_snd_zip (Nat.le_refl _)
  rw [e]
  refine wpAny_bind (listUpdate_at ho6 rfl ?_ (Nat.zero_le _) (by rw [List.size_toArray, sizeLine_eq]; omega))
  simp only [bne_self_eq_false, Bool.false_eq_true, if_false]
  exact wpAny_pure h

theorem sorted_any {l : Addr} {c : Nat} {Q : Value → Shared → Prop} (F : Fr h₀ L s.heap m) (N : News h₀ L s.heap news) (hm : (l, PySem.W.listOf vs.toArray c) ∈ news) (hz : vs.length ≤ sizeLine)
    (h : ∀ D h', Fr h₀ L h' m → News h₀ L h' ((D, PySem.W.listOf vs.toArray 0) :: news) → (∀ q ∈ news, q.1 < D) → wpAny (model prog w) A.in1 (call (.builtin "list.sort") [.ref D]) (fun _ s' => Q (.ref D) s') E { s with heap := h' }) :
    wpAny (model prog w) A (call (.builtin "sorted") [.ref l]) Q E s := by
  have hl : s.heap.IsList l vs.toArray := isList_of N hm
  refine Calls.call_function_entry kind_sorted plain_sorted entry_sorted (args_sorted1 _) ?_
  unfold Builtin.«sorted»
  refine wpAny_bind (m := checkCount "sorted" 1 1 _) (wpAny_pure ?_)
  refine wpAny_bind (collect_list hl ?_ hz)
  refine wpAny_bind (wpAny_newList ?_ hz)
  have keep : ∀ b o, s.heap.get? b = some o → ((s.heap.push (seqObj "list" #[] 0)).update s.heap.objs.size (Obj.mapSeq (· ++ vs.toArray))).get? b = some o := fun b o q => by
    have hlt : b < s.heap.objs.size := Heap.lt_size q
    rw [Heap.get?_update_ne _ _ _ _ (Nat.ne_of_lt hlt), Heap.get?_push_ne _ _ _ (Nat.ne_of_lt hlt)]
    exact q
  have N' : News h₀ L ((s.heap.push (seqObj "list" #[] 0)).update s.heap.objs.size (Obj.mapSeq (· ++ vs.toArray))) news := fun p hp => ⟨keep _ _ (N p hp).1, (N p hp).2⟩
  have hg := h _ _ ((F.keeps keep).push _) (News.push (F.keeps keep) N' { cls := .type "list", data := .seq vs.toArray } rfl) (fun q hq => Heap.lt_size (N' q hq).1)
  refine wpAny_bind (wpAny_holding (wpAny_mono hg (fun _ s' x => ?_) fun _ _ e => e))
  exact wpAny_pure ⟨_, rfl, x⟩
end
end
section
open PySem PySem.W PyProof.Rows PySem.Calls PySem.Spec
set_option Elab.async false
set_option maxRecDepth 100000

/-- refs to pairs of a text and a number -/
inductive TupsAre (news : Led) : List Value → List (Str × Int) → Prop
  | nil : TupsAre news [] []
  | cons {a : Addr} {k : Str} {t : Tok} {d : Int} {t' : Tok} {c : Nat} {vs : List Value} {ds : List (Str × Int)} : (a, ({ cls := .type "tuple", data := .seq #[.str k t, .int d t'] c } : Obj)) ∈ news → TupsAre news vs ds → TupsAre news (.ref a :: vs) ((k, d) :: ds)
theorem TupsAre.length {news : Led} {vs : List Value} {ds : List (Str × Int)} (h : TupsAre news vs ds) : vs.length = ds.length := by
  induction h with
  | nil => rfl
  | cons _ _ ih => simp [ih]
theorem TupsAre.mono {news news' : Led} {vs : List Value} {ds : List (Str × Int)} (h : TupsAre news vs ds) (hs : ∀ p ∈ news, p ∈ news') : TupsAre news' vs ds := by
  induction h with
  | nil => exact .nil
  | cons hm _ ih => exact .cons (hs _ hm) ih
theorem TupsAre.item {news : Led} {vs : List Value} {ds : List (Str × Int)} (h : TupsAre news vs ds) : ∀ (i : Nat), i < ds.length → ∃ a k t d t' c, vs.getD i Value.none = .ref a ∧ ds[i]? = some (k, d) ∧ (a, ({ cls := .type "tuple", data := .seq #[.str k t, .int d t'] c } : Obj)) ∈ news := by
  induction h with
  | nil => intro i hi; exact absurd hi (Nat.not_lt_zero _)
  | @cons a k t d t' c vs ds hm _ ih =>
    intro i hi
    cases i with
    | zero => exact ⟨a, k, t, d, t', c, rfl, rfl, hm⟩
    | succ i =>
      obtain ⟨a, k, t, d, t', c, e1, e2, e3⟩ := ih i (Nat.lt_of_succ_lt_succ hi)
      exact ⟨a, k, t, d, t', c, by simpa using e1, by simpa using e2, e3⟩
theorem TupsAre.append {news : Led} {vs ws : List Value} {ds es : List (Str × Int)} (h : TupsAre news vs ds) (h' : TupsAre news ws es) : TupsAre news (vs ++ ws) (ds ++ es) := by
  induction h with
  | nil => exact h'
  | cons hm _ ih => exact .cons hm ih
def pairD (p : Str × Int) : PyData := .tuple [.str p.1, .int p.2]
/-- what stands at a place, by the data -/
def dAt (ds : List (Str × Int)) (i : Nat) : PyData := match ds[i]? with
  | some p => pairD p
  | none => .none
theorem TupsAre.reads {news : Led} {vs : List Value} {ds : List (Str × Int)} (h : TupsAre news vs ds) (i : Nat) : LR news (vs.getD i Value.none) (dAt ds i) := by
  by_cases hi : i < ds.length
  · obtain ⟨a, k, t, d, t', c, e1, e2, e3⟩ := h.item i hi
    unfold dAt
    rw [e1, e2]
    exact .tup e3 (.cons (.str _ _) (.cons (.int _ _) .nil))
  · have hl := h.length
    have e1 : vs.getD i Value.none = .none := by rw [List.getD_eq_getElem?_getD, List.getElem?_eq_none (by omega)]; rfl
    have e2 : ds[i]? = none := List.getElem?_eq_none (by omega)
    unfold dAt
    rw [e1, e2]
    exact .none

def kasRun {α : Type} : KasT α → (Nat → Nat → Bool) → α
  | .ret a, _ => a
  | .ask i j k, f => kasRun (k (f i j)) f
def kasOk {α : Type} (n : Nat) : KasT α → Bool
  | .ret _ => true
  | .ask i j k => decide (i < n) && decide (j < n) && decide (i ≠ j) && kasOk n (k true) && kasOk n (k false)
theorem kasWp_run {α : Type} {n : Nat} {cmp : Nat → Nat → (Bool → Shared → Prop) → Shared → Prop} {f : Nat → Nat → Bool} {Q : α → Shared → Prop} {s : Shared}
    (hc : ∀ i j (C : Bool → Shared → Prop), i < n → j < n → i ≠ j → C (f i j) s → cmp i j C s) : ∀ (t : KasT α), kasOk n t = true → Q (kasRun t f) s → t.kasWp cmp Q s
  | .ret a, _, h => h
  | .ask i j k, hk, h => by
    simp only [kasOk, Bool.and_eq_true, decide_eq_true_eq] at hk
    obtain ⟨⟨⟨⟨h1, h2⟩, h3⟩, h4⟩, h5⟩ := hk
    refine hc i j _ h1 h2 h3 ?_
    refine kasWp_run hc (k (f i j)) ?_ h
    cases f i j
    · exact h5
    · exact h4
theorem kasOk2 : kasOk 2 (kas_sort 2) = true := by decide +kernel
theorem kasOk3 : kasOk 3 (kas_sort 3) = true := by decide +kernel
theorem kasOk4 : kasOk 4 (kas_sort 4) = true := by decide +kernel
def ltD (ds : List (Str × Int)) (i j : Nat) : Bool := match ds[i]?, ds[j]? with
  | some p, some q => decide (p.1.cps.toList < q.1.cps.toList)
  | _, _ => false
def permOf (ds : List (Str × Int)) : List Nat := if ds.length < 2 then List.range ds.length else (kasRun (kas_sort ds.length) (ltD ds)).toList
def srt (ds : List (Str × Int)) (vs : List Value) : List Value := (permOf ds).map fun i => vs.getD i Value.none
theorem srt_short {ds : List (Str × Int)} {vs : List Value} (hl : vs.length = ds.length) (h : ds.length < 2) : srt ds vs = vs := by
  unfold srt permOf
  rw [if_pos h, ← hl]
  match vs, hl with
  | [], _ => rfl
  | [v], _ => rfl
  | _ :: _ :: _, hl => simp at hl; omega
def srtD (ds : List (Str × Int)) : PyData := .list ((permOf ds).map (dAt ds))
theorem srt_reads {news : Led} {vs : List Value} {ds : List (Str × Int)} (h : TupsAre news vs ds) : LRs news (srt ds vs) ((permOf ds).map (dAt ds)) := by
  unfold srt
  generalize permOf ds = p
  induction p with
  | nil => exact .nil
  | cons i r ih => exact .cons (h.reads i) ih

section
variable {prog : Program} {w : World} {A : Around} {E : Value → Shared → Prop} {s : Shared} {h₀ : Heap} {L B : Addr} {m : Str → Option Value} {news : Led} {vs : List Value} {n : Nat} {ds : List (Str × Int)}
theorem katTups {h : Heap} (ht : TupsAre news vs ds) (hh : ∀ p ∈ news, h.get? p.1 = some p.2) : ∃ fs, KatTups h vs fs ∧ fs.length = ds.length ∧ ∀ v ∈ fs, ∃ x t, v = .str x t := by
  induction ht with
  | nil => exact ⟨[], KatTups.nil, rfl, fun _ h => nomatch h⟩
  | cons hm _ ih =>
    obtain ⟨fs, h1, h2, h3⟩ := ih
    refine ⟨_ :: fs, KatTups.cons (hh _ hm) rfl rfl rfl h1, by simp [h2], fun v hv => ?_⟩
    rcases List.mem_cons.mp hv with rfl | hv
    · exact ⟨_, _, rfl⟩
    · exact h3 v hv
theorem sort_tups {Q : Value → Shared → Prop} (F : Fr h₀ L s.heap m) (N : News h₀ L s.heap ((B, PySem.W.listOf vs.toArray n) :: news)) (hB : ∀ p ∈ news, p.1 ≠ B) (hT : TupsAre news vs ds) (hn : (ds.map (·.1)).Nodup) (h4 : ds.length ≤ 4)
    (h : ∀ h' c, Fr h₀ L h' m → News h₀ L h' ((B, PySem.W.listOf (srt ds vs).toArray c) :: news) → Q .none { s with heap := h' }) :
    wpAny (model prog w) A (call (.builtin "list.sort") [.ref B]) Q E s := by
  have hl := hT.length
  by_cases h2 : ds.length < 2
  · have z := N _ (.head _)
    have ho : s.heap.get? B = some (seqObj "list" vs.toArray n) := z.1
    obtain ⟨F', c, N'⟩ := sortedHeap_at (out := vs) F N hB
    refine wpAny_call_entry slot_list_sort ⟨_, z.1, rfl⟩ entry_list_sort (list_sort_short ho (by omega) ⟨_, rfl, h _ c F' ?_⟩) (args_list_sort _)
    rw [srt_short hl h2]; exact N'
  · refine kat_lsort (vs := vs) (g := fun o => (B, o) :: news) F N (.head hB) (by simp) (by omega) (by omega) fun e1 h' F' N' => ?_
    obtain ⟨fs, t1, t2, t3⟩ := katTups (h := h') hT fun p hp => (N' p (.tail _ hp)).1
    refine kat_kind (T := .type "str") t1 (by omega) (fun v hv => ?_) rfl ?_
    · obtain ⟨x, t, rfl⟩ := t3 v hv
      exact Looks.of_pure rfl
    · have hok : kasOk ds.length (kas_sort vs.length) = true := by
        rw [hl]
        rcases (by omega : ds.length = 2 ∨ ds.length = 3 ∨ ds.length = 4) with e | e | e <;> rw [e]
        · exact kasOk2
        · exact kasOk3
        · exact kasOk4
      refine kasWp_run (n := ds.length) (f := ltD ds) (fun i j C hi hj hij hC => ?_) _ hok ?_
      · obtain ⟨a, k, t, d, t', c, e1, e2, e3⟩ := hT.item i hi
        obtain ⟨a2, k2, u, d2, u', c2, g1, g2, g3⟩ := hT.item j hj
        have hne : k ≠ k2 := by
          intro e
          have p1 : (ds.map (·.1))[i]? = some k := by rw [List.getElem?_map, e2]; rfl
          have p2 : (ds.map (·.1))[j]? = some k := by rw [List.getElem?_map, g2, e]; rfl
          exact hij ((List.getElem?_inj (by simpa using hi) hn).mp (p1.trans p2.symm))
        unfold kas_ask
        rw [e1, g1]
        refine kat_lt (N' _ (.tail _ e3)).1 rfl (N' _ (.tail _ g3)).1 rfl ?_
        show KatLex _ _ _ _ _ _ [(.str k t, .str k2 u), (.int d t', .int d2 u')] 0 _
        refine kat_cons (wpAny_eqBool_str ?_)
        have hf : decide (k = k2) = false := by simpa using hne
        rw [hf]
        refine kat_no ?_
        have hlt : ltD ds i j = decide (k.cps.toList < k2.cps.toList) := by unfold ltD; rw [e2, g2]
        rw [hlt] at hC
        exact oneLt_str hC
      · refine KasFin.intro F' N' (.head hB) fun h9 c F2 N2 => h h9 c F2 ?_
        have e : srt ds vs = (kasRun (kas_sort vs.length) (ltD ds)).toList.map fun i => vs.getD i Value.none := by
          unfold srt permOf
          rw [if_neg h2, hl]
        rw [e]; exact N2
end
end
section
open PySem PySem.W PyProof.Rows PySem.Calls PySem.Spec
set_option Elab.async false
set_option maxRecDepth 100000
theorem kdx_all {lo : Addr} {news : Led} {C : List Value → Led → Prop} : ∀ (kvs : List (Str × Value)) (vs : List Value) (tups : Led) (ds : List (Str × Int)), (∀ p ∈ kvs, ∃ d t, p.2 = .int d t) → TupsAre tups vs ds →
    (∀ vs' tups', TupsAre tups' vs' (ds ++ kvs.map fun p => (p.1, datOf p.2)) → C vs' tups') → KdxOpen lo news (kvs.map fun p => (kyVal (PyData.str p.1), p.2)) vs tups C
  | [], vs, tups, ds, _, hT, h => KdxOpen.nil (h vs tups (by simpa using hT))
  | (k, v) :: r, vs, tups, ds, hi, hT, h => by
    obtain ⟨d, t, e⟩ := hi _ (.head _)
    dsimp only at e
    subst e
    refine KdxOpen.cons fun a t' _ _ _ => ?_
    refine kdx_all r _ _ (ds ++ [(k, d)]) (fun p hp => hi p (.tail _ hp)) ?_ (fun vs' tups' hT' => h vs' tups' (by simpa [datOf] using hT'))
    exact (hT.mono fun p hp => .tail _ hp).append (.cons (.head _) .nil)
theorem strs_of {vs : List Value} {ss : List Str} (hl : vs.length = ss.length) (h : ∀ (j : Nat) (v : Value), vs[j]? = some v → ∃ k t, ss[j]? = some k ∧ v = .str k t) : StrsAre vs ss := by
  induction vs generalizing ss with
  | nil => cases ss with
    | nil => exact .nil
    | cons _ _ => simp at hl
  | cons v vs ih => cases ss with
    | nil => simp at hl
    | cons x ss =>
      obtain ⟨k, t, e1, rfl⟩ := h 0 v rfl
      obtain rfl : x = k := by simpa using e1
      exact .cons _ _ (ih (by simpa using hl) fun j u hu => h (j + 1) u hu)
section
variable {prog : Program} {w : World} {A : Around} {E : Value → Shared → Prop} {s : Shared} {h₀ : Heap} {L v d : Addr} {m : Str → Option Value} {news : Led} {od : Obj} {kvs : List (Str × Value)} {Q : Value → Shared → Prop}
theorem sorted_items (hh : A.handled = none) (F : Fr h₀ L s.heap m) (N : News h₀ L s.heap news) (hvw : (v, { cls := .type "dict_items", data := .fields #[.ref d] }) ∈ news) (hmd : (d, od) ∈ news) (hod : od.IsDictOf (PySem.strKind prog w) kvs)
    (hi : ∀ p ∈ kvs, ∃ d t, p.2 = .int d t) (hn : kvs.length ≤ 4)
    (h : ∀ B h' tk c vs tups, Fr h₀ L h' m → News h₀ L h' ((B, PySem.W.listOf (srt (kvs.map fun p => (p.1, datOf p.2)) vs).toArray c) :: (tups ++ news)) → TupsAre (tups ++ news) vs (kvs.map fun p => (p.1, datOf p.2)) → Q (.ref B) { s with heap := h', toks := tk }) :
    wpAny (model prog w) A (call (.builtin "sorted") [.ref v]) Q E s := by
  have hnd : (kvs.map (·.1)).Nodup := by obtain ⟨_, _, _, _, _, _, hn⟩ := hod; exact hn
  refine kdx_sortedN (knd := PySem.strKind prog w) (enc := PyData.str) hh F N hvw hmd hod (by omega) (fun _ _ h => PySem.Value.isStrOf_shape h) rfl fun lo hlo => ?_
  refine kdx_all kvs [] [] [] hi .nil fun vs tups hT => ?_
  rw [List.nil_append] at hT
  intro B h' tk hB F' N'
  have hT' : TupsAre (tups ++ news) vs (kvs.map fun p => (p.1, datOf p.2)) := hT.mono fun p hp => List.mem_append_left _ hp
  refine sort_tups F' N' (fun p hp => Nat.ne_of_lt (hB p hp)) hT' (by rw [List.map_map]; exact hnd) (by rw [List.length_map]; exact hn) fun h2 c F2 N2 => ?_
  exact h B h2 tk c vs tups F2 N2 hT'
theorem sorted_dict (hh : A.handled = none) (F : Fr h₀ L s.heap m) (N : News h₀ L s.heap news) (hmd : (d, od) ∈ news) (hod : od.IsDictOf (PySem.strKind prog w) kvs) (lo : (d == sysModules) = false) (hn : kvs.length < 64)
    (h : ∀ B h' tk c vs ss, Fr h₀ L h' m → News h₀ L h' ((B, PySem.W.listOf vs c) :: news) → (∀ q ∈ news, q.1 < B) → StrsAre vs.toList ss → ss.Perm (kvs.map (·.1)) → sortedS ss = true → Q (.ref B) { s with heap := h', toks := tk }) :
    wpAny (model prog w) A (call (.builtin "sorted") [.ref d]) Q E s := by
  obtain ⟨ep, hat⟩ := (dictAt_of N hmd hod).dictAt
  refine kdu_sorted (kdl_dict (knd := PySem.strKind prog w) (kvs := kvs) (ep := ep) lo) hh F N hat (by rw [sizeLine_eq]; omega) fun B h' tk vs F' N' l1 hl hv => ?_
  have hS : StrsAre vs (kvs.map (·.1)) := by
    refine strs_of (by rw [hl, List.length_map]) fun j u hu => ?_
    obtain ⟨k, x, hx, hk⟩ := hv j u hu
    obtain ⟨t, rfl⟩ := PySem.Value.isStrOf_shape hk
    exact ⟨k, t, by rw [List.getElem?_map, hx]; rfl, rfl⟩
  refine sort_strs F' N' (fun p hp => Nat.ne_of_lt (l1 p hp)) hS (by rw [hl]; exact hn) fun h2 vs' ss' c F2 N2 s1 s2 s3 => ?_
  exact h B h2 tk c vs'.toArray ss' F2 N2 l1 (by simpa using s1) s2 s3
theorem sorted_tups {l : Addr} {vs : List Value} {c : Nat} {ds : List (Str × Int)} (F : Fr h₀ L s.heap m) (N : News h₀ L s.heap news) (hm : (l, PySem.W.listOf vs.toArray c) ∈ news) (hT : TupsAre news vs ds) (hn : (ds.map (·.1)).Nodup) (h4 : ds.length ≤ 4)
    (h : ∀ B h' c, Fr h₀ L h' m → News h₀ L h' ((B, PySem.W.listOf (srt ds vs).toArray c) :: news) → (∀ q ∈ news, q.1 < B) → Q (.ref B) { s with heap := h' }) :
    wpAny (model prog w) A (call (.builtin "sorted") [.ref l]) Q E s := by
  have hl := hT.length
  refine sorted_any F N hm (by rw [sizeLine_eq]; omega) fun D h' F' N' l1 => ?_
  exact sort_tups F' N' (fun p hp => Nat.ne_of_lt (l1 p hp)) hT hn h4 fun h2 c F2 N2 => h D h2 c F2 N2 l1
end
end
section
open PySem PySem.W PyProof.Rows
set_option Elab.async false
set_option maxRecDepth 100000
set_option maxHeartbeats 4000000
def colonAt (x : Str) (i : Int) : Prop := i < x.length ∧ (Txt.item x i == Str.ofString ":") = true
inductive SkipTo (x : Str) : Int → Int → Prop
  | stop {a : Int} : ¬ colonAt x a → SkipTo x a a
  | step {a b : Int} : colonAt x a → SkipTo x (a + 1) b → SkipTo x a b
theorem SkipTo.end {x : Str} {a b : Int} (h : SkipTo x a b) (hn : ¬ colonAt x a) : a = b := by
  cases h with
  | stop _ => rfl
  | step hc _ => exact absurd hc hn
theorem SkipTo.next {x : Str} {a b : Int} (h : SkipTo x a b) (hn : colonAt x a) : SkipTo x (a + 1) b := by
  cases h with
  | stop hc => exact absurd hn hc
  | step _ h => exact h
/-- what name_parts does: what is cut so far, where the rest begins, the next "::"; the end; the turns -/
inductive NpRun (x : Str) : List Str → Int → Int → List Str → Nat → Prop
  | stop {ps : List Str} {st at' : Int} : at' < 0 → NpRun x ps st at' (ps ++ [Txt.slice x (some st) none]) 0
  | turn {ps R : List Str} {st at' st' : Int} {n : Nat} : 0 ≤ at' → SkipTo x (at' + 2) st' →
      NpRun x (if 0 < at' then ps ++ [Txt.slice x (some st) (some at')] else ps) st' (Txt.find3 x (Str.ofString "::") st') R n → NpRun x ps st at' R (n + 1)

theorem spec_np (w : World) (mean mg mb) (news : Led) (b : Str) (tb : Tok) (hb : b.length ≤ 1000) (R : List Str) (n₀ : Nat) (hR : NpRun b [] 0 (Txt.find b (Str.ofString "::")) R n₀) (hn0 : n₀ ≤ 50) :
    Spec w mean mg mb 64 2 16 news [.str b tb] (fun r news' => ∃ t l us k, r = .ref t ∧ news' = (t, { cls := .type "tuple", data := .seq #[.ref l, .bool (Txt.find b (Str.ofString "::") == 0)] }) :: (l, PySem.W.listOf us k) :: news ∧ StrsAre us.toList R ∧ l < t ∧ ∀ p ∈ news, p.1 < l) := by
  unfold Spec
  w_top off
  k_fill
  intro dp un gd cn cs a ccd cl outer A₀ base h₀ L m s Q E B F X N T hk hdp hu hret
  obtain ⟨hpZ, geZ, drZ, tkZ, osZ⟩ := s
  dsimp only at F N hret ⊢
  refine wpAny_call ?_
  k_dflt (refine' code_def (binds := [(Str.ofString "name", .str b tb)]) ?k1x8 ?k2x8 ?k3x8 ?k4x8 ?k5x8 ?kAx8 ?kFx8 ?kKx8 ?k6x8 ?k7x8 ?k8x8 ?k9x8 ?kBx8 ?_ ?c2x8 ?c3x8 ?c4x8 ?c5x8; (case kAx8 => exact rfl); (case kFx8 => exact rfl); (case kKx8 => assumption); (case k1x8 => k_asm); (case k2x8 => k_asm); (case k3x8 => k_asm); (case k4x8 => k_asm); (case k5x8 => k_asm); (case k6x8 => k_is); (case k7x8 => k_is); (case k8x8 => ktr_room); (case k9x8 => first | exact BindsTo.of_eq rfl | exact binds_K (by k_in) rfl (by k_is) rfl rfl rfl); (case c5x8 => decide); (case kBx8 => exact locs rfl); (case c2x8 => exact rfl); (case c3x8 => exact rfl); (case c4x8 => exact rfl); k_whole; intro g1 L1 h1 FG1 F1 N1 B1 X1 T1; (try dsimp only); (try k_fold))
  replace F1 : Fr g1 L1 h1 (ovr [(Str.ofString "name", some (.str b tb)), (Str.ofString "parts", none), (Str.ofString "start", none), (Str.ofString "at", none), (Str.ofString "is_absolute", none)]) := fr_ovr F1 [Str.ofString "parts", Str.ofString "start", Str.ofString "at", Str.ofString "is_absolute"]
  k_steps
  refine Stop.out ?_
  rename Fr _ _ _ _ => Fl
  rename News _ _ _ _ => Nl
  rename_i lst _ hltL _ _ _ _ _ _ _ _
  refine While_inv (fun n m nw => ∃ (t1 t2 : Tok) (st at' : Int) (us : Array Value) (k : Nat) (ps : List Str), m = (ovr [(Str.ofString "name", some (.str b tb)), (Str.ofString "parts", some (.ref lst)), (Str.ofString "start", some (.int st t1)), (Str.ofString "at", some (.int at' t2)), (Str.ofString "is_absolute", some (.bool (Txt.find b (Str.ofString "::") == 0)))]) ∧ nw = (lst, PySem.W.listOf us k) :: news ∧ StrsAre us.toList ps ∧ us.size + n ≤ 100 ∧ NpRun b ps st at' R n) (n₀ := n₀) Fl Nl ?_ ?_
  · exact ⟨_, _, _, _, _, _, _, (by funext y; simp only [← ovr_set_at]; rfl), rfl, .nil, by (simp; omega), hR⟩
  · intro n m₁ news₁ h1 tk1 F1 N1 JZ
    (try dsimp only)
    (try k_fold)
    obtain ⟨t1, t2, st, at', us, k, ps, rfl, rfl, hus, hsz, hrun⟩ := JZ
    by_cases hat : 0 ≤ at'
    · cases hrun with
      | stop h => exact absurd hat (by omega)
      | @turn _ _ _ _ st' n _ hskip hrun =>
        k_steps
        all_goals (
          refine Stop.out ?_
          rename Fr _ _ _ _ => Fl2
          rename News _ _ _ _ => Nl2
          refine while_led (fun n m => ∃ (t3 : Tok) (st2 : Int), m = (ovr [(Str.ofString "name", some (.str b tb)), (Str.ofString "parts", some (.ref lst)), (Str.ofString "start", some (.int st2 t3)), (Str.ofString "at", some (.int at' t2)), (Str.ofString "is_absolute", some (.bool (Txt.find b (Str.ofString "::") == 0)))]) ∧ 0 ≤ st2 ∧ n = (b.length - st2).toNat ∧ SkipTo b st2 st') (n₀ := (b.length - (at' + 2)).toNat) Fl2 Nl2 ?_ ?_
          · exact ⟨_, _, (by funext y; simp only [← ovr_set_at]; rfl), by omega, rfl, hskip⟩
          · intro n2 m₂ h2 tk2 F2 N2 JZ
            (try dsimp only)
            (try k_fold)
            obtain ⟨t3, st2, rfl, hst2, hn2, hsk⟩ := JZ
            k_steps
            · rename Fr _ _ _ _ => Fe
              rename News _ _ _ _ => Ne
              exact WhileStep.intro Fe Ne (n' := (b.length - (st2 + 1)).toNat) (by omega) ⟨rfl, _, _, (by funext y; simp only [← ovr_set_at]; rfl), by omega, rfl, hsk.next ⟨by assumption, by assumption⟩⟩
            all_goals (
              rename Fr _ _ _ _ => Fe
              rename News _ _ _ _ => Ne
              have hend := hsk.end (fun hc => by first | (exact absurd hc.1 (by assumption)) | (have := hc.2; simp_all))
              subst hend
              first
                | (rw [if_pos (by assumption)] at hrun
                   exact WhileStep.intro Fe Ne (n' := n) (Nat.lt_succ_self _) ⟨_, _, _, _, _, _, _, (by funext y; simp only [← ovr_set_at]; rfl), rfl, by (rw [Array.toList_push]; exact hus.append' (.cons _ _ .nil)), by (simp; omega), hrun⟩)
                | (rw [if_neg (by assumption)] at hrun
                   exact WhileStep.intro Fe Ne (n' := n) (Nat.lt_succ_self _) ⟨_, _, _, _, _, _, _, (by funext y; simp only [← ovr_set_at]; rfl), rfl, hus, by omega, hrun⟩)))
    · cases hrun with
      | turn h => exact absurd h hat
      | stop h =>
        k_steps
        rename (_ ∧ AllLt _ _) => hlt
        exact hret _ _ _ _ (by assumption) (by assumption) ⟨_, lst, _, _, rfl, rfl, by (rw [Array.toList_push]; exact hus.append' (.cons _ _ .nil)), hlt.1, hltL⟩
end
section
open PySem PySem.W PyProof.Rows
set_option Elab.async false
set_option maxRecDepth 100000
set_option maxHeartbeats 4000000
theorem spec_home_of (w : World) (mean mg mb) (news : Led) (ns : List Nd) (Rp : Rep w news ns) (rt hr : Nd) (hrt : rt ∈ ns) (hrt0 : rt.pth = []) (hhr : hr ∈ ns) (b : Str) (tb : Tok) (hb : b.length ≤ 1000) (R : List Str) (n₀ : Nat) (hR : NpRun b [] 0 (Txt.find b (Str.ofString "::")) R n₀) (hn0 : n₀ ≤ 50)
    (hR1 : R ≠ []) (hR2 : ∀ p ∈ R.dropLast, p ≠ Str.ofString "") (hR3 : R.length ≤ 50) :
    Spec w mean mg mb 92 3 24 news [.ref rt.x, .ref hr.x, .str b tb] (fun r news' => ∃ t v k ts, r = .ref t ∧ news' = (t, { cls := .type "tuple", data := .seq #[v, .str (R.getLastD (Str.ofString "")) ts] k }) :: news ∧ (∀ p ∈ news, p.1 < t) ∧ FoundAt ns (goS (has ns) (if (Txt.find b (Str.ofString "::") == 0) then [] else hr.pth) R.dropLast) v) := by
  unfold Spec
  w_top off
  k_fill
  intro dp un gd cn cs a ccd cl outer A₀ base h₀ L m s Q E B F X N T hk hdp hu hret
  obtain ⟨hpZ, geZ, drZ, tkZ, osZ⟩ := s
  dsimp only at F N hret ⊢
  refine wpAny_call ?_
  k_dflt (refine' code_def (binds := [(Str.ofString "root", .ref rt.x), (Str.ofString "here", .ref hr.x), (Str.ofString "name", .str b tb)]) ?k1x8 ?k2x8 ?k3x8 ?k4x8 ?k5x8 ?kAx8 ?kFx8 ?kKx8 ?k6x8 ?k7x8 ?k8x8 ?k9x8 ?kBx8 ?_ ?c2x8 ?c3x8 ?c4x8 ?c5x8; (case kAx8 => exact rfl); (case kFx8 => exact rfl); (case kKx8 => assumption); (case k1x8 => k_asm); (case k2x8 => k_asm); (case k3x8 => k_asm); (case k4x8 => k_asm); (case k5x8 => k_asm); (case k6x8 => k_is); (case k7x8 => k_is); (case k8x8 => ktr_room); (case k9x8 => first | exact BindsTo.of_eq rfl | exact binds_K (by k_in) rfl (by k_is) rfl rfl rfl); (case c5x8 => decide); (case kBx8 => exact locs rfl); (case c2x8 => exact rfl); (case c3x8 => exact rfl); (case c4x8 => exact rfl); k_whole; intro g1 L1 h1 FG1 F1 N1 B1 X1 T1; (try dsimp only); (try k_fold))
  replace F1 : Fr g1 L1 h1 (ovr [(Str.ofString "name", some (.str b tb)), (Str.ofString "here", some (.ref hr.x)), (Str.ofString "root", some (.ref rt.x)), (Str.ofString "parts", none), (Str.ofString "is_absolute", none), (Str.ofString "space", none), (Str.ofString "part", none)]) := fr_ovr F1 [Str.ofString "parts", Str.ofString "is_absolute", Str.ofString "space", Str.ofString "part"]
  k_steps
  (refine Stop.out ?_; k_dflt (refine (spec_np w mean mg mb _ b tb hb R n₀ hR hn0) _ _ _ _ _ _ _ _ _ _ _ _ _ _ _ _ _ (by k_asm) (by k_asm) (by k_asm) (by k_asm) (by k_asm) (by first | exact rfl | assumption) (by ktr_room) (by ktr_units) ?_); intro r2 led2 h2 tk2 F2 N2 P2)
  obtain ⟨t, l, us, k, rfl, rfl, hus, hlt1, hltl⟩ := P2
  obtain ⟨ab, hab⟩ : ∃ ab, ab = (Txt.find b (Str.ofString "::") == 0) := ⟨_, rfl⟩
  rw [← hab] at N2 hret
  obtain ⟨q0, hq0⟩ : ∃ q0, q0 = (if ab = true then [] else hr.pth) := ⟨_, rfl⟩
  rw [← hq0] at hret
  k_steps
  all_goals (
    have hsn : ∃ sn ∈ ns, sn.pth = q0 ∧ (ab = true → rt = sn) ∧ (ab = false → hr = sn) := by
      cases ab
      · exact ⟨hr, hhr, by simp [hq0], by simp, by simp⟩
      · exact ⟨rt, hrt, by simp [hq0, hrt0], by simp, by simp⟩
    obtain ⟨sn, hsn, hsnq, hsa, hsb⟩ := hsn
    first | (have hse := hsa (by assumption); subst hse) | (have hse := hsb (by assumption); subst hse)
    have hul := hus.length
    have hzz : us.size ≤ sizeLine := by rw [sizeLine_eq]; simp only [Array.length_toList] at hul; omega
    (refine Stop.out ?_; (rename Fr _ _ _ _ => Ffor); k_dflt (with_unfolding_all refine For_invVF Ffor (by exact rfl) (by exact rfl) ?_))
    k_steps
    refine Stop.out ?_
    rename Fr _ _ _ _ => Fld
    rename News _ _ _ _ => Nl
    rename_i sl _ hl3
    have hml : (sl, PySem.W.listOf (us.toList.take (us.size - 1)).toArray 0) ∈ (sl, PySem.W.listOf (us.toList.take (us.size - 1)).toArray 0) :: (t, ({ cls := .type "tuple", data := .seq #[.ref l, .bool ab] } : Obj)) :: (l, PySem.W.listOf us k) :: news := .head _
    have husd : StrsAre (us.toList.take (us.size - 1)).toArray.toList R.dropLast := by
      have := hus.take' (us.size - 1)
      rw [List.dropLast_eq_take]
      simp only [Array.length_toList] at hul
      rw [hul] at this ⊢
      exact this
    refine for_list (l := sl) (vs := (us.toList.take (us.size - 1)).toArray) (fun i m nw => ∃ (nd : Nd) (pv : Option Value), nd ∈ ns ∧ m = (ovr [(Str.ofString "name", some (.str b tb)), (Str.ofString "here", some (.ref hr.x)), (Str.ofString "root", some (.ref rt.x)), (Str.ofString "parts", some (.ref l)), (Str.ofString "is_absolute", some (.bool ab)), (Str.ofString "space", some (.ref nd.x)), (Str.ofString "part", pv)]) ∧ nw = (sl, PySem.W.listOf (us.toList.take (us.size - 1)).toArray 0) :: (t, ({ cls := .type "tuple", data := .seq #[.ref l, .bool ab] } : Obj)) :: (l, PySem.W.listOf us k) :: news ∧ goS (has ns) q0 R.dropLast = goS (has ns) nd.pth (R.dropLast.drop i)) rfl (isList_of Nl hml) (news_ne Nl hml) Fld Nl ?_ ?_ ?_ ?_
    · exact .inr ⟨_, fun i m nw h => by obtain ⟨nd, pv, _, _, rfl, _⟩ := h; exact hml⟩
    · exact ⟨_, none, hsn, (by funext y; simp only [← ovr_set_at]; rfl), rfl, by rw [← hsnq]; rfl⟩
    · intro i v m₁ news₁ h tk I ito hv JZ hne F₁ N₁
      (try dsimp only)
      (try k_fold)
      obtain ⟨nd, pv, hnd, rfl, rfl, hgo⟩ := JZ
      obtain ⟨p, tp, rfl, hss⟩ := husd.item i v (by simpa using hv)
      have hpe := hR2 p (List.mem_of_getElem? hss)
      have hdr : R.dropLast.drop i = p :: R.dropLast.drop (i + 1) := by
        obtain ⟨hi, e⟩ := List.getElem?_eq_some_iff.mp hss
        rw [List.drop_eq_getElem_cons hi, e]
      rw [hdr, goS, if_neg hpe] at hgo
      obtain ⟨hx, hdd, ⟨⟨och, hoch, hich⟩, hchs⟩, _, _, _, _⟩ := Rp.node nd hnd
      have hkid := Rp.tree.kidSome hnd p
      k_steps
      · rename_i dv hdv
        obtain ⟨c, hc, hcp, rfl⟩ := (Rp.tree.kid nd hnd p dv).mp hdv
        refine Stop.out ?_
        k_steps
        rename Fr _ _ _ _ => Fe
        rename News _ _ _ _ => Ne
        refine LEnd.intro Fe Ne _ (.head _) (fun q hq => .tail _ hq) hne ⟨c, _, hc, (by funext y; simp only [← ovr_set_at]; rfl), rfl, ?_⟩
        rw [hgo, hcp, if_pos (by rw [← hkid]; assumption)]
      · dsimp only [qk, LPost]
        k_steps
        rename (_ ∧ _ ∧ _ ∧ _ ∧ AllLt _ _) => hlt5
        rename News _ _ _ _ => Ne
        refine hret _ _ _ _ (by assumption) (news_sub Ne (fun q hq => by rcases List.mem_cons.mp hq with rfl | hq; exact .head _; exact .tail _ (.tail _ (.tail _ (.tail _ (.tail _ hq)))))) ⟨_, _, _, _, rfl, rfl, fun q hq => ktn_ltOf hlt5.2.2.2.2 q hq, ?_⟩
        rw [hgo, if_neg (by rw [← hkid]; intro hc; rw [‹(valueAt nd.kids p).isSome = false›] at hc; cases hc)]
        rfl
    · intro m₁ news₁ h tk JZ F₁ N₁
      (try dsimp only)
      (try k_fold)
      obtain ⟨nd, pv, hnd, rfl, rfl, hgo⟩ := JZ
      have hudl := husd.length
      rw [List.drop_of_length_le (by rw [← hudl]; simp)] at hgo
      k_steps
      rename (_ ∧ _ ∧ _ ∧ AllLt _ _) => hlt5
      rename News _ _ _ _ => Ne
      refine hret _ _ _ _ (by assumption) (news_sub Ne (fun q hq => by rcases List.mem_cons.mp hq with rfl | hq; exact .head _; exact .tail _ (.tail _ (.tail _ (.tail _ hq))))) ⟨_, _, _, _, rfl, rfl, fun q hq => ktn_ltOf hlt5.2.2.2 q hq, ?_⟩
      rw [hgo]
      exact ⟨nd, hnd, rfl, rfl⟩)
end
section
open PySem PySem.W PyProof.Rows PySem.Calls
set_option Elab.async false
set_option maxRecDepth 100000

section
variable {prog : Program} {w : World} {A : Around} {s : Shared} {h₀ : Heap} {L : Addr} {m : Str → Option Value} {env : Env}
open LCg LCt
theorem comp_ind {elt : PySem.Expr} {x : Str} {scope : Scope} {cl : List (Str × Addr)} {S : Led → Prop} {P : Nat → Value → Prop} {Fin : List Value → Led → Prop} {n : Nat} {news : Led} (Inv : Nat → List Value → Led → Prop) (h0 : Inv 0 [] news)
    (step : ∀ i ys nw, i < n → Inv i ys nw → ∀ v I oI C oC D m₂ h tk (E' : Value → Shared → Prop), P i v → NsObj oC m₂ → m₂ x = some v → Fr h₀ L h m → News h₀ L h ((I, oI) :: (C, oC) :: (D, lst ys) :: nw) → Off3 I C D nw → ((@Ne Nat I C) ∧ (@Ne Nat I D) ∧ (@Ne Nat C D)) →
      wpAny (model prog w) A (eval elt (compEnvC scope cl C env)) (CompEnd h₀ L m { s with heap := h, toks := tk } I oI C oC D (lst ys) S (fun y news' => Inv (i + 1) (ys ++ [y]) news')) E' { s with heap := h, toks := tk })
    (fin : ∀ ys nw, Inv n ys nw → Fin ys nw) : CompRest prog w A h₀ L m env elt x scope cl s S P Fin n 0 [] news := by
  suffices H : ∀ k i ys nw, i + k = n → Inv i ys nw → CompRest prog w A h₀ L m env elt x scope cl s S P Fin k i ys nw from H n 0 [] news (Nat.zero_add n) h0
  intro k
  induction k with
  | zero => intro i ys nw hi hI; exact fin ys nw (by rw [← hi]; exact hI)
  | succ k ih =>
    intro i ys nw hi hI
    refine CompRest.succ fun v I oI C oC D m₂ h tk E' hP hC hx F N off ne => ?_
    refine wpAny_mono (step i ys nw (by omega) hI v I oI C oC D m₂ h tk E' hP hC hx F N off ne) (fun y s' hy => ?_) fun _ _ e => e
    obtain ⟨h', tk', news', e, F', N', off', hS, hI'⟩ := hy
    exact ⟨h', tk', news', e, F', N', off', hS, ih (i + 1) _ _ (by omega) hI'⟩
theorem compT_ind {ct elt : PySem.Expr} {x : Str} {scope : Scope} {cl : List (Str × Addr)} {S : Led → Prop} {P : Nat → Value → Prop} {Fin : List Value → Led → Prop} {n : Nat} {news : Led} (Inv : Nat → List Value → Led → Prop) (h0 : Inv 0 [] news)
    (step : ∀ i ys nw, i < n → Inv i ys nw → ∀ v I oI C oC D m₂ h tk (E' : Value → Shared → Prop), P i v → NsObj oC m₂ → m₂ x = some v → Fr h₀ L h m → News h₀ L h ((I, oI) :: (C, oC) :: (D, lst ys) :: nw) → Off3 I C D nw → ((@Ne Nat I C) ∧ (@Ne Nat I D) ∧ (@Ne Nat C D)) →
      wpAny (model prog w) A (isTrue ct (compEnvC scope cl C env) (eval ct (compEnvC scope cl C env))) (fun ok s' => if ok = true then
        wpAny (model prog w) A (eval elt (compEnvC scope cl C env)) (CompEnd h₀ L m { s with heap := h, toks := tk } I oI C oC D (lst ys) S (fun y news' => Inv (i + 1) (ys ++ [y]) news')) E' s'
        else CompEnd h₀ L m { s with heap := h, toks := tk } I oI C oC D (lst ys) S (fun _ news' => Inv (i + 1) ys news') Value.none s') E' { s with heap := h, toks := tk })
    (fin : ∀ ys nw, Inv n ys nw → Fin ys nw) : CompRestT prog w A h₀ L m env ct elt x scope cl s S P Fin n 0 [] news := by
  suffices H : ∀ k i ys nw, i + k = n → Inv i ys nw → CompRestT prog w A h₀ L m env ct elt x scope cl s S P Fin k i ys nw from H n 0 [] news (Nat.zero_add n) h0
  intro k
  induction k with
  | zero => intro i ys nw hi hI; exact fin ys nw (by rw [← hi]; exact hI)
  | succ k ih =>
    intro i ys nw hi hI
    refine CompRestT.succ fun v I oI C oC D m₂ h tk E' hP hC hx F N off ne => ?_
    refine wpAny_mono (step i ys nw (by omega) hI v I oI C oC D m₂ h tk E' hP hC hx F N off ne) (fun ok s' hok => ?_) fun _ _ e => e
    cases ok with
    | true =>
      rw [if_pos rfl] at hok ⊢
      refine wpAny_mono hok (fun y s' hy => ?_) fun _ _ e => e
      obtain ⟨h', tk', news', e, F', N', off', hS, hI'⟩ := hy
      exact ⟨h', tk', news', e, F', N', off', hS, ih (i + 1) _ _ (by omega) hI'⟩
    | false =>
      rw [if_neg Bool.false_ne_true] at hok ⊢
      obtain ⟨h', tk', news', e, F', N', off', hS, hI'⟩ := hok
      exact ⟨h', tk', news', e, F', N', off', hS, ih (i + 1) _ _ (by omega) hI'⟩
end

section
variable {prog : Program} {w : World} {A : Around} {E : Value → Shared → Prop} {s : Shared} {h₀ : Heap} {L : Addr} {m : Str → Option Value} {env : Env}
open LCg
/-- what a comprehension over a dict's keys asks of its source -/
def CompSrcD (prog : Program) (w : World) (A : Around) (h₀ : Heap) (L : Addr) (m : Str → Option Value) (env : Env) (elt : PySem.Expr) (x : Str) (scope : Scope) (cl : List (Str × Addr)) (Fin : Shared → List Value → Led → Prop) (xv : Value) (s₁ : Shared) : Prop :=
  ∃ d o kvs news, xv = .ref d ∧ A.handled = none ∧ Fr h₀ L s₁.heap m ∧ News h₀ L s₁.heap news ∧ (d, o) ∈ news ∧ o.IsDictOf (PySem.strKind prog w) kvs ∧ (d == sysModules) = false ∧ kvs.length ≤ sizeLine ∧
    ∀ s₂ : Shared, (∃ h, s₂ = { s₁ with heap := h }) → CompRest prog w A h₀ L m env elt x scope cl s₂ (fun nw => (d, o) ∈ nw) (fun i v => ∃ k y t, kvs[i]? = some (k, y) ∧ v = .str k t) (Fin s₂) kvs.length 0 [] news
theorem ListComp_Dict {elt iter : PySem.Expr} {x : Str} {px : Pos} {scope : Scope} {cl : List (Str × Addr)} {pos : Pos} {Q : Value → Shared → Prop} (_F₀ : Fr h₀ L s.heap m)
    (hclos : closureFor scope env = pure cl) (hcell : ∀ y ∈ scope.names, y.2 ≠ .cell) (hkind : scope.kind = .function)
    (hnames : ∀ y ∈ scope.names, y.2 = .local → scope.names.lookup y.1 = some .local) (hx : scope.names.lookup x = some .local)
    (h : wpAny (model prog w) A (eval iter env) (CompSrcD prog w A h₀ L m env elt x scope cl (fun s₂ => FinE h₀ L m s₂ Q)) E s)
    (hs : ∀ x, foldedSetIterable iter env x = pure x := by intro _; rfl) :
    wpAny (model prog w) A (eval (.ListComp elt [⟨.Name x px, iter, [], 0⟩] scope pos) env) Q E s := by
  rw [eval_ListComp]
  refine wpAny_comprehension_free (use := none) rfl hs hclos hkind hnames (wpAny_mono h (fun xv s₁ h₁ => ?_) fun _ _ e => e)
  obtain ⟨d, o, kvs, news, rfl, hh, F, N, hm, hd, hds, hsz, R⟩ := h₁
  obtain ⟨ep, hat⟩ := (dictAt_of N hm hd).dictAt
  have hlt : d < s₁.heap.objs.size := hat.lt_size
  have hne : d ≠ s₁.heap.objs.size := Nat.ne_of_lt hlt
  refine wpAny_pyIter_dict hds hat ?_
  have up : ∀ b o, s₁.heap.get? b = some o → (s₁.heap.push { cls := .type "dict_keyiterator", data := .fields #[.ref d, .int 0 0, .int kvs.length 0, .int ep 0] }).get? b = some o := fun b o e => Heap.get?_push_of_some _ e
  have W := Walks.dictKeys (prog := prog) (w := w) (knd := PySem.strKind prog w) hh s₁.heap.objs.size d hne kvs ep
  have hdg := (N _ hm).1
  have W' : Walks prog w A s₁.heap.objs.size [s₁.heap.objs.size, d] [s₁.heap.objs.size] kvs.length (fun i v => ∃ k y t, kvs[i]? = some (k, y) ∧ v = .str k t) (fun i h => (h.IsKeyIter s₁.heap.objs.size d i kvs.length ep ∧ h.DictAt (PySem.strKind prog w) d kvs ep) ∧ h.get? d = some o) :=
    { sub := W.sub
      frame := fun i h h' st hk => ⟨W.frame i h h' st.1 hk, hk d (by simp) o st.2⟩
      item := fun i s Q E hi st hQ => W.item i s Q E hi st.1 (fun v h' tk hP st' hk => hQ v h' tk (by
        obtain ⟨k, y, hx, hkey⟩ := hP
        obtain ⟨t, rfl⟩ := PySem.Value.isStrOf_shape hkey
        exact ⟨k, y, t, hx, rfl⟩) ⟨st', hk d o (fun hm => hne (List.mem_singleton.mp hm)) st.2⟩ hk)
      done := fun s Q E st hQ => W.done s Q E st.1 hQ
      self := fun i s Q E st hQ => W.self i s Q E st.1 hQ }
  refine block_U W' hsz (fun i h st => by obtain ⟨o, e, _⟩ := st.1.1; exact ⟨o, e⟩) (S := fun nw => (d, o) ∈ nw) ?_ hcell hkind hx ⟨⟨⟨_, Heap.get?_push_size _ rfl, rfl, rfl⟩, hat.push _⟩, up _ _ hdg⟩ (fun b hb => ?_)
    (F.keeps up) (N.grown up) (Nat.ne_of_lt F.ns.lt) (next_is_new F) (fun p hp => Nat.ne_of_lt (Heap.lt_size (N p hp).1)) hm (R _ ⟨_, rfl⟩) ?_
  · intro i h h' oI nw st e e' hk hN hS
    have h1 : h'.get? d = some o := (hN _ hS).1
    exact ⟨⟨st.1.1.at fun o ho => by rw [e] at ho; cases ho; exact e', st.1.2.at' fun o1 ho1 => by rw [st.2] at ho1; cases ho1; exact h1⟩, h1⟩
  · show b < (s₁.heap.push _).objs.size
    rw [Heap.size_push]
    rcases List.mem_cons.mp hb with rfl | hb
    · exact Nat.lt_succ_self _
    · rw [List.mem_singleton.mp hb]; exact Nat.lt_succ_of_lt hlt
  · intro D C h tk m' ys news' F' N' o1 hn hC₀ hD₀ hCL hDL hCD offC fin
    refine ⟨m', hn, fun h'' hs'' => fin D h'' tk (F'.change hs'' hCL hC₀) (fun p hp => ?_) o1⟩
    refine ⟨(hs''.2 p.1 ?_).trans (N' p hp).1, (N' p hp).2⟩
    rcases List.mem_cons.mp hp with rfl | hp
    · exact hCD.symm
    · exact offC p hp
end
end
section
open PySem PySem.W PyProof.Rows
set_option Elab.async false
set_option maxRecDepth 100000
set_option maxHeartbeats 4000000
def PathsOk (ns : List Nd) : Prop := ∀ nd ∈ ns, nd.path.size ≤ 100 ∧ ∀ v ∈ nd.path.toList, ∃ c ∈ ns, v = .ref c.x
theorem spec_places_of (w : World) (mean mg mb) (news : Led) (ns : List Nd) (Rp : Rep w news ns) (Po : PathsOk ns) (rt hr : Nd) (hrt : rt ∈ ns) (hhr : hr ∈ ns) (b : Str) (tb : Tok) (hb : b.length ≤ 1000) :
    Spec w mean mg mb 104 3 24 news [.ref rt.x, .ref hr.x, .str b tb] (fun r news' => ∃ l A k, r = .ref l ∧ news' = (l, PySem.W.listOf A k) :: news ∧ (∀ p ∈ news, p.1 < l) ∧ A.toList = if Txt.startswith b (Str.ofString "::") then [.ref rt.x] else .ref hr.x :: hr.path.toList ++ [.ref rt.x]) := by
  unfold Spec
  w_top off
  k_fill
  intro dp un gd cn cs a ccd cl outer A₀ base h₀ L m s Q E B F X N T hk hdp hu hret
  obtain ⟨hpZ, geZ, drZ, tkZ, osZ⟩ := s
  dsimp only at F N hret ⊢
  refine wpAny_call ?_
  k_dflt (refine' code_def (binds := [(Str.ofString "root", .ref rt.x), (Str.ofString "here", .ref hr.x), (Str.ofString "name", .str b tb)]) ?k1x8 ?k2x8 ?k3x8 ?k4x8 ?k5x8 ?kAx8 ?kFx8 ?kKx8 ?k6x8 ?k7x8 ?k8x8 ?k9x8 ?kBx8 ?_ ?c2x8 ?c3x8 ?c4x8 ?c5x8; (case kAx8 => exact rfl); (case kFx8 => exact rfl); (case kKx8 => assumption); (case k1x8 => k_asm); (case k2x8 => k_asm); (case k3x8 => k_asm); (case k4x8 => k_asm); (case k5x8 => k_asm); (case k6x8 => k_is); (case k7x8 => k_is); (case k8x8 => ktr_room); (case k9x8 => first | exact BindsTo.of_eq rfl | exact binds_K (by k_in) rfl (by k_is) rfl rfl rfl); (case c5x8 => decide); (case kBx8 => exact locs rfl); (case c2x8 => exact rfl); (case c3x8 => exact rfl); (case c4x8 => exact rfl); k_whole; intro g1 L1 h1 FG1 F1 N1 B1 X1 T1; (try dsimp only); (try k_fold))
  replace F1 : Fr g1 L1 h1 (ovr [(Str.ofString "name", some (.str b tb)), (Str.ofString "here", some (.ref hr.x)), (Str.ofString "root", some (.ref rt.x))]) := fr_ovr F1 []
  obtain ⟨hx, hdd, _, _, _, _, hpa⟩ := Rp.node hr hhr
  obtain ⟨hps, hpv⟩ := Po hr hhr
  k_steps
  · refine hret _ _ _ _ (by assumption) (by assumption) ⟨_, _, _, rfl, rfl, by assumption, ?_⟩
    rw [if_pos (by assumption)]
  · refine Stop.out ?_
    k_dflt (refine LCt.ListComp_T (F₀ := by k_asm) (by with_unfolding_all rfl) (by decide) (by rfl) (by decide) (by rfl) ?_)
    k_steps
    refine Stop.out ?_
    rename Fr _ _ _ _ => Fc
    rename News _ _ _ _ => Nc
    rename_i l1 _ hl1
    have hsz : hr.path.size ≤ sizeLine := by rw [sizeLine_eq]; omega
    k_dflt (refine LCt.CompSrcT.ledger rfl Fc Nc (.tail _ hpa) hsz ?_)
    intro g'
    refine compT_ind (fun i ys nw => nw = (l1, PySem.W.listOf #[Value.ref hr.x] 0) :: news ∧ ys = hr.path.toList.take i) ⟨rfl, rfl⟩ ?_ ?_
    · rintro i ys nw hi ⟨rfl, rfl⟩ v I oI C oC D m₂ h tk E' hP hC hx' F' N' off ne
      (try dsimp only)
      (try k_fold)
      obtain ⟨c, hc, rfl⟩ := hpv v (by rw [Array.mem_toList_iff]; exact Array.mem_of_getElem? hP)
      obtain ⟨hx2, hdd2, _, _, _, _, _⟩ := Rp.node c hc
      k_steps
      rename Fr _ _ _ _ => Fe
      rename News _ _ _ _ => Ne
      refine LCg.CompEnd.intro Fe Ne _ (fun q hq => by rcases List.mem_cons.mp hq with rfl | hq; exact .head _; rcases List.mem_cons.mp hq with rfl | hq; exact .tail _ (.head _); rcases List.mem_cons.mp hq with rfl | hq; exact .tail _ (.tail _ (.head _)); exact .tail _ (.tail _ (.tail _ hq))) off (.inr ⟨_, .tail _ hpa, rfl, _, rfl⟩) ⟨rfl, ?_⟩
      rw [List.take_add_one]
      simp [hP]
    · rintro ys nw ⟨rfl, rfl⟩
      k_steps
      rename (_ ∧ _ ∧ _ ∧ _ ∧ AllLt _ _) => hlt5
      rename News _ _ _ _ => Ne
      refine hret _ _ _ _ (by assumption) (news_sub Ne (fun q hq => by rcases List.mem_cons.mp hq with rfl | hq; exact .head _; exact .tail _ (.tail _ (.tail _ (.tail _ (.tail _ hq)))))) ⟨_, _, _, rfl, rfl, fun q hq => ktn_ltOf hlt5.2.2.2.2 q hq, ?_⟩
      rw [if_neg (by rw [‹Txt.startswith b (Str.ofString "::") = false›]; decide), List.take_of_length_le (by simp)]
      simp
end
section
open PySem PySem.W PyProof.Rows
set_option Elab.async false
set_option maxRecDepth 100000
set_option maxHeartbeats 4000000
/-- refs to namespaces, and their paths -/
inductive RefsAre (ns : List Nd) : List Value → List (List Str) → Prop
  | nil : RefsAre ns [] []
  | cons {c : Nd} {vs : List Value} {qs : List (List Str)} : c ∈ ns → RefsAre ns vs qs → RefsAre ns (.ref c.x :: vs) (c.pth :: qs)
theorem RefsAre.length {ns : List Nd} {vs : List Value} {qs : List (List Str)} (h : RefsAre ns vs qs) : vs.length = qs.length := by
  induction h with
  | nil => rfl
  | cons _ _ ih => simp [ih]
theorem RefsAre.item {ns : List Nd} {vs : List Value} {qs : List (List Str)} (h : RefsAre ns vs qs) : ∀ (i : Nat) (v : Value), vs[i]? = some v → ∃ c ∈ ns, v = .ref c.x ∧ qs[i]? = some c.pth := by
  induction h with
  | nil => intro i v hv; simp at hv
  | @cons c vs qs hc _ ih =>
    intro i v hv
    cases i with
    | zero => simp at hv; exact ⟨c, hc, hv.symm, by simp⟩
    | succ i => simp at hv; obtain ⟨c', h1, h2, h3⟩ := ih i v hv; exact ⟨c', h1, h2, by simpa using h3⟩
theorem RefsAre.append {ns : List Nd} {vs ws : List Value} {qs rs : List (List Str)} (h : RefsAre ns vs qs) (h' : RefsAre ns ws rs) : RefsAre ns (vs ++ ws) (qs ++ rs) := by
  induction h with
  | nil => exact h'
  | cons hc _ ih => exact .cons hc ih
theorem RefsAre.all {ns : List Nd} {vs : List Value} {qs : List (List Str)} (h : RefsAre ns vs qs) : ∀ v ∈ vs, ∃ c ∈ ns, v = .ref c.x := by
  intro v hv
  obtain ⟨i, hi⟩ := List.mem_iff_getElem?.mp hv
  obtain ⟨c, h1, h2, _⟩ := h.item i v hi
  exact ⟨c, h1, h2⟩

def cmdOf (ns : List Nd) (q : List Str) (last : Str) : Option Value := match ns.find? fun nd => decide (nd.pth = q) with
  | some nd => valueAt nd.cmds last
  | none => none
theorem Tree.cmdOf {ns : List Nd} (T : Tree ns) {nd : Nd} (hn : nd ∈ ns) (last : Str) : cmdOf ns nd.pth last = valueAt nd.cmds last := by
  unfold Np.cmdOf
  cases hf : ns.find? fun c => decide (c.pth = nd.pth) with
  | none => exact absurd (List.find?_eq_none.mp hf nd hn) (by simp)
  | some c =>
    have h1 := List.find?_some hf
    have h2 := List.mem_of_find?_eq_some hf
    rw [T.inj h2 hn (by simpa using h1)]
/-- the command that is first along the places -/
def findC (ns : List Nd) (ab : Bool) (R : List Str) : List (List Str) → Option Value
  | [] => none
  | q :: r => match goS (has ns) (if ab = true then [] else q) R.dropLast with
    | some q' => (match cmdOf ns q' (R.getLastD (Str.ofString "")) with
      | some v => some v
      | none => findC ns ab R r)
    | none => findC ns ab R r

theorem spec_find_command (w : World) (mean mg mb) (news : Led) (ns : List Nd) (Rp : Rep w news ns) (Po : PathsOk ns) (rt hr : Nd) (hrt : rt ∈ ns) (hrt0 : rt.pth = []) (hhr : hr ∈ ns) (pps : List (List Str)) (hpp : RefsAre ns hr.path.toList pps)
    (b : Str) (tb : Tok) (hb : b.length ≤ 1000) (R : List Str) (n₀ : Nat) (hR : NpRun b [] 0 (Txt.find b (Str.ofString "::")) R n₀) (hn0 : n₀ ≤ 50)
    (hR1 : R ≠ []) (hR2 : ∀ p ∈ R.dropLast, p ≠ Str.ofString "") (hR3 : R.length ≤ 50) (hsw : Txt.startswith b (Str.ofString "::") = (Txt.find b (Str.ofString "::") == 0))
    (hnc : Txt.contains b (Str.ofString "::") = false → R = [b] ∧ (Txt.find b (Str.ofString "::") == 0) = false) :
    Spec w mean mg mb 111 4 32 news [.ref rt.x, .ref hr.x, .str b tb] (fun r news' => news' = news ∧ r = (findC ns (Txt.find b (Str.ofString "::") == 0) R (if (Txt.find b (Str.ofString "::") == 0) = true then [[]] else hr.pth :: pps ++ [[]])).getD .none) := by
  unfold Spec
  w_top off
  k_fill
  intro dp un gd cn cs a ccd cl outer A₀ base h₀ L m s Q E B F X N T hk hdp hu hret
  obtain ⟨hpZ, geZ, drZ, tkZ, osZ⟩ := s
  dsimp only at F N hret ⊢
  refine wpAny_call ?_
  k_dflt (refine' code_def (binds := [(Str.ofString "root", .ref rt.x), (Str.ofString "here", .ref hr.x), (Str.ofString "name", .str b tb)]) ?k1x8 ?k2x8 ?k3x8 ?k4x8 ?k5x8 ?kAx8 ?kFx8 ?kKx8 ?k6x8 ?k7x8 ?k8x8 ?k9x8 ?kBx8 ?_ ?c2x8 ?c3x8 ?c4x8 ?c5x8; (case kAx8 => exact rfl); (case kFx8 => exact rfl); (case kKx8 => assumption); (case k1x8 => k_asm); (case k2x8 => k_asm); (case k3x8 => k_asm); (case k4x8 => k_asm); (case k5x8 => k_asm); (case k6x8 => k_is); (case k7x8 => k_is); (case k8x8 => ktr_room); (case k9x8 => first | exact BindsTo.of_eq rfl | exact binds_K (by k_in) rfl (by k_is) rfl rfl rfl); (case c5x8 => decide); (case kBx8 => exact locs rfl); (case c2x8 => exact rfl); (case c3x8 => exact rfl); (case c4x8 => exact rfl); k_whole; intro g1 L1 h1 FG1 F1 N1 B1 X1 T1; (try dsimp only); (try k_fold))
  replace F1 : Fr g1 L1 h1 (ovr [(Str.ofString "name", some (.str b tb)), (Str.ofString "here", some (.ref hr.x)), (Str.ofString "root", some (.ref rt.x)), (Str.ofString "place", none), (Str.ofString "space", none), (Str.ofString "last", none)]) := fr_ovr F1 [Str.ofString "place", Str.ofString "space", Str.ofString "last"]
  obtain ⟨hx, hdd, _, ⟨⟨och, hoch, hich⟩, hchs⟩, _, _, hpa⟩ := Rp.node hr hhr
  k_steps
  · rename_i dv hdv
    refine Stop.out ?_
    have hnc' := hnc (by unfold Txt.contains; rw [‹(Builtin.Str.occurrences b (Str.ofString "::") 0 b.length 1).isEmpty = true›]; rfl)
    k_steps
    refine hret _ _ _ _ (by assumption) (by assumption) ⟨rfl, ?_⟩
    rw [hnc'.1, hnc'.2, if_neg Bool.false_ne_true]
    show dv = (findC ns false [b] (hr.pth :: (pps ++ [[]]))).getD Value.none
    have e : cmdOf ns hr.pth b = some dv := by rw [Rp.tree.cmdOf hhr, hdv]
    have e2 : findC ns false [b] (hr.pth :: (pps ++ [[]])) = some dv := by
      show (match cmdOf ns hr.pth b with
        | some v => some v
        | none => findC ns false [b] (pps ++ [[]])) = some dv
      rw [e]
    rw [e2]; rfl
  all_goals (
    (refine Stop.out ?_; (rename Fr _ _ _ _ => Ffor); k_dflt (with_unfolding_all refine For_invVF Ffor (by exact rfl) (by exact rfl) ?_))
    k_steps
    (refine Stop.out ?_; k_dflt (refine (spec_places_of w mean mg mb _ ns Rp Po rt hr hrt hhr b tb hb) _ _ _ _ _ _ _ _ _ _ _ _ _ _ _ _ _ (by k_asm) (by k_asm) (by k_asm) (by k_asm) (by k_asm) (by first | exact rfl | assumption) (by ktr_room) (by ktr_units) ?_); intro r2 led2 h2 tk2 F2 N2 P2)
    obtain ⟨l, A, k, rfl, rfl, hfrl, hA⟩ := P2
    obtain ⟨ab, hab⟩ : ∃ ab, ab = (Txt.find b (Str.ofString "::") == 0) := ⟨_, rfl⟩
    obtain ⟨pls, hpls⟩ : ∃ pls, pls = (if ab = true then [[]] else hr.pth :: pps ++ [[]]) := ⟨_, rfl⟩
    rw [← hab, ← hpls] at hret
    rw [hsw, ← hab] at hA
    have hAr : RefsAre ns A.toList pls := by
      rw [hA, hpls]
      have hr0 : RefsAre ns [Value.ref rt.x] [[]] := by
        have : RefsAre ns [Value.ref rt.x] [rt.pth] := .cons hrt .nil
        rw [hrt0] at this; exact this
      cases ab
      · exact RefsAre.append (.cons hhr hpp) hr0
      · exact hr0
    k_steps
    refine Stop.out ?_
    rename Fr _ _ _ _ => Fld
    rename News _ _ _ _ => Nl
    have hml : (l, PySem.W.listOf A k) ∈ (l, PySem.W.listOf A k) :: news := .head _
    refine for_list (l := l) (vs := A) (fun i m nw => ∃ (p1 p2 p3 : Option Value), m = (ovr [(Str.ofString "name", some (.str b tb)), (Str.ofString "here", some (.ref hr.x)), (Str.ofString "root", some (.ref rt.x)), (Str.ofString "place", p1), (Str.ofString "space", p2), (Str.ofString "last", p3)]) ∧ nw = (l, PySem.W.listOf A k) :: news ∧ findC ns ab R pls = findC ns ab R (pls.drop i)) rfl (isList_of Nl hml) (news_ne Nl hml) Fld Nl ?_ ?_ ?_ ?_
    · exact .inr ⟨_, fun i m nw h => by obtain ⟨_, _, _, _, rfl, _⟩ := h; exact hml⟩
    · exact ⟨none, none, none, rfl, rfl, rfl⟩
    · intro i v m₁ news₁ h tk I ito hv JZ hne F₁ N₁
      (try dsimp only)
      (try k_fold)
      obtain ⟨p1, p2, p3, rfl, rfl, hgo⟩ := JZ
      obtain ⟨c, hc, rfl, hq⟩ := hAr.item i v (by simpa using hv)
      have hdr : pls.drop i = c.pth :: pls.drop (i + 1) := by
        obtain ⟨hi, e⟩ := List.getElem?_eq_some_iff.mp hq
        rw [List.drop_eq_getElem_cons hi, e]
      rw [hdr, findC] at hgo
      k_steps
      have Rp' : Rep w ((I, ito) :: (l, PySem.W.listOf A k) :: news) ns := Rp.mono (fun q hq => .tail _ (.tail _ hq))
      (refine Stop.out ?_; k_dflt (refine (spec_home_of w mean mg mb _ ns Rp' rt c hrt hrt0 hc b tb hb R n₀ hR hn0 hR1 hR2 hR3) _ _ _ _ _ _ _ _ _ _ _ _ _ _ _ _ _ (by k_asm) (by k_asm) (by k_asm) (by k_asm) (by k_asm) (by first | exact rfl | assumption) (by ktr_room) (by ktr_units) ?_); intro r2 led2 h2 tk2 F2 N2 P2)
      obtain ⟨t, v, k2, ts, rfl, rfl, hfr, hfa⟩ := P2
      rw [← hab] at hfa
      cases hg : goS (has ns) (if ab = true then [] else c.pth) R.dropLast with
      | none =>
        rw [hg] at hfa hgo
        have hfa : v = .none := hfa
        subst hfa
        dsimp only at hgo
        k_steps
        rename Fr _ _ _ _ => Fe
        rename News _ _ _ _ => Ne
        exact LEnd.intro Fe Ne ((l, PySem.W.listOf A k) :: news) (.tail _ (.head _)) (fun q hq => .tail _ (.tail _ hq)) hne ⟨_, _, _, (by funext y; simp only [← ovr_set_at]; rfl), rfl, hgo⟩
      | some q =>
        rw [hg] at hfa hgo
        obtain ⟨nd, hnd, hndq, rfl⟩ := hfa
        obtain ⟨hx3, hdd3, _, ⟨⟨och3, hoch3, hich3⟩, hchs3⟩, _, _, _⟩ := Rp.node nd hnd
        have hcm := Rp.tree.cmdOf hnd (R.getLastD (Str.ofString ""))
        rw [hndq] at hcm
        dsimp only at hgo
        rw [hcm] at hgo
        k_steps
        · rename_i dv hdv
          refine Stop.out ?_
          rw [hdv] at hgo
          k_steps
          rename News _ _ _ _ => Ne
          exact hret _ _ _ _ (by assumption) (news_sub Ne (fun q hq => .tail _ (.tail _ (.tail _ hq)))) ⟨rfl, by rw [hgo]; rfl⟩
        · have hno : valueAt nd.cmds (R.getLastD (Str.ofString "")) = none := by
            have hsf : (valueAt nd.cmds (R.getLastD (Str.ofString ""))).isSome = false := by assumption
            cases hq : valueAt nd.cmds (R.getLastD (Str.ofString "")) with
            | none => rfl
            | some v => rw [hq] at hsf; cases hsf
          rw [hno] at hgo
          rename Fr _ _ _ _ => Fe
          rename News _ _ _ _ => Ne
          exact LEnd.intro Fe Ne ((l, PySem.W.listOf A k) :: news) (.tail _ (.head _)) (fun q hq => .tail _ (.tail _ hq)) hne ⟨_, _, _, (by funext y; simp only [← ovr_set_at]; rfl), rfl, hgo⟩
    · intro m₁ news₁ h tk JZ F₁ N₁
      (try dsimp only)
      (try k_fold)
      obtain ⟨p1, p2, p3, rfl, rfl, hgo⟩ := JZ
      have hul := hAr.length
      rw [List.drop_of_length_le (by simp only [Array.length_toList] at hul; omega)] at hgo
      k_steps
      rename News _ _ _ _ => Ne
      refine hret _ _ _ _ (by assumption) (news_sub Ne (fun q hq => .tail _ hq)) ⟨rfl, ?_⟩
      rw [hgo]; rfl)
end
section
open PySem PySem.W PyProof.Rows
set_option Elab.async false
set_option maxRecDepth 100000
set_option maxHeartbeats 4000000
theorem spec_steps (w : World) (mean mg mb) (news : Led) (b : Str) (tb : Tok) (abs : Bool) (pl : Addr) (vs : Array Value) (ss : List Str) (n : Nat) (hb : b.length ≤ 10000) (hp : (pl, PySem.W.listOf vs n) ∈ news) (hs : StrsAre vs.toList ss)
    (hsz : ss.length ≤ 100) (hsl : ∀ x ∈ ss, x.length ≤ 100) :
    Spec w mean mg mb 139 2 16 news [.str b tb, .bool abs, .ref pl] (fun r news' => ∃ l us k, r = .ref l ∧ news' = (l, PySem.W.listOf us k) :: news ∧ StrsAre us.toList (stepsS (if abs then Str.ofString "::" else b) ss) ∧ ∀ p ∈ news, p.1 < l) := by
  have hvl := hs.length
  have hvz : vs.size ≤ 100 := by simp only [Array.length_toList] at hvl; omega
  unfold Spec
  w_top off
  k_fill
  intro dp un gd cn cs a ccd cl outer A₀ base h₀ L m s Q E B F X N T hk hdp hu hret
  obtain ⟨hpZ, geZ, drZ, tkZ, osZ⟩ := s
  dsimp only at F N hret ⊢
  refine wpAny_call ?_
  k_dflt (refine' code_def (binds := [(Str.ofString "here", .str b tb), (Str.ofString "is_absolute", .bool abs), (Str.ofString "parts", .ref pl)]) ?k1x8 ?k2x8 ?k3x8 ?k4x8 ?k5x8 ?kAx8 ?kFx8 ?kKx8 ?k6x8 ?k7x8 ?k8x8 ?k9x8 ?kBx8 ?_ ?c2x8 ?c3x8 ?c4x8 ?c5x8; (case kAx8 => exact rfl); (case kFx8 => exact rfl); (case kKx8 => assumption); (case k1x8 => k_asm); (case k2x8 => k_asm); (case k3x8 => k_asm); (case k4x8 => k_asm); (case k5x8 => k_asm); (case k6x8 => k_is); (case k7x8 => k_is); (case k8x8 => ktr_room); (case k9x8 => first | exact BindsTo.of_eq rfl | exact binds_K (by k_in) rfl (by k_is) rfl rfl rfl); (case c5x8 => decide); (case kBx8 => exact locs rfl); (case c2x8 => exact rfl); (case c3x8 => exact rfl); (case c4x8 => exact rfl); k_whole; intro g1 L1 h1 FG1 F1 N1 B1 X1 T1; (try dsimp only); (try k_fold))
  replace F1 : Fr g1 L1 h1 (ovr [(Str.ofString "parts", some (.ref pl)), (Str.ofString "is_absolute", some (.bool abs)), (Str.ofString "here", some (.str b tb)), (Str.ofString "at", none), (Str.ofString "steps", none), (Str.ofString "part", none)]) := fr_ovr F1 [Str.ofString "at", Str.ofString "steps", Str.ofString "part"]
  obtain ⟨st, hst0⟩ : ∃ st, st = (if abs then Str.ofString "::" else b) := ⟨_, rfl⟩
  rw [← hst0] at hret
  k_steps
  · skip
    (refine Stop.out ?_; (rename Fr _ _ _ _ => Ffor); k_dflt (with_unfolding_all refine For_invVF Ffor (by exact rfl) (by exact rfl) ?_))
    ((rename Fr _ _ _ _ => Fld); k_dflt (refine ld Fld (by exact rfl) ?_))
    rename News _ _ _ _ => Nl
    rename_i lst _ hltL _ _
    have hneL : ∀ p ∈ news, p.1 ≠ lst := fun p hp => Nat.ne_of_lt (hltL p hp)
    refine for_list (l := pl) (vs := vs) (fun i m nw => ∃ (a : Str) (t : Tok) (us : Array Value) (k : Nat) (pv : Option Value) (pre : List Str), m = (ovr [(Str.ofString "parts", some (.ref pl)), (Str.ofString "is_absolute", some (.bool abs)), (Str.ofString "here", some (.str b tb)), (Str.ofString "at", some (.str a t)), (Str.ofString "steps", some (.ref lst)), (Str.ofString "part", pv)]) ∧ nw = (lst, PySem.W.listOf us k) :: news ∧ StrsAre us.toList (pre ++ [a]) ∧ stepsS st ss = pre ++ stepsS a (ss.drop i) ∧ a.length ≤ 10000 + 102 * i ∧ us.size ≤ 1 + i) rfl (isList_of (vs := vs) Nl (.tail _ hp)) (news_ne Nl (.tail _ hp)) Fld Nl ?_ ?_ ?_ ?_
    · exact .inr ⟨_, fun i m nw h => by obtain ⟨a, t, us, k, pv, pre, _, rfl, _⟩ := h; exact .tail _ hp⟩
    · exact ⟨_, _, _, _, none, [], (by funext y; simp only [← ovr_set_at]; rfl), rfl, .cons _ _ .nil, by (rw [hst0, ‹abs = _›]; rfl), by first | omega | decide, by simp⟩
    · intro i v m₁ news₁ h tk I ito hv JZ hne F₁ N₁
      (try dsimp only)
      (try k_fold)
      obtain ⟨a, t, us, k, pv, pre, rfl, rfl, hus, hst, hal, hul⟩ := JZ
      have hiz : i < vs.size := (Array.getElem?_eq_some_iff.mp hv).1
      obtain ⟨p, tp, rfl, hss⟩ := hs.item i v (by simpa using hv)
      have hpl := hsl p (List.mem_of_getElem? hss)
      have hI := neN (hne (lst, _) (.head _))
      dsimp only at hI
      have c1 : a.length ≤ 1000000 := by omega
      have c2 : p.length ≤ 1000000 := by omega
      have hdr : ss.drop i = p :: ss.drop (i + 1) := by
        obtain ⟨hi, e⟩ := List.getElem?_eq_some_iff.mp hss
        rw [List.drop_eq_getElem_cons hi, e]
      k_steps
      · (refine Stop.out ?_; k_dflt (refine (spec_join w mean mg mb _ a p t tp c1 c2) _ _ _ _ _ _ _ _ _ _ _ _ _ _ _ _ _ (by k_asm) (by k_asm) (by k_asm) (by k_asm) (by k_asm) (by first | exact rfl | assumption) (by ktr_room) (by ktr_units) ?_); intro r2 led2 h2 tk2 F2 N2 P2)
        obtain ⟨rfl, t2, rfl⟩ := P2
        k_steps
        rename Fr _ _ _ _ => Fe
        rename News _ _ _ _ => Ne
        have hpe : p ≠ Str.ofString "" := by simpa using ‹(p != Str.ofString "") = true›
        refine LEnd.intro Fe Ne ((lst, PySem.W.listOf (us.push (.str (joinS a p) t2)) (k + 1)) :: news) (.head _) (fun q hq => .tail _ hq) (fun q hq => ?_) ⟨joinS a p, t2, _, _, some (.str p tp), pre ++ [a], (by funext y; simp only [← ovr_set_at]; rfl), rfl, ?_, ?_, ?_, ?_⟩
        · rcases List.mem_cons.mp hq with rfl | hq
          · exact hI
          · exact hne q (.tail _ hq)
        · rw [Array.toList_push]; exact hus.append' (.cons _ _ .nil)
        · rw [hst, hdr, stepsS, if_neg hpe]; simp
        · have := joinS_len a p; omega
        · simp; omega
      · rename Fr _ _ _ _ => Fe
        rename News _ _ _ _ => Ne
        have hpe : p = Str.ofString "" := by simpa using ‹(p != Str.ofString "") = false›
        refine LEnd.intro Fe Ne ((lst, PySem.W.listOf us k) :: news) (.head _) (fun q hq => .tail _ hq) (fun q hq => hne q hq) ⟨a, t, _, _, some (.str p tp), pre, (by funext y; simp only [← ovr_set_at]; rfl), rfl, hus, ?_, by omega, by omega⟩
        rw [hst, hdr, stepsS, if_pos hpe]
    · intro m₁ news₁ h tk JZ F₁ N₁
      (try dsimp only)
      (try k_fold)
      obtain ⟨a, t, us, k, pv, pre, rfl, rfl, hus, hst, hal, hul⟩ := JZ
      have e : stepsS st ss = pre ++ [a] := by
        rw [hst, List.drop_of_length_le (by simp only [Array.length_toList] at hvl; omega)]; rfl
      k_steps
      exact hret _ _ _ _ (by assumption) (by assumption) ⟨lst, us, k, rfl, rfl, by rw [e]; exact hus, hltL⟩
  · skip
    (refine Stop.out ?_; (rename Fr _ _ _ _ => Ffor); k_dflt (with_unfolding_all refine For_invVF Ffor (by exact rfl) (by exact rfl) ?_))
    ((rename Fr _ _ _ _ => Fld); k_dflt (refine ld Fld (by exact rfl) ?_))
    rename News _ _ _ _ => Nl
    rename_i lst _ hltL _ _
    have hneL : ∀ p ∈ news, p.1 ≠ lst := fun p hp => Nat.ne_of_lt (hltL p hp)
    refine for_list (l := pl) (vs := vs) (fun i m nw => ∃ (a : Str) (t : Tok) (us : Array Value) (k : Nat) (pv : Option Value) (pre : List Str), m = (ovr [(Str.ofString "parts", some (.ref pl)), (Str.ofString "is_absolute", some (.bool abs)), (Str.ofString "here", some (.str b tb)), (Str.ofString "at", some (.str a t)), (Str.ofString "steps", some (.ref lst)), (Str.ofString "part", pv)]) ∧ nw = (lst, PySem.W.listOf us k) :: news ∧ StrsAre us.toList (pre ++ [a]) ∧ stepsS st ss = pre ++ stepsS a (ss.drop i) ∧ a.length ≤ 10000 + 102 * i ∧ us.size ≤ 1 + i) rfl (isList_of (vs := vs) Nl (.tail _ hp)) (news_ne Nl (.tail _ hp)) Fld Nl ?_ ?_ ?_ ?_
    · exact .inr ⟨_, fun i m nw h => by obtain ⟨a, t, us, k, pv, pre, _, rfl, _⟩ := h; exact .tail _ hp⟩
    · exact ⟨_, _, _, _, none, [], (by funext y; simp only [← ovr_set_at]; rfl), rfl, .cons _ _ .nil, by (rw [hst0, ‹abs = _›]; rfl), by first | omega | decide, by simp⟩
    · intro i v m₁ news₁ h tk I ito hv JZ hne F₁ N₁
      (try dsimp only)
      (try k_fold)
      obtain ⟨a, t, us, k, pv, pre, rfl, rfl, hus, hst, hal, hul⟩ := JZ
      have hiz : i < vs.size := (Array.getElem?_eq_some_iff.mp hv).1
      obtain ⟨p, tp, rfl, hss⟩ := hs.item i v (by simpa using hv)
      have hpl := hsl p (List.mem_of_getElem? hss)
      have hI := neN (hne (lst, _) (.head _))
      dsimp only at hI
      have c1 : a.length ≤ 1000000 := by omega
      have c2 : p.length ≤ 1000000 := by omega
      have hdr : ss.drop i = p :: ss.drop (i + 1) := by
        obtain ⟨hi, e⟩ := List.getElem?_eq_some_iff.mp hss
        rw [List.drop_eq_getElem_cons hi, e]
      k_steps
      · (refine Stop.out ?_; k_dflt (refine (spec_join w mean mg mb _ a p t tp c1 c2) _ _ _ _ _ _ _ _ _ _ _ _ _ _ _ _ _ (by k_asm) (by k_asm) (by k_asm) (by k_asm) (by k_asm) (by first | exact rfl | assumption) (by ktr_room) (by ktr_units) ?_); intro r2 led2 h2 tk2 F2 N2 P2)
        obtain ⟨rfl, t2, rfl⟩ := P2
        k_steps
        rename Fr _ _ _ _ => Fe
        rename News _ _ _ _ => Ne
        have hpe : p ≠ Str.ofString "" := by simpa using ‹(p != Str.ofString "") = true›
        refine LEnd.intro Fe Ne ((lst, PySem.W.listOf (us.push (.str (joinS a p) t2)) (k + 1)) :: news) (.head _) (fun q hq => .tail _ hq) (fun q hq => ?_) ⟨joinS a p, t2, _, _, some (.str p tp), pre ++ [a], (by funext y; simp only [← ovr_set_at]; rfl), rfl, ?_, ?_, ?_, ?_⟩
        · rcases List.mem_cons.mp hq with rfl | hq
          · exact hI
          · exact hne q (.tail _ hq)
        · rw [Array.toList_push]; exact hus.append' (.cons _ _ .nil)
        · rw [hst, hdr, stepsS, if_neg hpe]; simp
        · have := joinS_len a p; omega
        · simp; omega
      · rename Fr _ _ _ _ => Fe
        rename News _ _ _ _ => Ne
        have hpe : p = Str.ofString "" := by simpa using ‹(p != Str.ofString "") = false›
        refine LEnd.intro Fe Ne ((lst, PySem.W.listOf us k) :: news) (.head _) (fun q hq => .tail _ hq) (fun q hq => hne q hq) ⟨a, t, _, _, some (.str p tp), pre, (by funext y; simp only [← ovr_set_at]; rfl), rfl, hus, ?_, by omega, by omega⟩
        rw [hst, hdr, stepsS, if_pos hpe]
    · intro m₁ news₁ h tk JZ F₁ N₁
      (try dsimp only)
      (try k_fold)
      obtain ⟨a, t, us, k, pv, pre, rfl, rfl, hus, hst, hal, hul⟩ := JZ
      have e : stepsS st ss = pre ++ [a] := by
        rw [hst, List.drop_of_length_le (by simp only [Array.length_toList] at hvl; omega)]; rfl
      k_steps
      exact hret _ _ _ _ (by assumption) (by assumption) ⟨lst, us, k, rfl, rfl, by rw [e]; exact hus, hltL⟩
end
section
open PySem PySem.W PyProof.Rows
set_option Elab.async false
set_option maxRecDepth 100000
set_option maxHeartbeats 8000000
theorem spec_told_none (w : World) (mean mg mb) (news : Led) :
    Spec w mean mg mb 153 2 24 news [.none] (fun r news' => news' = news ∧ r = .none) := by
  unfold Spec
  w_top off
  k_fill
  intro dp un gd cn cs a ccd cl outer A₀ base h₀ L m s Q E B F X N T hk hdp hu hret
  obtain ⟨hpZ, geZ, drZ, tkZ, osZ⟩ := s
  dsimp only at F N hret ⊢
  refine wpAny_call ?_
  k_dflt (refine' code_def (binds := [(Str.ofString "command", .none)]) ?k1x8 ?k2x8 ?k3x8 ?k4x8 ?k5x8 ?kAx8 ?kFx8 ?kKx8 ?k6x8 ?k7x8 ?k8x8 ?k9x8 ?kBx8 ?_ ?c2x8 ?c3x8 ?c4x8 ?c5x8; (case kAx8 => exact rfl); (case kFx8 => exact rfl); (case kKx8 => assumption); (case k1x8 => k_asm); (case k2x8 => k_asm); (case k3x8 => k_asm); (case k4x8 => k_asm); (case k5x8 => k_asm); (case k6x8 => k_is); (case k7x8 => k_is); (case k8x8 => ktr_room); (case k9x8 => first | exact BindsTo.of_eq rfl | exact binds_K (by k_in) rfl (by k_is) rfl rfl rfl); (case c5x8 => decide); (case kBx8 => exact locs rfl); (case c2x8 => exact rfl); (case c3x8 => exact rfl); (case c4x8 => exact rfl); k_whole; intro g1 L1 h1 FG1 F1 N1 B1 X1 T1; (try dsimp only); (try k_fold))
  replace F1 : Fr g1 L1 h1 (ovr [(Str.ofString "command", some (.none)), (Str.ofString "flags", none)]) := fr_ovr F1 [Str.ofString "flags"]
  k_steps
  exact hret _ _ _ _ (by assumption) (by assumption) ⟨rfl, rfl⟩
theorem spec_told (w : World) (mean mg mb) (news : Led) (nd : Nd) (Hn : NdIn w news nd) (cx : Addr) (last : Str) (dat : Int) (Hc : CmdIn w news cx nd.x last dat) :
    Spec w mean mg mb 153 2 24 news [.ref cx] (fun r news' => (∀ p ∈ news, p ∈ news') ∧ LR news' r (toldD (nmOf nd.pth) last dat)) := by
  obtain ⟨⟨d, tr, tl, ta, td, ts, k, hc1, hc2, hc3⟩⟩ := Hc
  obtain ⟨hx, hdd, _, _, _, _, _⟩ := Hn
  unfold Spec
  w_top off
  k_fill
  intro dp un gd cn cs a ccd cl outer A₀ base h₀ L m s Q E B F X N T hk hdp hu hret
  obtain ⟨hpZ, geZ, drZ, tkZ, osZ⟩ := s
  dsimp only at F N hret ⊢
  refine wpAny_call ?_
  k_dflt (refine' code_def (binds := [(Str.ofString "command", .ref cx)]) ?k1x9 ?k2x9 ?k3x9 ?k4x9 ?k5x9 ?kAx9 ?kFx9 ?kKx9 ?k6x9 ?k7x9 ?k8x9 ?k9x9 ?kBx9 ?_ ?c2x9 ?c3x9 ?c4x9 ?c5x9; (case kAx9 => exact rfl); (case kFx9 => exact rfl); (case kKx9 => assumption); (case k1x9 => k_asm); (case k2x9 => k_asm); (case k3x9 => k_asm); (case k4x9 => k_asm); (case k5x9 => k_asm); (case k6x9 => k_is); (case k7x9 => k_is); (case k8x9 => ktr_room); (case k9x9 => first | exact BindsTo.of_eq rfl | exact binds_K (by k_in) rfl (by k_is) rfl rfl rfl); (case c5x9 => decide); (case kBx9 => exact locs rfl); (case c2x9 => exact rfl); (case c3x9 => exact rfl); (case c4x9 => exact rfl); k_whole; intro g1 L1 h1 FG1 F1 N1 B1 X1 T1; (try dsimp only); (try k_fold))
  replace F1 : Fr g1 L1 h1 (ovr [(Str.ofString "command", some (.ref cx)), (Str.ofString "flags", none)]) := fr_ovr F1 [Str.ofString "flags"]
  k_steps
  refine hret _ _ _ _ (by assumption) (by assumption) ⟨fun p hp => .tail _ (.tail _ hp), .tup (.head _) (.cons (.str _ _) (.cons (.str _ _) (.cons (.str _ _) (.cons (.int _ _) (.cons ?_ .nil)))))⟩
  exact .tup (.tail _ (.head _)) (.cons (.list (.tail _ (.tail _ hc3)) .nil) (.cons (.bool _) (.cons .none (.cons (.bool _) .nil))))

theorem spec_due (w : World) (mean mg mb) (news : Led) (hA : Addr) (bs : List Bn) (Hh : HeldIn w news hA bs) (nm : Str) (tn : Tok) (last : Str) (tl : Tok) :
    Spec w mean mg mb 160 2 24 news [.ref hA, .str nm tn, .str last tl] (fun r news' => (∀ p ∈ news, p ∈ news') ∧ Due news' nm last (dueOf bs nm last) r) := by
  obtain ⟨⟨⟨oh, hoh, hih⟩, hhs⟩, hin⟩ := Hh
  have hat : valueAt (hkv bs) nm = (atNm bs nm).map fun b => .ref b.ha := valueAt_map bs (fun b => .ref b.ha) nm
  unfold dueOf
  cases hb : atNm bs nm with
  | none =>
    rw [hb] at hat
    have hsf : (valueAt (hkv bs) nm).isSome = false := by rw [hat]; rfl
    unfold Spec
    w_top off
    k_fill
    intro dp un gd cn cs a ccd cl outer A₀ base h₀ L m s Q E B F X N T hk hdp hu hret
    obtain ⟨hpZ, geZ, drZ, tkZ, osZ⟩ := s
    dsimp only at F N hret ⊢
    refine wpAny_call ?_
    k_dflt (refine' code_def (binds := [(Str.ofString "held", .ref hA), (Str.ofString "name", .str nm tn), (Str.ofString "last", .str last tl)]) ?k1x10 ?k2x10 ?k3x10 ?k4x10 ?k5x10 ?kAx10 ?kFx10 ?kKx10 ?k6x10 ?k7x10 ?k8x10 ?k9x10 ?kBx10 ?_ ?c2x10 ?c3x10 ?c4x10 ?c5x10; (case kAx10 => exact rfl); (case kFx10 => exact rfl); (case kKx10 => assumption); (case k1x10 => k_asm); (case k2x10 => k_asm); (case k3x10 => k_asm); (case k4x10 => k_asm); (case k5x10 => k_asm); (case k6x10 => k_is); (case k7x10 => k_is); (case k8x10 => ktr_room); (case k9x10 => first | exact BindsTo.of_eq rfl | exact binds_K (by k_in) rfl (by k_is) rfl rfl rfl); (case c5x10 => decide); (case kBx10 => exact locs rfl); (case c2x10 => exact rfl); (case c3x10 => exact rfl); (case c4x10 => exact rfl); k_whole; intro g1 L1 h1 FG1 F1 N1 B1 X1 T1; (try dsimp only); (try k_fold))
    replace F1 : Fr g1 L1 h1 (ovr [(Str.ofString "last", some (.str last tl)), (Str.ofString "name", some (.str nm tn)), (Str.ofString "held", some (.ref hA))]) := fr_ovr F1 []
    k_steps
    exact hret _ _ _ _ (by assumption) (by assumption) ⟨fun _ hp => hp, rfl⟩
  | some b =>
    rw [hb] at hat
    obtain ⟨hbm, hbn⟩ := atNm_mem hb
    obtain ⟨⟨⟨oi, hoi, hii⟩, his⟩, hint⟩ := hin b hbm
    have hsf : (valueAt (hkv bs) nm).isSome = true := by rw [hat]; rfl
    cases hv : valueAt b.kv last with
    | none =>
      have hsg : (valueAt b.kv last).isSome = false := by rw [hv]; rfl
      unfold Spec
      w_top off
      k_fill
      intro dp un gd cn cs a ccd cl outer A₀ base h₀ L m s Q E B F X N T hk hdp hu hret
      obtain ⟨hpZ, geZ, drZ, tkZ, osZ⟩ := s
      dsimp only at F N hret ⊢
      refine wpAny_call ?_
      k_dflt (refine' code_def (binds := [(Str.ofString "held", .ref hA), (Str.ofString "name", .str nm tn), (Str.ofString "last", .str last tl)]) ?k1x11 ?k2x11 ?k3x11 ?k4x11 ?k5x11 ?kAx11 ?kFx11 ?kKx11 ?k6x11 ?k7x11 ?k8x11 ?k9x11 ?kBx11 ?_ ?c2x11 ?c3x11 ?c4x11 ?c5x11; (case kAx11 => exact rfl); (case kFx11 => exact rfl); (case kKx11 => assumption); (case k1x11 => k_asm); (case k2x11 => k_asm); (case k3x11 => k_asm); (case k4x11 => k_asm); (case k5x11 => k_asm); (case k6x11 => k_is); (case k7x11 => k_is); (case k8x11 => ktr_room); (case k9x11 => first | exact BindsTo.of_eq rfl | exact binds_K (by k_in) rfl (by k_is) rfl rfl rfl); (case c5x11 => decide); (case kBx11 => exact locs rfl); (case c2x11 => exact rfl); (case c3x11 => exact rfl); (case c4x11 => exact rfl); k_whole; intro g1 L1 h1 FG1 F1 N1 B1 X1 T1; (try dsimp only); (try k_fold))
      replace F1 : Fr g1 L1 h1 (ovr [(Str.ofString "last", some (.str last tl)), (Str.ofString "name", some (.str nm tn)), (Str.ofString "held", some (.ref hA))]) := fr_ovr F1 []
      k_steps
      rename_i dv hdv
      obtain rfl := Option.some.inj (hdv.symm.trans hat)
      refine Stop.out ?_
      k_steps
      exact hret _ _ _ _ (by assumption) (by assumption) ⟨fun _ hp => hp, by dsimp only [Option.bind]; rw [hv]; rfl⟩
    | some v =>
      obtain ⟨d, td, rfl⟩ := hint _ _ hv
      have hsg : (valueAt b.kv last).isSome = true := by rw [hv]; rfl
      unfold Spec
      w_top off
      k_fill
      intro dp un gd cn cs a ccd cl outer A₀ base h₀ L m s Q E B F X N T hk hdp hu hret
      obtain ⟨hpZ, geZ, drZ, tkZ, osZ⟩ := s
      dsimp only at F N hret ⊢
      refine wpAny_call ?_
      k_dflt (refine' code_def (binds := [(Str.ofString "held", .ref hA), (Str.ofString "name", .str nm tn), (Str.ofString "last", .str last tl)]) ?k1x12 ?k2x12 ?k3x12 ?k4x12 ?k5x12 ?kAx12 ?kFx12 ?kKx12 ?k6x12 ?k7x12 ?k8x12 ?k9x12 ?kBx12 ?_ ?c2x12 ?c3x12 ?c4x12 ?c5x12; (case kAx12 => exact rfl); (case kFx12 => exact rfl); (case kKx12 => assumption); (case k1x12 => k_asm); (case k2x12 => k_asm); (case k3x12 => k_asm); (case k4x12 => k_asm); (case k5x12 => k_asm); (case k6x12 => k_is); (case k7x12 => k_is); (case k8x12 => ktr_room); (case k9x12 => first | exact BindsTo.of_eq rfl | exact binds_K (by k_in) rfl (by k_is) rfl rfl rfl); (case c5x12 => decide); (case kBx12 => exact locs rfl); (case c2x12 => exact rfl); (case c3x12 => exact rfl); (case c4x12 => exact rfl); k_whole; intro g1 L1 h1 FG1 F1 N1 B1 X1 T1; (try dsimp only); (try k_fold))
      replace F1 : Fr g1 L1 h1 (ovr [(Str.ofString "last", some (.str last tl)), (Str.ofString "name", some (.str nm tn)), (Str.ofString "held", some (.ref hA))]) := fr_ovr F1 []
      k_steps
      rename_i dv hdv
      obtain rfl := Option.some.inj (hdv.symm.trans hat)
      refine Stop.out ?_
      k_steps
      rename_i dv hdv
      obtain rfl := Option.some.inj (hdv.symm.trans hat)
      refine Stop.out ?_
      k_steps
      rename_i dv hdv
      obtain rfl := Option.some.inj (hdv.symm.trans hv)
      refine Stop.out ?_
      k_steps
      rename News h₀ _ _ _ => Nw
      refine hret _ _ _ _ (by assumption) Nw ⟨fun p hp => by simp only [List.mem_cons, hp, or_true], ?_⟩
      dsimp only [Option.bind]
      rw [hv]
      refine ⟨⟨_, rfl⟩, .tup (.head _) (.cons (.str _ _) (.cons (.str _ _) (.cons (.str _ _) (.cons (.int _ _) (.cons ?_ .nil)))))⟩
      exact .tup (.tail _ (.head _)) (.cons (.list (.tail _ (.tail _ (.head _))) .nil) (.cons (.bool _) (.cons .none (.cons (.bool _) .nil))))
end
section
open PySem PySem.W PyProof.Rows
set_option Elab.async false
set_option maxRecDepth 100000
set_option maxHeartbeats 8000000
/-- the law's own lists of paths -/
structure PathsIn (w : World) (news : Led) (pA : Addr) (bs : List Bn) : Prop where
  out : DictIn w news pA (qkv bs)
  inn : ∀ b ∈ bs, (b.qa, PySem.W.listOf b.pv b.kq) ∈ news ∧ StrsAre b.pv.toList (b.pq.map nmOf) ∧ b.pq.length ≤ 10
def lastS (st : Str) (ss : List Str) : Str := (stepsS st ss).getLastD (Str.ofString "")
def foundOf (bs : List Bn) (ss : List Str) (last : Str) : List Str → Option (Str × Int)
  | [] => none
  | st :: r => match dueOf bs (lastS st ss) last with
    | some d => some (lastS st ss, d)
    | none => foundOf bs ss last r
/-- what _law_found hands back -/
def Fnd (news : Led) (last : Str) : Option (Str × Int) → Value → Prop
  | none, r => r = .none
  | some (nm, d), r => LR news r (toldD nm last d)
theorem stepsS_ne : ∀ (ss : List Str) (st : Str), stepsS st ss ≠ []
  | [], st => by unfold stepsS; exact List.cons_ne_nil _ _
  | p :: r, st => by
    unfold stepsS
    split
    · exact stepsS_ne r st
    · exact List.cons_ne_nil _ _
theorem spec_found (w : World) (mean mg mb) (news : Led) (hA pA : Addr) (bs : List Bn) (Hh : HeldIn w news hA bs) (Hp : PathsIn w news pA bs) (b : Bn) (th : Tok) (hbm : atNm bs (nmOf b.pth) = some b) (ab : Bool)
    (pl : Addr) (us : Array Value) (k : Nat) (ps : List Str) (hpl : (pl, PySem.W.listOf us k) ∈ news) (hus : StrsAre us.toList ps) (hne : ps ≠ []) (hlen : ps.length ≤ 50) (hpz : ∀ x ∈ ps, x.length ≤ 100) (hnl : ∀ c ∈ bs, (nmOf c.pth).length ≤ 10000) (hnq : ∀ c ∈ bs, ∀ q ∈ c.pq, (nmOf q).length ≤ 10000) :
    Spec w mean mg mb 167 4 40 news [.ref hA, .ref pA, .str (nmOf b.pth) th, .bool ab, .ref pl] (fun r news' => (∀ p ∈ news, p ∈ news') ∧
      Fnd news' (ps.getLastD (Str.ofString "")) (foundOf bs ps.dropLast (ps.getLastD (Str.ofString "")) (if ab = true then [Str.ofString "::"] else nmOf b.pth :: b.pq.map nmOf ++ [Str.ofString "::"])) r) := by
  obtain ⟨⟨⟨oq, hoq, hiq⟩, hqs⟩, hin⟩ := Hp
  have hat : valueAt (qkv bs) (nmOf b.pth) = (atNm bs (nmOf b.pth)).map fun b => .ref b.qa := valueAt_map bs (fun b => .ref b.qa) (nmOf b.pth)
  rw [hbm] at hat
  obtain ⟨hbb, _⟩ := atNm_mem hbm
  obtain ⟨hql, hqS, hqz⟩ := hin b hbb
  have hsf : (valueAt (qkv bs) (nmOf b.pth)).isSome = true := by rw [hat]; rfl
  have hul := hus.length
  simp only [Array.length_toList] at hul
  have hzz : us.size ≤ sizeLine := by rw [sizeLine_eq]; omega
  have hpzz : b.pv.size ≤ 10 := by have := hqS.length; simp only [Array.length_toList, List.length_map] at this; omega
  obtain ⟨ss, hss⟩ : ∃ ss, ss = (if ab = true then [Str.ofString "::"] else nmOf b.pth :: b.pq.map nmOf ++ [Str.ofString "::"]) := ⟨_, rfl⟩
  have hssl : ∀ x ∈ ss, x.length ≤ 10000 := by
    intro x hx
    rw [hss] at hx
    split at hx
    · rw [List.mem_singleton.mp hx]; decide
    · rcases List.mem_append.mp hx with hx | hx
      · rcases List.mem_cons.mp hx with rfl | hx
        · exact hnl b hbb
        · obtain ⟨q, hq, rfl⟩ := List.mem_map.mp hx
          exact hnq b hbb q hq
      · rw [List.mem_singleton.mp hx]; decide
  rw [← hss]
  have husd : StrsAre (us.toList.take (us.size - 1)).toArray.toList ps.dropLast := by
    have := hus.take' (us.size - 1)
    rw [List.dropLast_eq_take]
    rw [hul] at this ⊢
    exact this
  unfold Spec
  w_top off
  k_fill
  intro dp un gd cn cs a ccd cl outer A₀ base h₀ L m s Q E B F X N T hk hdp hu hret
  obtain ⟨hpZ, geZ, drZ, tkZ, osZ⟩ := s
  dsimp only at F N hret ⊢
  refine wpAny_call ?_
  k_dflt (refine' code_def (binds := [(Str.ofString "held", .ref hA), (Str.ofString "paths", .ref pA), (Str.ofString "here", .str (nmOf b.pth) th), (Str.ofString "is_absolute", .bool ab), (Str.ofString "parts", .ref pl)]) ?k1x8 ?k2x8 ?k3x8 ?k4x8 ?k5x8 ?kAx8 ?kFx8 ?kKx8 ?k6x8 ?k7x8 ?k8x8 ?k9x8 ?kBx8 ?_ ?c2x8 ?c3x8 ?c4x8 ?c5x8; (case kAx8 => exact rfl); (case kFx8 => exact rfl); (case kKx8 => assumption); (case k1x8 => k_asm); (case k2x8 => k_asm); (case k3x8 => k_asm); (case k4x8 => k_asm); (case k5x8 => k_asm); (case k6x8 => k_is); (case k7x8 => k_is); (case k8x8 => ktr_room); (case k9x8 => first | exact BindsTo.of_eq rfl | exact binds_K (by k_in) rfl (by k_is) rfl rfl rfl); (case c5x8 => decide); (case kBx8 => exact locs rfl); (case c2x8 => exact rfl); (case c3x8 => exact rfl); (case c4x8 => exact rfl); k_whole; intro g1 L1 h1 FG1 F1 N1 B1 X1 T1; (try dsimp only); (try k_fold))
  replace F1 : Fr g1 L1 h1 (ovr [(Str.ofString "parts", some (.ref pl)), (Str.ofString "is_absolute", some (.bool ab)), (Str.ofString "here", some (.str (nmOf b.pth) th)), (Str.ofString "paths", some (.ref pA)), (Str.ofString "held", some (.ref hA)), (Str.ofString "starts", none), (Str.ofString "start", none), (Str.ofString "due", none)]) := fr_ovr F1 [Str.ofString "starts", Str.ofString "start", Str.ofString "due"]
  k_steps
  · rename Fr _ _ _ _ => Fl
    rename News _ _ _ _ => Nl
    rename (∀ p ∈ news, _) => hlt
    rw [if_pos ‹ab = true›] at hss
    obtain ⟨lst, vs, Nv, Fv, hvs, hlL⟩ : ∃ lst vs, News _ _ _ ((lst, PySem.W.listOf vs 0) :: news) ∧ Fr _ _ _ (ovr [(Str.ofString "parts", some (.ref pl)), (Str.ofString "is_absolute", some (.bool ab)), (Str.ofString "here", some (.str (nmOf b.pth) th)), (Str.ofString "paths", some (.ref pA)), (Str.ofString "held", some (.ref hA)), (Str.ofString "starts", some (.ref lst)), (Str.ofString "start", none), (Str.ofString "due", none)]) ∧ StrsAre vs.toList ss ∧ (∀ p ∈ news, p.1 < lst) := ⟨_, _, Nl, fr_eq Fl (by funext y; simp only [← ovr_set_at]; rfl), by rw [hss]; exact .cons _ _ .nil, hlt⟩
    clear Fl Nl
    have hlp : @Ne Nat pl lst := Nat.ne_of_lt (hlL _ hpl)
    refine Stop.out ?_
    k_dflt (with_unfolding_all refine For_invVF Fv (by exact rfl) (by exact rfl) ?_)
    k_dflt (refine ld Fv (by exact rfl) ?_)
    refine for_list (l := lst) (vs := vs) (fun i m nw => ∃ (p1 p2 : Option Value), m = (ovr [(Str.ofString "parts", some (.ref pl)), (Str.ofString "is_absolute", some (.bool ab)), (Str.ofString "here", some (.str (nmOf b.pth) th)), (Str.ofString "paths", some (.ref pA)), (Str.ofString "held", some (.ref hA)), (Str.ofString "starts", some (.ref lst)), (Str.ofString "start", p1), (Str.ofString "due", p2)]) ∧ nw = (lst, PySem.W.listOf vs 0) :: news ∧ foundOf bs ps.dropLast (ps.getLastD (Str.ofString "")) ss = foundOf bs ps.dropLast (ps.getLastD (Str.ofString "")) (ss.drop i)) rfl (isList_of Nv (.head _)) (news_ne Nv (.head _)) Fv Nv ?_ ?_ ?_ ?_
    · exact .inr ⟨_, fun i m nw h => by obtain ⟨_, _, _, rfl, _⟩ := h; exact .head _⟩
    · exact ⟨none, none, rfl, rfl, rfl⟩
    · intro i v m₁ news₁ h tk I ito hv JZ hni F₁ N₁
      (try dsimp only)
      (try k_fold)
      obtain ⟨p1, p2, rfl, rfl, hgo⟩ := JZ
      obtain ⟨st, ts, rfl, hst⟩ := hvs.item i v (by simpa using hv)
      have hstl := hssl st (List.mem_of_getElem? hst)
      have hdr : ss.drop i = st :: ss.drop (i + 1) := by
        obtain ⟨hi, e⟩ := List.getElem?_eq_some_iff.mp hst
        rw [List.drop_eq_getElem_cons hi, e]
      rw [hdr, foundOf] at hgo
      clear Fv Nv
      k_steps
      rename_i sl _ _ _ hsl
      have hdl : ps.dropLast.length ≤ 100 := by simp; omega
      have hdz : ∀ x ∈ ps.dropLast, x.length ≤ 100 := fun x hx => hpz x (List.dropLast_subset _ hx)
      (refine Stop.out ?_; k_dflt (refine (spec_steps w mean mg mb _ st ts false sl (us.toList.take (us.size - 1)).toArray ps.dropLast 0 hstl (.head _) husd hdl hdz) _ _ _ _ _ _ _ _ _ _ _ _ _ _ _ _ _ (by k_asm) (by k_asm) (by k_asm) (by k_asm) (by k_asm) (by first | exact rfl | assumption) (by ktr_room) (by ktr_units) ?_); intro r2 led2 h2 tk2 F2 N2 P2)
      obtain ⟨l2, us2, k2, rfl, rfl, hus2, hlt2⟩ := P2
      replace hus2 : StrsAre us2.toList (stepsS st ps.dropLast) := hus2
      have hne2 := stepsS_ne ps.dropLast st
      k_steps
      have Hh2 : HeldIn w ((l2, PySem.W.listOf us2 k2) :: (sl, PySem.W.listOf (us.toList.take (us.size - 1)).toArray 0) :: (I, ito) :: (lst, PySem.W.listOf vs 0) :: news) hA bs := Hh.mono fun p hp => .tail _ (.tail _ (.tail _ (.tail _ hp)))
      (refine Stop.out ?_; k_dflt (refine (spec_due w mean mg mb _ hA bs Hh2 _ _ _ _) _ _ _ _ _ _ _ _ _ _ _ _ _ _ _ _ _ (by k_asm) (by k_asm) (by k_asm) (by k_asm) (by k_asm) (by first | exact rfl | assumption) (by ktr_room) (by ktr_units) ?_); intro r2 led2 h2 tk2 F2 N2 P2)
      obtain ⟨hsub2, hdue⟩ := P2
      replace hdue : Due led2 (lastS st ps.dropLast) (ps.getLastD (Str.ofString "")) (dueOf bs (lastS st ps.dropLast) (ps.getLastD (Str.ofString ""))) r2 := hdue
      cases hd : dueOf bs (lastS st ps.dropLast) (ps.getLastD (Str.ofString "")) with
      | none =>
        rw [hd] at hdue hgo
        dsimp only at hgo
        obtain rfl : r2 = .none := hdue
        k_steps
        rename Fr _ _ _ _ => Fe
        rename News _ _ _ _ => Nw
        exact LEnd.intro Fe Nw ((lst, PySem.W.listOf vs 0) :: news) (hsub2 _ (.tail _ (.tail _ (.head _)))) (fun q hq => hsub2 q (.tail _ (.tail _ (.tail _ hq)))) hni ⟨_, _, (by funext y; simp only [← ovr_set_at]; rfl), rfl, hgo⟩
      | some d =>
        rw [hd] at hdue hgo
        dsimp only at hgo
        obtain ⟨⟨ra, rfl⟩, hr⟩ := hdue
        k_steps
        rename News h₀ _ _ _ => Nw
        refine hret _ _ _ _ (by assumption) Nw ⟨fun p hp => hsub2 p (.tail _ (.tail _ (.tail _ (.tail _ hp)))), ?_⟩
        rw [hgo]
        exact hr
    · intro m₁ news₁ h tk JZ F₁ N₁
      (try dsimp only)
      (try k_fold)
      obtain ⟨p1, p2, rfl, rfl, hgo⟩ := JZ
      have hvl := hvs.length
      rw [List.drop_of_length_le (by simp only [Array.length_toList] at hvl; omega)] at hgo
      k_steps
      rename News h₀ _ _ _ => Nw
      refine hret _ _ _ _ (by assumption) Nw ⟨fun p hp => .tail _ hp, ?_⟩
      rw [hgo]; rfl
  · rename_i dv hdv
    obtain rfl := Option.some.inj (hdv.symm.trans hat)
    refine Stop.out ?_
    k_steps
    rename Fr _ _ _ _ => Fl
    rename News _ _ _ _ => Nl
    rw [if_neg (by rw [‹ab = false›]; decide)] at hss
    rename (_ ∧ _ ∧ _ ∧ AllLt _ news) => hlt4
    have hltA := ktn_ltOf hlt4.2.2.2
    obtain ⟨lst, vs, Nv, Fv, hvs, hlL⟩ : ∃ lst vs, News _ _ _ ((lst, PySem.W.listOf vs 0) :: news) ∧ Fr _ _ _ (ovr [(Str.ofString "parts", some (.ref pl)), (Str.ofString "is_absolute", some (.bool ab)), (Str.ofString "here", some (.str (nmOf b.pth) th)), (Str.ofString "paths", some (.ref pA)), (Str.ofString "held", some (.ref hA)), (Str.ofString "starts", some (.ref lst)), (Str.ofString "start", none), (Str.ofString "due", none)]) ∧ StrsAre vs.toList ss ∧ (∀ p ∈ news, p.1 < lst) := ⟨_, _, news_sub Nl (fun q hq => by rcases List.mem_cons.mp hq with e | hq; (rw [e]; exact .head _); exact .tail _ (.tail _ (.tail _ (.tail _ hq)))), fr_eq Fl (by funext y; simp only [← ovr_set_at]; rfl), by rw [hss]; exact StrsAre.append' (StrsAre.append' (.cons _ _ .nil) hqS) (.cons _ _ .nil), hltA⟩
    clear Fl Nl
    have hlp : @Ne Nat pl lst := Nat.ne_of_lt (hlL _ hpl)
    refine Stop.out ?_
    k_dflt (with_unfolding_all refine For_invVF Fv (by exact rfl) (by exact rfl) ?_)
    k_dflt (refine ld Fv (by exact rfl) ?_)
    refine for_list (l := lst) (vs := vs) (fun i m nw => ∃ (p1 p2 : Option Value), m = (ovr [(Str.ofString "parts", some (.ref pl)), (Str.ofString "is_absolute", some (.bool ab)), (Str.ofString "here", some (.str (nmOf b.pth) th)), (Str.ofString "paths", some (.ref pA)), (Str.ofString "held", some (.ref hA)), (Str.ofString "starts", some (.ref lst)), (Str.ofString "start", p1), (Str.ofString "due", p2)]) ∧ nw = (lst, PySem.W.listOf vs 0) :: news ∧ foundOf bs ps.dropLast (ps.getLastD (Str.ofString "")) ss = foundOf bs ps.dropLast (ps.getLastD (Str.ofString "")) (ss.drop i)) rfl (isList_of Nv (.head _)) (news_ne Nv (.head _)) Fv Nv ?_ ?_ ?_ ?_
    · exact .inr ⟨_, fun i m nw h => by obtain ⟨_, _, _, rfl, _⟩ := h; exact .head _⟩
    · exact ⟨none, none, rfl, rfl, rfl⟩
    · intro i v m₁ news₁ h tk I ito hv JZ hni F₁ N₁
      (try dsimp only)
      (try k_fold)
      obtain ⟨p1, p2, rfl, rfl, hgo⟩ := JZ
      obtain ⟨st, ts, rfl, hst⟩ := hvs.item i v (by simpa using hv)
      have hstl := hssl st (List.mem_of_getElem? hst)
      have hdr : ss.drop i = st :: ss.drop (i + 1) := by
        obtain ⟨hi, e⟩ := List.getElem?_eq_some_iff.mp hst
        rw [List.drop_eq_getElem_cons hi, e]
      rw [hdr, foundOf] at hgo
      clear Fv Nv
      k_steps
      rename_i sl _ _ _ hsl
      have hdl : ps.dropLast.length ≤ 100 := by simp; omega
      have hdz : ∀ x ∈ ps.dropLast, x.length ≤ 100 := fun x hx => hpz x (List.dropLast_subset _ hx)
      (refine Stop.out ?_; k_dflt (refine (spec_steps w mean mg mb _ st ts false sl (us.toList.take (us.size - 1)).toArray ps.dropLast 0 hstl (.head _) husd hdl hdz) _ _ _ _ _ _ _ _ _ _ _ _ _ _ _ _ _ (by k_asm) (by k_asm) (by k_asm) (by k_asm) (by k_asm) (by first | exact rfl | assumption) (by ktr_room) (by ktr_units) ?_); intro r2 led2 h2 tk2 F2 N2 P2)
      obtain ⟨l2, us2, k2, rfl, rfl, hus2, hlt2⟩ := P2
      replace hus2 : StrsAre us2.toList (stepsS st ps.dropLast) := hus2
      have hne2 := stepsS_ne ps.dropLast st
      k_steps
      have Hh2 : HeldIn w ((l2, PySem.W.listOf us2 k2) :: (sl, PySem.W.listOf (us.toList.take (us.size - 1)).toArray 0) :: (I, ito) :: (lst, PySem.W.listOf vs 0) :: news) hA bs := Hh.mono fun p hp => .tail _ (.tail _ (.tail _ (.tail _ hp)))
      (refine Stop.out ?_; k_dflt (refine (spec_due w mean mg mb _ hA bs Hh2 _ _ _ _) _ _ _ _ _ _ _ _ _ _ _ _ _ _ _ _ _ (by k_asm) (by k_asm) (by k_asm) (by k_asm) (by k_asm) (by first | exact rfl | assumption) (by ktr_room) (by ktr_units) ?_); intro r2 led2 h2 tk2 F2 N2 P2)
      obtain ⟨hsub2, hdue⟩ := P2
      replace hdue : Due led2 (lastS st ps.dropLast) (ps.getLastD (Str.ofString "")) (dueOf bs (lastS st ps.dropLast) (ps.getLastD (Str.ofString ""))) r2 := hdue
      cases hd : dueOf bs (lastS st ps.dropLast) (ps.getLastD (Str.ofString "")) with
      | none =>
        rw [hd] at hdue hgo
        dsimp only at hgo
        obtain rfl : r2 = .none := hdue
        k_steps
        rename Fr _ _ _ _ => Fe
        rename News _ _ _ _ => Nw
        exact LEnd.intro Fe Nw ((lst, PySem.W.listOf vs 0) :: news) (hsub2 _ (.tail _ (.tail _ (.head _)))) (fun q hq => hsub2 q (.tail _ (.tail _ (.tail _ hq)))) hni ⟨_, _, (by funext y; simp only [← ovr_set_at]; rfl), rfl, hgo⟩
      | some d =>
        rw [hd] at hdue hgo
        dsimp only at hgo
        obtain ⟨⟨ra, rfl⟩, hr⟩ := hdue
        k_steps
        rename News h₀ _ _ _ => Nw
        refine hret _ _ _ _ (by assumption) Nw ⟨fun p hp => hsub2 p (.tail _ (.tail _ (.tail _ (.tail _ hp)))), ?_⟩
        rw [hgo]
        exact hr
    · intro m₁ news₁ h tk JZ F₁ N₁
      (try dsimp only)
      (try k_fold)
      obtain ⟨p1, p2, rfl, rfl, hgo⟩ := JZ
      have hvl := hvs.length
      rw [List.drop_of_length_le (by simp only [Array.length_toList] at hvl; omega)] at hgo
      k_steps
      rename News h₀ _ _ _ => Nw
      refine hret _ _ _ _ (by assumption) Nw ⟨fun p hp => .tail _ hp, ?_⟩
      rw [hgo]; rfl
end
section
open PySem PySem.W PyProof.Rows PySem.SeqAt
set_option Elab.async false
set_option maxRecDepth 100000

/-- commands of a namespace, and the book's line of them -/
inductive CmdsAre (w : World) (news : Led) (sx : Addr) : List (Str × Value) → List (Str × Value) → Prop
  | nil : CmdsAre w news sx [] []
  | cons {k : Str} {cx : Addr} {d : Int} {t : Tok} {cs kv : List (Str × Value)} : CmdIn w news cx sx k d → CmdsAre w news sx cs kv → CmdsAre w news sx ((k, .ref cx) :: cs) ((k, .int d t) :: kv)
theorem CmdsAre.mono {w : World} {news news' : Led} {sx : Addr} {cs kv : List (Str × Value)} (h : CmdsAre w news sx cs kv) (hs : ∀ p ∈ news, p ∈ news') : CmdsAre w news' sx cs kv := by
  induction h with
  | nil => exact .nil
  | cons a _ ih => exact .cons (a.mono hs) ih
theorem CmdsAre.keys {w : World} {news : Led} {sx : Addr} {cs kv : List (Str × Value)} (h : CmdsAre w news sx cs kv) : cs.map (·.1) = kv.map (·.1) := by
  induction h with
  | nil => rfl
  | cons _ _ ih => simp [ih]
theorem CmdsAre.ints {w : World} {news : Led} {sx : Addr} {cs kv : List (Str × Value)} (h : CmdsAre w news sx cs kv) : ∀ p ∈ kv, ∃ d t, p.2 = .int d t := by
  induction h with
  | nil => exact fun _ h => nomatch h
  | cons _ _ ih =>
    intro p hp
    rcases List.mem_cons.mp hp with rfl | hp
    · exact ⟨_, _, rfl⟩
    · exact ih p hp
theorem CmdsAre.item {w : World} {news : Led} {sx : Addr} {cs kv : List (Str × Value)} (h : CmdsAre w news sx cs kv) : ∀ (i : Nat) (k : Str) (v : Value), cs[i]? = some (k, v) → ∃ cx d t, v = .ref cx ∧ kv[i]? = some (k, .int d t) ∧ CmdIn w news cx sx k d := by
  induction h with
  | nil => intro i k v hv; simp at hv
  | @cons k cx d t cs kv hc _ ih =>
    intro i k' v hv
    cases i with
    | zero => simp at hv; obtain ⟨rfl, rfl⟩ := hv; exact ⟨cx, d, t, rfl, rfl, hc⟩
    | succ i => simp at hv; obtain ⟨cx, d, t, e1, e2, e3⟩ := ih i k' v hv; exact ⟨cx, d, t, e1, by simpa using e2, e3⟩
theorem CmdsAre.at {w : World} {news : Led} {sx : Addr} {cs kv : List (Str × Value)} (h : CmdsAre w news sx cs kv) (k : Str) : (valueAt cs k = none ∧ valueAt kv k = none) ∨ ∃ cx d t, valueAt cs k = some (.ref cx) ∧ valueAt kv k = some (.int d t) ∧ CmdIn w news cx sx k d := by
  induction h with
  | nil => exact .inl ⟨rfl, rfl⟩
  | @cons k' cx d t cs kv hc _ ih =>
    unfold valueAt at ih ⊢
    rw [List.find?_cons, List.find?_cons]
    by_cases e : k' = k
    · subst e; exact .inr ⟨cx, d, t, by simp, by simp, hc⟩
    · simp only [e, decide_false]; exact ih

/-- a namespace and the book's line of it -/
structure Match (w : World) (news : Led) (ns : List Nd) (nd : Nd) (b : Bn) : Prop where
  ex : StrsAre nd.exps.toList b.mks
  mv : StrsAre b.mv.toList b.mks
  mm : (b.ma, PySem.W.listOf b.mv b.km) ∈ news
  pr : RefsAre ns nd.path.toList b.pq
  cm : CmdsAre w news nd.x nd.cmds b.kv
  c4 : b.kv.length ≤ 4
structure Book (w : World) (news : Led) (ns : List Nd) (bs : List Bn) (hA mA pA : Addr) : Prop where
  held : HeldIn w news hA bs
  marks : DictIn w news mA (mkv bs)
  paths : PathsIn w news pA bs
  same : ns.map (·.pth) = bs.map (·.pth)
  mat : ∀ b ∈ bs, ∀ nd ∈ ns, nd.pth = b.pth → Match w news ns nd b
theorem PathsIn.mono {w : World} {news news' : Led} {pA : Addr} {bs : List Bn} (h : PathsIn w news pA bs) (hs : ∀ p ∈ news, p ∈ news') : PathsIn w news' pA bs :=
  ⟨h.out.mono fun p hp _ => hs p hp, fun b hb => ⟨hs _ (h.inn b hb).1, (h.inn b hb).2⟩⟩
theorem Match.mono {w : World} {news news' : Led} {ns : List Nd} {nd : Nd} {b : Bn} (h : Match w news ns nd b) (hs : ∀ p ∈ news, p ∈ news') : Match w news' ns nd b :=
  ⟨h.ex, h.mv, hs _ h.mm, h.pr, h.cm.mono hs, h.c4⟩
theorem Book.mono {w : World} {news news' : Led} {ns : List Nd} {bs : List Bn} {hA mA pA : Addr} (h : Book w news ns bs hA mA pA) (hs : ∀ p ∈ news, p ∈ news') : Book w news' ns bs hA mA pA :=
  ⟨h.held.mono hs, h.marks.mono fun p hp _ => hs p hp, h.paths.mono hs, h.same, fun b hb nd hn e => (h.mat b hb nd hn e).mono hs⟩

theorem empty_any {prog prog' : Program} {w w' : World} {o : Obj} (h : o.IsDictOf (PySem.strKind prog w) ([] : List (Str × Value))) : o.IsDictOf (PySem.strKind prog' w') ([] : List (Str × Value)) := by
  obtain ⟨es, ep, h1, h2, h3, h4, h5⟩ := h
  have e : es = #[] := by
    cases hes : es.toList with
    | nil => simpa using hes
    | cons x r => rw [hes] at h4; nomatch h4
  subst e
  exact ⟨#[], ep, h1, h2, fun e he => absurd he (by simp), .nil, h5⟩
section
variable {prog : Program} {w : World} {A : Around} {E : Value → Shared → Prop} {s : Shared} {h₀ : Heap} {L a b e e' v v' : Addr} {news : Led} {ov ov' : Obj} {D : PyData} {x : Str} {t u : Tok} {c c' : Nat} {Q : Value → Shared → Prop}
theorem rcAt_empty (N : News h₀ L s.heap news) (hv : (v, ov) ∈ news) (hd : ov.IsDictOf (PySem.strKind prog w) ([] : List (Str × Value))) (hv' : (v', ov') ∈ news) (hd' : ov'.IsDictOf (PySem.strKind prog w) ([] : List (Str × Value)))
    (lo : (v == sysModules) = false) (lo' : (v' == sysModules) = false) (hu : A.units < cLine) : RcAt A s (.ref v) (.ref v') true := fun prog' w' E Q h =>
  keq_eq (knd := PySem.strKind prog' w') (ka := []) (kb := []) (r := true) lo lo' (dictAt_of N hv (empty_any hd)) (dictAt_of N hv' (empty_any hd')) hu (fun _ => .nil) h
theorem ne_space (N : News h₀ L s.heap news) (ma : (a, ({ cls := .type "tuple", data := .seq #[.str x t, .ref e, .ref v, .bool false] c } : Obj)) ∈ news) (mb : (b, ({ cls := .type "tuple", data := .seq #[.str x u, .ref e', .ref v', .bool false] c' } : Obj)) ∈ news)
    (he : LR news (.ref e) D) (he' : LR news (.ref e') D) (hD : shaped D = true) (hv : (v, ov) ∈ news) (hd : ov.IsDictOf (PySem.strKind prog w) ([] : List (Str × Value))) (hv' : (v', ov') ∈ news) (hd' : ov'.IsDictOf (PySem.strKind prog w) ([] : List (Str × Value)))
    (lo : (v == sysModules) = false) (lo' : (v' == sysModules) = false) (hu : A.units + 80 < cLine) (h : Q (.bool false) s) : wpAny (model prog w) A (compareOp .NotEq (.ref a) (.ref b)) Q E s := by
  have hu1 : A.in1.units + 64 < cLine := by show A.units + 1 + 64 < cLine; omega
  refine RcNeAt.tuples (e := fun _ => true) ⟨_, (N _ ma).1, rfl, c, rfl⟩ ⟨_, (N _ mb).1, rfl, c', rfl⟩ (by omega) (fun j h1 h2 => ?_) prog w E Q h
  match j, h1, h2 with
  | 0, _, _ =>
    have := EqAt.str_str (A := A.in1) (s := s) x t x u
    simpa using this
  | 1, _, _ => exact eqAt_same N he he' hD hu1
  | 2, _, _ =>
    by_cases hvv : v = v'
    · subst hvv; exact EqAt.same _
    · exact EqAt.of_refs hvv (rcAt_empty N hv hd hv' hd' lo lo' (by omega))
  | 3, _, _ => exact EqAt.bool_bool false false
  | n + 4, h1, _ => exact absurd h1 (by simp)
end
end
section
open PySem PySem.W PyProof.Rows PySem.Calls
set_option Elab.async false
set_option maxRecDepth 100000
theorem bindL_ovr (k : Str → Option NameKind) : ∀ (b : List (Str × Value)) (l : List (Str × Option Value)), (b.all fun p => decide (k p.1 = some .local)) = true → bindL k b (ovr l) = ovr ((b.map fun p => (p.1, some p.2)).reverse ++ l)
  | [], l, _ => rfl
  | (n, v) :: r, l, h => by
    rw [List.all_cons, Bool.and_eq_true] at h
    have hk : k n = some .local := by simpa using h.1
    show bindL k r (if k n = some .local then fun y => if y = n then some v else ovr l y else ovr l) = _
    rw [if_pos hk]
    have := bindL_ovr k r ((n, some v) :: l) h.2
    rw [List.map_cons, List.reverse_cons, List.append_assoc]
    exact this
theorem ovr_none (ns : List Str) : (ovr (ns.map fun n => (n, none))) = fun _ => none := by
  funext y
  induction ns with
  | nil => rfl
  | cons n r ih =>
    show (if y = n then none else ovr (r.map fun n => (n, none)) y) = none
    rw [ih]; split <;> rfl
theorem fr_ovrC {h₀ h : Heap} {L : Addr} {k : Str → Option NameKind} {b : List (Str × Value)} (F : Fr h₀ L h (bindL k b fun _ => none)) (ns : List Str) (hk : (b.all fun p => decide (k p.1 = some .local)) = true) :
    Fr h₀ L h (ovr ((b.map fun p => (p.1, some p.2)).reverse ++ ns.map fun n => (n, none))) := by
  rw [← ovr_none ns, bindL_ovr k b _ hk] at F; exact F
section
variable {M : Model} {A : Around} {E : Value → Shared → Prop} {s : Shared} {h₀ : Heap} {L a c : Addr} {m : Str → Option Value} {cn : Str} {cs : Scope} {ccd : Value} {cl : List (Str × Addr)} {x : Str} {v : Value} {news : Led} {o : Obj} {v₀ : Option Value}
theorem cell_set {Q : Unit → Shared → Prop} {E : Value → Shared → Prop} (F : Fr h₀ L s.heap m) (N : News h₀ L s.heap news) (hc : cl.lookup x = some c) (hm : (c, o) ∈ news) (hd : o.data = .cell v₀)
    (h : ∀ h' o', Fr h₀ L h' m → News h₀ L h' (setL c o' news) → o'.data = .cell (some v) → Q () { s with heap := h' })
    (hk : cs.kind = .function := by rfl) (hx : (envX cn cs L a ccd cl).kindOf x = some .cell := by rfl) : wpAny M A (storeName (envX cn cs L a ccd cl) x v) Q E s :=
  storeX_C F (news_front N hm) hc (UpdF.head rest_off) hd (fun h' o' F' N' d' => h h' o' F' (news_unfront N') d') hk hx
end
end
section
open PySem PySem.W PyProof.Rows
set_option Elab.async false
set_option maxRecDepth 100000
set_option maxHeartbeats 4000000
theorem spec_command_in (w : World) (mean mg mb) (news : Led) (nd : Nd) (Hn : NdIn w news nd) (last : Str) (tl : Tok) :
    Spec w mean mg mb 99 2 16 news [.ref nd.x, .str last tl] (fun r news' => news' = news ∧ r = (valueAt nd.cmds last).getD .none) := by
  unfold Spec
  w_top off
  k_fill
  intro dp un gd cn cs a ccd cl outer A₀ base h₀ L m s Q E B F X N T hk hdp hu hret
  obtain ⟨hpZ, geZ, drZ, tkZ, osZ⟩ := s
  dsimp only at F N hret ⊢
  refine wpAny_call ?_
  k_dflt (refine' code_def (binds := [(Str.ofString "space", .ref nd.x), (Str.ofString "last", .str last tl)]) ?k1x8 ?k2x8 ?k3x8 ?k4x8 ?k5x8 ?kAx8 ?kFx8 ?kKx8 ?k6x8 ?k7x8 ?k8x8 ?k9x8 ?kBx8 ?_ ?c2x8 ?c3x8 ?c4x8 ?c5x8; (case kAx8 => exact rfl); (case kFx8 => exact rfl); (case kKx8 => assumption); (case k1x8 => k_asm); (case k2x8 => k_asm); (case k3x8 => k_asm); (case k4x8 => k_asm); (case k5x8 => k_asm); (case k6x8 => k_is); (case k7x8 => k_is); (case k8x8 => ktr_room); (case k9x8 => first | exact BindsTo.of_eq rfl | exact binds_K (by k_in) rfl (by k_is) rfl rfl rfl); (case c5x8 => decide); (case kBx8 => exact locs rfl); (case c2x8 => exact rfl); (case c3x8 => exact rfl); (case c4x8 => exact rfl); k_whole; intro g1 L1 h1 FG1 F1 N1 B1 X1 T1; (try dsimp only); (try k_fold))
  replace F1 : Fr g1 L1 h1 (ovr [(Str.ofString "last", some (.str last tl)), (Str.ofString "space", some (.ref nd.x))]) := fr_ovr F1 []
  obtain ⟨hx, hdd, _, ⟨⟨och, hoch, hich⟩, hchs⟩, _, _, _⟩ := Hn
  k_steps
  · rename_i dv hdv
    refine Stop.out ?_
    k_steps
    exact hret _ _ _ _ (by assumption) (by assumption) ⟨rfl, by rw [hdv]; rfl⟩
  · refine hret _ _ _ _ (by assumption) (by assumption) ⟨rfl, ?_⟩
    have hno : (valueAt nd.cmds last).isSome = false := by assumption
    cases hq : valueAt nd.cmds last with
    | none => rfl
    | some v => rw [hq] at hno; cases hno

theorem spec_full_name (w : World) (mean mg mb) (news : Led) (nd : Nd) (Hn : NdIn w news nd) (last : Str) (tl : Tok) (hl1 : (nmOf nd.pth).length ≤ 100000) (hl2 : last.length ≤ 100000) :
    Spec w mean mg mb 71 2 16 news [.ref nd.x, .str last tl] (fun r news' => news' = news ∧ ∃ t, r = .str (joinS (nmOf nd.pth) last) t) := by
  unfold Spec
  w_top off
  k_fill
  intro dp un gd cn cs a ccd cl outer A₀ base h₀ L m s Q E B F X N T hk hdp hu hret
  obtain ⟨hpZ, geZ, drZ, tkZ, osZ⟩ := s
  dsimp only at F N hret ⊢
  refine wpAny_call ?_
  k_dflt (refine' code_def (binds := [(Str.ofString "space", .ref nd.x), (Str.ofString "last", .str last tl)]) ?k1x9 ?k2x9 ?k3x9 ?k4x9 ?k5x9 ?kAx9 ?kFx9 ?kKx9 ?k6x9 ?k7x9 ?k8x9 ?k9x9 ?kBx9 ?_ ?c2x9 ?c3x9 ?c4x9 ?c5x9; (case kAx9 => exact rfl); (case kFx9 => exact rfl); (case kKx9 => assumption); (case k1x9 => k_asm); (case k2x9 => k_asm); (case k3x9 => k_asm); (case k4x9 => k_asm); (case k5x9 => k_asm); (case k6x9 => k_is); (case k7x9 => k_is); (case k8x9 => ktr_room); (case k9x9 => first | exact BindsTo.of_eq rfl | exact binds_K (by k_in) rfl (by k_is) rfl rfl rfl); (case c5x9 => decide); (case kBx9 => exact locs rfl); (case c2x9 => exact rfl); (case c3x9 => exact rfl); (case c4x9 => exact rfl); k_whole; intro g1 L1 h1 FG1 F1 N1 B1 X1 T1; (try dsimp only); (try k_fold))
  replace F1 : Fr g1 L1 h1 (ovr [(Str.ofString "last", some (.str last tl)), (Str.ofString "space", some (.ref nd.x))]) := fr_ovr F1 []
  obtain ⟨hx, hdd, _, _, _, _, _⟩ := Hn
  k_steps
  · have e : joinS (nmOf nd.pth) last = Str.ofString "::" ++ last := by
      unfold joinS; rw [if_pos (by simpa using ‹(nmOf nd.pth == Str.ofString "::") = true›)]
      rfl
    exact hret _ _ _ _ (by assumption) (by assumption) ⟨rfl, _, by rw [e]⟩
  · have e : joinS (nmOf nd.pth) last = nmOf nd.pth ++ Str.ofString "::" ++ last := by
      unfold joinS; rw [if_neg (by simpa using ‹(nmOf nd.pth == Str.ofString "::") = false›)]
    exact hret _ _ _ _ (by assumption) (by assumption) ⟨rfl, _, by rw [e]⟩
end
section
open PySem PySem.W PyProof.Rows PySem.Calls
set_option Elab.async false
set_option maxRecDepth 100000

theorem make_step {w : World} {news1 pre : Led} {ns1 : List Nd} {nd : Nd} {p : Str} (Rp1 : Rep w news1 ns1) (hnd : nd ∈ ns1) (hnoE : has ns1 (nd.pth ++ [p]) = false) (hpm : p ∈ menu) (hlen : ns1.length + 1 ≤ 100) (hdeep : nd.pth.length + 1 ≤ 50)
    {t2 : Tok} {x d ch cm vr ex pa : Addr} {ts : Nat → Tok} {och2 ocm2 ovr2 : Obj} (hi1 : och2.IsDictOf (SK w) []) (hi2 : ocm2.IsDictOf (SK w) []) (hi3 : ovr2.IsDictOf (SK w) []) (hs1 : (ch == sysModules) = false) (hs2 : (cm == sysModules) = false) (hs3 : (vr == sysModules) = false)
    (hlt : ∀ q ∈ pre ++ news1, @LT.lt Nat _ q.1 d) (o1 : @LT.lt Nat _ d x) (o2 : @LT.lt Nat _ x ch) (o3 : @LT.lt Nat _ ch cm) (o4 : @LT.lt Nat _ cm vr) (o5 : @LT.lt Nat _ vr ex) (o6 : @LT.lt Nat _ ex pa)
    {od' : Obj} (hod' : od'.IsDictOf (SK w) (stored nd.kids p (.ref x))) (hpre : ∀ q ∈ pre, @Ne Nat q.1 nd.ch) :
    ∃ (news2 : Led) (c : Nd), c.x = x ∧ c.pth = nd.pth ++ [p] ∧ (c.cmds = [] ∧ c.exps = #[] ∧ c.path = #[]) ∧ Rep w news2 (addKid ns1 nd p c) ∧
      (∀ q ∈ pre ++ news2, q ∈ setL nd.ch od' ((pa, PySem.W.listOf #[] 0) :: (ex, PySem.W.listOf #[] 0) :: (vr, ovr2) :: (cm, ocm2) :: (ch, och2) :: (x, instObj 31 d) :: (d, dictOf [ent w "name" (ts 0) (.str (joinS (nmOf nd.pth) p) t2), ent w "parent" (ts 1) (.ref nd.x), ent w "children" (ts 2) (.ref ch), ent w "commands" (ts 3) (.ref cm),
          ent w "vars" (ts 4) (.ref vr), ent w "exports" (ts 5) (.ref ex), ent w "path" (ts 6) (.ref pa), ent w "is_dead" (ts 7) (.bool false)] 8) :: (pre ++ news1))) ∧
      (nd.x, instObj 31 nd.d) ∈ news2 ∧ (nd.d, dictOf (nsEs w nd) 8) ∈ news2 ∧ (nd.ch, od') ∈ news2 ∧ (∀ q ∈ news1, q.1 ∉ ns1.flatMap Nd.addrs → q ∈ news2 ∧ q.1 ∉ (addKid ns1 nd p c).flatMap Nd.addrs) ∧
      (∀ q ∈ news2, (∃ r ∈ news1, r.1 = q.1) ∨ @LE.le Nat _ d q.1) := by
  have hNd := Rp1.node nd hnd
  obtain ⟨⟨och, hoch, hich⟩, hchs⟩ := hNd.hch
  have hcd : @LT.lt Nat _ nd.ch d := hlt (nd.ch, och) (List.mem_append_right _ hoch)
  have hces : dictOf (nsEs w ⟨nd.pth ++ [p], t2, x, d, ch, cm, vr, ex, pa, ts, .ref nd.x, [], [], #[], #[], 0, 0⟩) 8 = dictOf [ent w "name" (ts 0) (.str (joinS (nmOf nd.pth) p) t2), ent w "parent" (ts 1) (.ref nd.x), ent w "children" (ts 2) (.ref ch), ent w "commands" (ts 3) (.ref cm),
          ent w "vars" (ts 4) (.ref vr), ent w "exports" (ts 5) (.ref ex), ent w "path" (ts 6) (.ref pa), ent w "is_dead" (ts 7) (.bool false)] 8 := by
    rw [← nmOf_snoc]; rfl
  rw [← hces]
  generalize hc0 : (⟨nd.pth ++ [p], t2, x, d, ch, cm, vr, ex, pa, ts, .ref nd.x, [], [], #[], #[], 0, 0⟩ : Nd) = c
  have hcp : c.pth = nd.pth ++ [p] := by rw [← hc0]
  have ecx : c.x = x := by rw [← hc0]
  have ed : c.d = d := by rw [← hc0]
  have ech : c.ch = ch := by rw [← hc0]
  have ecm : c.cm = cm := by rw [← hc0]
  have evr : c.vr = vr := by rw [← hc0]
  have eex : c.ex = ex := by rw [← hc0]
  have epa : c.pa = pa := by rw [← hc0]
  have ek : c.kids = [] := by rw [← hc0]
  have ec : c.cmds = [] := by rw [← hc0]
  have ee : c.exps = #[] := by rw [← hc0]
  have ep : c.path = #[] := by rw [← hc0]
  have eke : c.ke = 0 := by rw [← hc0]
  have ekp : c.kp = 0 := by rw [← hc0]
  have epar : c.par = .ref nd.x := by rw [← hc0]
  have hca : c.addrs = [x, d, ch, cm, vr, ex, pa] := by rw [← hc0]; rfl
  clear hces
  clear hc0
  have hown := Rp1.tree.own hnd
  have own := OwnD.of hown
  let news2 : Led := (pa, PySem.W.listOf #[] 0) :: (ex, PySem.W.listOf #[] 0) :: (vr, ovr2) :: (cm, ocm2) :: (ch, och2) :: (x, instObj 31 d) :: (d, dictOf (nsEs w c) 8) :: setL nd.ch od' news1
  have hold : ∀ q ∈ news1, q.1 ≠ nd.ch → q ∈ news2 := fun q hq hn => .tail _ (.tail _ (.tail _ (.tail _ (.tail _ (.tail _ (.tail _ (setL_ne hq hn)))))))
  have hochN : (nd.ch, od') ∈ news2 := .tail _ (.tail _ (.tail _ (.tail _ (.tail _ (.tail _ (.tail _ (setL_self hoch)))))))
  have hbelow : ∀ a ∈ ns1.flatMap Nd.addrs, @LT.lt Nat _ a d := fun a ha => by
    obtain ⟨o, ho⟩ := Rp1.addr_mem a ha
    exact hlt (a, o) (List.mem_append_right _ ho)
  have habove : ∀ a ∈ c.addrs, @LE.le Nat _ d a := fun a ha => by
    rw [hca] at ha
    simp only [List.mem_cons, List.not_mem_nil, or_false] at ha
    rcases ha with e | e | e | e | e | e | e <;> (rw [e]; omega)
  have hadr : (ns1.flatMap Nd.addrs ++ c.addrs).Nodup := by
    rw [List.nodup_append]
    refine ⟨Rp1.tree.adr, ?_, fun a ha b hb e => ?_⟩
    · rw [hca]
      have zz : ∀ a b : Nat, a < b → ¬ a = b := fun a b h => Nat.ne_of_lt h
      have zy : ∀ a b : Nat, b < a → ¬ a = b := fun a b h => (Nat.ne_of_lt h).symm
      simp only [List.nodup_cons, List.mem_cons, List.not_mem_nil, or_false, not_or, not_false_eq_true, and_true, List.nodup_nil]
      refine ⟨⟨zy _ _ o1, zz _ _ o2, zz _ _ (by omega), zz _ _ (by omega), zz _ _ (by omega), zz _ _ (by omega)⟩, ⟨zz _ _ (by omega), zz _ _ (by omega), zz _ _ (by omega), zz _ _ (by omega), zz _ _ (by omega)⟩, ⟨zz _ _ (by omega), zz _ _ (by omega), zz _ _ (by omega), zz _ _ (by omega)⟩, ⟨zz _ _ (by omega), zz _ _ (by omega), zz _ _ (by omega)⟩, ⟨zz _ _ (by omega), zz _ _ (by omega)⟩, zz _ _ (by omega)⟩
    · have h1 := hbelow a ha
      have h2 := habove b hb
      rw [e] at h1
      exact absurd h1 (Nat.not_lt.mpr h2)
  have T2 : Tree (addKid ns1 nd p c) := Rp1.tree.addKid hnd hnoE hcp epar ek hpm hadr hlen hdeep
  have hcN : NdIn w news2 c := {
    hx := by rw [ecx, ed]; exact .tail _ (.tail _ (.tail _ (.tail _ (.tail _ (.head _)))))
    hd := by rw [ed]; exact .tail _ (.tail _ (.tail _ (.tail _ (.tail _ (.tail _ (.head _))))))
    hch := by rw [ech, ek]; exact ⟨⟨_, .tail _ (.tail _ (.tail _ (.tail _ (.head _)))), hi1⟩, hs1⟩
    hcm := by rw [ecm, ec]; exact ⟨⟨_, .tail _ (.tail _ (.tail _ (.head _))), hi2⟩, hs2⟩
    hvr := by rw [evr]; exact ⟨⟨_, .tail _ (.tail _ (.head _)), hi3⟩, hs3⟩
    hex := by rw [eex, ee, eke]; exact .tail _ (.head _)
    hpa := by rw [epa, ep, ekp]; exact .head _ }
  refine ⟨news2, c, ecx, hcp, ⟨ec, ee, ep⟩, Rp1.addKid hnd T2 hold (by rw [ecx]; exact ⟨⟨od', hochN, hod'⟩, hchs⟩) hcN, ?_, hold _ hNd.hx own.n2, hold _ hNd.hd own.n7, hochN, ?_, ?_⟩
  · intro q hq
    have en : ∀ a : Addr, @LE.le Nat _ d a → a ≠ nd.ch := fun a h e => by
      have h' : @LE.le Nat _ d a := h
      rw [e] at h'
      exact absurd hcd (Nat.not_lt.mpr h')
    rcases List.mem_append.mp hq with hq | hq
    · exact setL_ne (.tail _ (.tail _ (.tail _ (.tail _ (.tail _ (.tail _ (.tail _ (List.mem_append_left _ hq)))))))) (hpre q hq)
    · rcases List.mem_cons.mp hq with rfl | hq
      · exact setL_ne (.head _) (en _ (by omega))
      rcases List.mem_cons.mp hq with rfl | hq
      · exact setL_ne (.tail _ (.head _)) (en _ (by omega))
      rcases List.mem_cons.mp hq with rfl | hq
      · exact setL_ne (.tail _ (.tail _ (.head _))) (en _ (by omega))
      rcases List.mem_cons.mp hq with rfl | hq
      · exact setL_ne (.tail _ (.tail _ (.tail _ (.head _)))) (en _ (by omega))
      rcases List.mem_cons.mp hq with rfl | hq
      · exact setL_ne (.tail _ (.tail _ (.tail _ (.tail _ (.head _))))) (en _ (by omega))
      rcases List.mem_cons.mp hq with rfl | hq
      · exact setL_ne (.tail _ (.tail _ (.tail _ (.tail _ (.tail _ (.head _)))))) (en _ (by omega))
      rcases List.mem_cons.mp hq with rfl | hq
      · exact setL_ne (.tail _ (.tail _ (.tail _ (.tail _ (.tail _ (.tail _ (.head _))))))) (en _ (Nat.le_refl _))
      rcases setL_inv hq with rfl | ⟨hq, hn⟩
      · exact setL_self (.tail _ (.tail _ (.tail _ (.tail _ (.tail _ (.tail _ (.tail _ (List.mem_append_right _ hoch))))))))
      · exact setL_ne (.tail _ (.tail _ (.tail _ (.tail _ (.tail _ (.tail _ (.tail _ (List.mem_append_right _ hq)))))))) hn
  · intro q hq hqn
    refine ⟨hold q hq (fun e => hqn (by rw [e]; exact List.mem_flatMap.mpr ⟨nd, hnd, by first | exact Nd.mx _ | exact Nd.md _ | exact Nd.mch _ | exact Nd.mcm _ | exact Nd.mvr _ | exact Nd.mex _ | exact Nd.mpa _⟩)), ?_⟩
    rw [addKid_addrs, List.mem_append, not_or]
    refine ⟨hqn, fun hm => ?_⟩
    have h3 : @LT.lt Nat _ q.1 d := hlt q (List.mem_append_right _ hq)
    exact absurd h3 (Nat.not_lt.mpr (habove _ hm))
  · intro q hq
    rcases List.mem_cons.mp hq with rfl | hq
    · exact .inr (by dsimp only; omega)
    rcases List.mem_cons.mp hq with rfl | hq
    · exact .inr (by dsimp only; omega)
    rcases List.mem_cons.mp hq with rfl | hq
    · exact .inr (by dsimp only; omega)
    rcases List.mem_cons.mp hq with rfl | hq
    · exact .inr (by dsimp only; omega)
    rcases List.mem_cons.mp hq with rfl | hq
    · exact .inr (by dsimp only; omega)
    rcases List.mem_cons.mp hq with rfl | hq
    · exact .inr (by dsimp only; omega)
    rcases List.mem_cons.mp hq with rfl | hq
    · exact .inr (Nat.le_refl _)
    rcases setL_inv hq with rfl | ⟨hq, _⟩
    · exact .inl ⟨_, hoch, rfl⟩
    · exact .inl ⟨q, hq, rfl⟩
end
section
open PySem PySem.W PyProof.Rows
set_option Elab.async false
set_option maxRecDepth 100000
set_option maxHeartbeats 8000000
theorem nmOf_len (q : List Str) (h : ∀ p ∈ q, p ∈ menu) : (nmOf q).length ≤ 2 + 5 * q.length := by
  suffices H : ∀ (q : List Str) (a : Str), (∀ p ∈ q, p ∈ menu) → (q.foldl joinS a).length ≤ a.length + 5 * q.length by
    have h1 := H q (Str.ofString "::") h
    have h2 : (Str.ofString "::").length = 2 := by decide
    unfold nmOf; omega
  intro q
  induction q with
  | nil => intro a _; simp
  | cons p r ih =>
    intro a h
    have h1 := ih (joinS a p) fun x hx => h x (.tail _ hx)
    have h2 := joinS_len a p
    have h3 : p.length ≤ 3 := by
      have := h p (.head _)
      simp only [menu, List.mem_cons, List.not_mem_nil, or_false] at this
      rcases this with rfl | rfl | rfl | rfl <;> decide
    rw [List.foldl_cons, List.length_cons]
    omega
theorem spec_make_space (w : World) (mean mg mb) (news : Led) (ns : List Nd) (Rp : Rep w news ns) (rt hr : Nd) (hrt : rt ∈ ns) (hrt0 : rt.pth = []) (hhr : hr ∈ ns) (b : Str) (tb : Tok) (hb : b.length ≤ 1000) (R : List Str) (n₀ : Nat) (hR : NpRun b [] 0 (Txt.find b (Str.ofString "::")) R n₀) (hn0 : n₀ ≤ 50)
    (hRm : ∀ p ∈ R, p ≠ Str.ofString "" → p ∈ menu) (hlen : ns.length + R.length ≤ 100) (hdeep : ∀ nd ∈ ns, nd.pth.length + R.length ≤ 50) :
    Spec w mean mg mb 85 8 64 news [.ref rt.x, .ref hr.x, .str b tb] (fun r news' => ∃ ns' nd, Rep w news' ns' ∧ Grown ns ns' ∧ nd ∈ ns' ∧ r = .ref nd.x ∧
      (ns'.map (·.pth), nd.pth) = growP (ns.map (·.pth)) (if (Txt.find b (Str.ofString "::") == 0) = true then [] else hr.pth) R ∧ ∀ p ∈ news, p.1 ∉ ns.flatMap Nd.addrs → p ∈ news' ∧ p.1 ∉ ns'.flatMap Nd.addrs) := by
  unfold Spec
  w_top off
  k_fill
  intro dp un gd cn cs a ccd cl outer A₀ base h₀ L m s Q E B F X N T hk hdp hu hret
  obtain ⟨hpZ, geZ, drZ, tkZ, osZ⟩ := s
  dsimp only at F N hret ⊢
  refine wpAny_call ?_
  k_dflt (refine' code_def (binds := [(Str.ofString "root", .ref rt.x), (Str.ofString "here", .ref hr.x), (Str.ofString "name", .str b tb)]) ?k1x8 ?k2x8 ?k3x8 ?k4x8 ?k5x8 ?kAx8 ?kFx8 ?kKx8 ?k6x8 ?k7x8 ?k8x8 ?k9x8 ?kBx8 ?_ ?c2x8 ?c3x8 ?c4x8 ?c5x8; (case kAx8 => exact rfl); (case kFx8 => exact rfl); (case kKx8 => assumption); (case k1x8 => k_asm); (case k2x8 => k_asm); (case k3x8 => k_asm); (case k4x8 => k_asm); (case k5x8 => k_asm); (case k6x8 => k_is); (case k7x8 => k_is); (case k8x8 => ktr_room); (case k9x8 => first | exact BindsTo.of_eq rfl | exact binds_K (by k_in) rfl (by k_is) rfl rfl rfl); (case c5x8 => decide); (case kBx8 => exact locs rfl); (case c2x8 => exact rfl); (case c3x8 => exact rfl); (case c4x8 => exact rfl); k_whole; intro g1 L1 h1 FG1 F1 N1 B1 X1 T1; (try dsimp only); (try k_fold))
  replace F1 : Fr g1 L1 h1 (ovr [(Str.ofString "name", some (.str b tb)), (Str.ofString "here", some (.ref hr.x)), (Str.ofString "root", some (.ref rt.x)), (Str.ofString "parts", none), (Str.ofString "is_absolute", none), (Str.ofString "space", none), (Str.ofString "part", none)]) := fr_ovr F1 [Str.ofString "parts", Str.ofString "is_absolute", Str.ofString "space", Str.ofString "part"]
  k_steps
  (refine Stop.out ?_; k_dflt (refine (spec_np w mean mg mb _ b tb hb R n₀ hR hn0) _ _ _ _ _ _ _ _ _ _ _ _ _ _ _ _ _ (by k_asm) (by k_asm) (by k_asm) (by k_asm) (by k_asm) (by first | exact rfl | assumption) (by ktr_room) (by ktr_units) ?_); intro r2 led2 h2 tk2 F2 N2 P2)
  obtain ⟨t, l, us, k, rfl, rfl, hus, hlt1, hltl⟩ := P2
  obtain ⟨ab, hab⟩ : ∃ ab, ab = (Txt.find b (Str.ofString "::") == 0) := ⟨_, rfl⟩
  rw [← hab] at N2 hret
  obtain ⟨q0, hq0⟩ : ∃ q0, q0 = (if ab = true then [] else hr.pth) := ⟨_, rfl⟩
  rw [← hq0] at hret
  k_steps
  all_goals (
    have hsn : ∃ sn ∈ ns, sn.pth = q0 ∧ (ab = true → rt = sn) ∧ (ab = false → hr = sn) := by
      cases ab
      · exact ⟨hr, hhr, by simp [hq0], by simp, by simp⟩
      · exact ⟨rt, hrt, by simp [hq0, hrt0], by simp, by simp⟩
    obtain ⟨sn, hsn, hsnq, hsa, hsb⟩ := hsn
    first | (have hse := hsa (by assumption); subst hse) | (have hse := hsb (by assumption); subst hse)
    (refine Stop.out ?_; (rename Fr _ _ _ _ => Ffor); k_dflt (with_unfolding_all refine For_invVF Ffor (by exact rfl) (by exact rfl) ?_))
    k_steps
    refine Stop.out ?_
    rename Fr _ _ _ _ => Fld
    rename News _ _ _ _ => Nl
    have hltt : @LT.lt Nat _ l t := hlt1
    have hneq : @Ne Nat l t := by omega
    refine for_list (l := l) (vs := us) (fun i m nw => ∃ (ns1 : List Nd) (nd : Nd) (pv : Option Value) (news1 : Led), Rep w news1 ns1 ∧ Grown ns ns1 ∧ nd ∈ ns1 ∧ m = (ovr [(Str.ofString "name", some (.str b tb)), (Str.ofString "here", some (.ref hr.x)), (Str.ofString "root", some (.ref rt.x)), (Str.ofString "parts", some (.ref l)), (Str.ofString "is_absolute", some (.bool ab)), (Str.ofString "space", some (.ref nd.x)), (Str.ofString "part", pv)]) ∧ nw = (t, ({ cls := .type "tuple", data := .seq #[.ref l, .bool ab] } : Obj)) :: (l, PySem.W.listOf us k) :: news1 ∧ growP (ns.map (·.pth)) q0 R = growP (ns1.map (·.pth)) nd.pth (R.drop i) ∧
      ns1.length + (R.length - i) ≤ 100 ∧ (∀ n ∈ ns1, n.pth.length + (R.length - i) ≤ 50) ∧ (∀ p ∈ news, p.1 ∉ ns.flatMap Nd.addrs → p ∈ news1 ∧ p.1 ∉ ns1.flatMap Nd.addrs) ∧ (∀ p ∈ news1, (@Ne Nat p.1 t) ∧ (@Ne Nat p.1 l))) rfl (isList_of Nl (.tail _ (.head _))) (news_ne Nl (.tail _ (.head _))) Fld Nl ?_ ?_ ?_ ?_
    · exact .inr ⟨_, fun i m nw h => by obtain ⟨_, _, _, _, _, _, _, _, rfl, _⟩ := h; exact .tail _ (.head _)⟩
    · refine ⟨ns, _, none, news, Rp, .refl ns, hsn, (by funext y; simp only [← ovr_set_at]; rfl), rfl, by rw [← hsnq]; rfl, by omega, fun n hn => by have := hdeep n hn; omega, fun q hq hn => ⟨hq, hn⟩, fun q hq => ?_⟩
      have hh : @LT.lt Nat _ q.1 l := hltl q hq
      exact ⟨by omega, by omega⟩
    · intro i v m₁ news₁ h tk I ito hv JZ hne F₁ N₁
      (try dsimp only)
      (try k_fold)
      obtain ⟨ns1, nd, pv, news1, Rp1, Gr, hnd, rfl, rfl, hgo, hl1, hd1, hkeep, hoff⟩ := JZ
      have hiz : i < us.size := (Array.getElem?_eq_some_iff.mp hv).1
      have hul := hus.length
      simp only [Array.length_toList] at hul
      obtain ⟨p, tp, rfl, hss⟩ := hus.item i v (by simpa using hv)
      have hpm := hRm p (List.mem_of_getElem? hss)
      have hdr : R.drop i = p :: R.drop (i + 1) := by
        obtain ⟨hi, e⟩ := List.getElem?_eq_some_iff.mp hss
        rw [List.drop_eq_getElem_cons hi, e]
      rw [hdr] at hgo
      have hNd := Rp1.node nd hnd
      obtain ⟨hx, hdd, ⟨⟨och, hoch, hich⟩, hchs⟩, _, _, _, _⟩ := Rp1.node nd hnd
      have hkid := Rp1.tree.kidSome hnd p
      have hfew : nd.kids.length ≤ sizeLine := by have h1 := Rp1.tree.few nd hnd; have h2 := Rp1.tree.len; rw [sizeLine_eq]; omega
      have hNd' : NdIn w ((I, ito) :: (t, ({ cls := .type "tuple", data := .seq #[.ref l, .bool ab] } : Obj)) :: (l, PySem.W.listOf us k) :: news1) nd := hNd.mono (fun q hq _ => .tail _ (.tail _ (.tail _ hq)))
      k_steps
      · rename_i dv hdv
        obtain ⟨c, hc, hcp, rfl⟩ := (Rp1.tree.kid nd hnd p dv).mp hdv
        have hpe : p ≠ Str.ofString "" := by simpa using ‹(p != Str.ofString "") = true›
        refine Stop.out ?_
        k_steps
        rename Fr _ _ _ _ => Fe
        rename News _ _ _ _ => Nw
        refine LEnd.intro Fe Nw _ (.head _) (fun q hq => .tail _ hq) hne ⟨ns1, c, _, news1, Rp1, Gr, hc, (by funext y; simp only [← ovr_set_at]; rfl), rfl, ?_, by omega, fun n hn => by have := hd1 n hn; omega, hkeep, hoff⟩
        rw [hgo, growP, if_neg hpe, if_pos (has_mem.mp (by rw [← hkid]; assumption)), hcp]
      · have hpe : p ≠ Str.ofString "" := by simpa using ‹(p != Str.ofString "") = true›
        have hpm' := hpm hpe
        have hnl : (nmOf nd.pth).length ≤ 100000 := by
          have h1 := nmOf_len nd.pth (Rp1.tree.part nd hnd)
          have h2 := Rp1.tree.deep nd hnd
          omega
        have hpl : p.length ≤ 100000 := by
          simp only [menu, List.mem_cons, List.not_mem_nil, or_false] at hpm'
          rcases hpm' with e | e | e | e <;> rw [e] <;> decide
        have hnoE : has ns1 (nd.pth ++ [p]) = false := by rw [← hkid]; assumption
        (refine Stop.out ?_; k_dflt (refine (spec_full_name w mean mg mb _ nd hNd' p tp hnl hpl) _ _ _ _ _ _ _ _ _ _ _ _ _ _ _ _ _ (by k_asm) (by k_asm) (by k_asm) (by k_asm) (by k_asm) (by first | exact rfl | assumption) (by ktr_room) (by ktr_units) ?_); intro r2 led2 h2 tk2 F2 N2 P2)
        obtain ⟨rfl, t2, rfl⟩ := P2
        k_steps
        (refine Stop.out ?_; k_dflt (refine (spec_ns w mean mg mb _ (joinS (nmOf nd.pth) p) t2 (.ref nd.x)) _ _ _ _ _ _ _ _ _ _ _ _ _ _ _ _ _ (by k_asm) (by k_asm) (by k_asm) (by k_asm) (by k_asm) (by first | exact rfl | assumption) (by ktr_room) (by ktr_units) ?_); intro r2 led2 h2 tk2 F2 N2 P2)
        obtain ⟨x, d, ch, cm, vr, ex, pa, ts, och2, ocm2, ovr2, rfl, rfl, hi1, hi2, hi3, hs1, hs2, hs3, hlt, o1, o2, o3, o4, o5, o6⟩ := P2
        k_steps
        rename_i _ od' _ _ hod'
        refine Stop.out ?_
        rename Fr _ _ _ _ => Fe
        rename News _ _ _ _ => Ns
        have hIch : @Ne Nat nd.ch I := hne (nd.ch, och) (.tail _ (.tail _ hoch))
        have hoch2 := hoff (nd.ch, och) hoch
        have htch : @Ne Nat nd.ch t := hoch2.1
        have hlch : @Ne Nat nd.ch l := hoch2.2
        have hcd : @LT.lt Nat _ nd.ch d := hlt (nd.ch, och) (.tail _ (.tail _ (.tail _ hoch)))
        have htd : @LT.lt Nat _ t d := hlt (t, _) (.tail _ (.head _))
        have hld : @LT.lt Nat _ l d := hlt (l, _) (.tail _ (.tail _ (.head _)))
        have hpre : ∀ q ∈ ([(I, ito), (t, ({ cls := .type "tuple", data := .seq #[.ref l, .bool ab] } : Obj)), (l, PySem.W.listOf us k)] : Led), @Ne Nat q.1 nd.ch := by
          intro q hq
          simp only [List.mem_cons, List.not_mem_nil, or_false] at hq
          rcases hq with e | e | e
          · rw [e]; exact fun e => hIch e.symm
          · rw [e]; exact fun e => htch e.symm
          · rw [e]; exact fun e => hlch e.symm
        obtain ⟨news2, c, ecx, hcp, hcb, Rp2, hsub, hxN, hddN, hochN, hkeep2, hnew⟩ := make_step (pre := [(I, ito), (t, ({ cls := .type "tuple", data := .seq #[.ref l, .bool ab] } : Obj)), (l, PySem.W.listOf us k)]) Rp1 hnd hnoE hpm' (by omega) (by have := hd1 nd hnd; omega) hi1 hi2 hi3 hs1 hs2 hs3 hlt o1 o2 o3 o4 o5 o6 hod' hpre (t2 := t2) (ts := ts)
        have Nw : News _ _ _ ((I, ito) :: (t, ({ cls := .type "tuple", data := .seq #[.ref l, .bool ab] } : Obj)) :: (l, PySem.W.listOf us k) :: news2) := news_sub Ns hsub
        clear Ns hsub
        have hId : @LT.lt Nat _ I d := hlt (I, ito) (.head _)
        have hoff2 : ∀ q ∈ news2, (@Ne Nat q.1 t) ∧ (@Ne Nat q.1 l) := by
          intro q hq
          rcases hnew q hq with ⟨r, hr1, hr2⟩ | h
          · rw [← hr2]; exact hoff r hr1
          · exact ⟨by omega, by omega⟩
        have hne2 : ∀ q ∈ (t, ({ cls := .type "tuple", data := .seq #[.ref l, .bool ab] } : Obj)) :: (l, PySem.W.listOf us k) :: news2, q.1 ≠ I := by
          intro q hq
          rcases List.mem_cons.mp hq with e | hq
          · rw [e]; exact hne _ (.head _)
          rcases List.mem_cons.mp hq with e | hq
          · rw [e]; exact hne (l, PySem.W.listOf us k) (.tail _ (.head _))
          rcases hnew q hq with ⟨r, hr1, hr2⟩ | h
          · rw [← hr2]; exact hne r (.tail _ (.tail _ hr1))
          · intro e; rw [e] at h; exact absurd hId (Nat.not_lt.mpr h)
        have hsome : (valueAt (stored nd.kids p (.ref x)) p).isSome = true := by rw [valueAt_stored', if_pos rfl]; rfl
        k_steps
        rename_i dv hdv
        rw [valueAt_stored', if_pos rfl] at hdv
        obtain rfl := Option.some.inj hdv
        refine Stop.out ?_
        k_steps
        rename Fr _ _ _ _ => Fe
        rename News _ _ _ _ => Nw
        rw [← ecx] at Fe
        refine LEnd.intro Fe Nw _ (.head _) (fun q hq => .tail _ hq) hne2 ⟨addKid ns1 nd p c, c, _, news2, Rp2, Gr.addKid nd p hcb, mem_addKid.mpr (.inr rfl), (by funext y; simp only [← ovr_set_at]; rfl), rfl, ?_, ?_, ?_, ?_, hoff2⟩
        · rw [hgo, growP, if_neg hpe, if_neg (fun hm => by rw [has_mem.mpr hm] at hnoE; cases hnoE), addKid_pths, hcp]
        · have : (addKid ns1 nd p c).length = ns1.length + 1 := by unfold addKid; simp
          omega
        · intro n hn
          rcases mem_addKid.mp hn with ⟨n₀, hn₀, rfl⟩ | rfl
          · rw [setKid_pth]; have := hd1 n₀ hn₀; omega
          · rw [hcp]; have := hd1 nd hnd; simp; omega
        · intro q hq hqn
          obtain ⟨h1, h2⟩ := hkeep q hq hqn
          exact hkeep2 q h1 h2
      · have hpe : p = Str.ofString "" := by simpa using ‹(p != Str.ofString "") = false›
        rename Fr _ _ _ _ => Fe
        rename News _ _ _ _ => Nw
        refine LEnd.intro Fe Nw _ (.head _) (fun q hq => .tail _ hq) hne ⟨ns1, nd, _, news1, Rp1, Gr, hnd, (by funext y; simp only [← ovr_set_at]; rfl), rfl, ?_, by omega, fun n hn => by have := hd1 n hn; omega, hkeep, hoff⟩
        rw [hgo, growP, if_pos hpe]
    · intro m₁ news₁ h tk JZ F₁ N₁
      (try dsimp only)
      (try k_fold)
      obtain ⟨ns1, nd, pv, news1, Rp1, Gr, hnd, rfl, rfl, hgo, hl1, hd1, hkeep, hoff⟩ := JZ
      have hul := hus.length
      rw [List.drop_of_length_le (by simp only [Array.length_toList] at hul; omega)] at hgo
      k_steps
      rename News _ _ _ _ => Ne
      exact hret _ _ _ _ (by assumption) (news_sub Ne (fun q hq => .tail _ (.tail _ hq))) ⟨ns1, nd, Rp1, Gr, hnd, rfl, hgo.symm, hkeep⟩)
end
section
open PySem PySem.W PyProof.Rows
set_option Elab.async false
set_option maxRecDepth 100000
set_option maxHeartbeats 8000000
local macro_rules | `(tactic| walk_at "call builtin:list.append") => `(tactic| refine Stop.mk ?_)
local macro_rules | `(tactic| walk_at "call builtin:list.pop") => `(tactic| refine Stop.mk ?_)
local macro_rules | `(tactic| walk_at "truthy ref") => `(tactic| refine Stop.mk ?_)
theorem strs_snoc {vs : List Value} {ss : List Str} {x : Str} (h : StrsAre vs (ss ++ [x])) : ∃ us t, vs = us ++ [.str x t] ∧ StrsAre us ss := by
  induction ss generalizing vs with
  | nil =>
    cases h with
    | cons _ t h => cases h; exact ⟨[], t, rfl, .nil⟩
  | cons a r ih =>
    cases h with
    | cons _ t h =>
      obtain ⟨us, t', rfl, hu⟩ := ih h
      exact ⟨_ :: us, t', rfl, .cons _ _ hu⟩
theorem spec_tree (w : World) (mean mg mb) (news : Led) (ns : List Nd) (Rp : Rep w news ns) (rt : Nd) (hrt : rt ∈ ns) (hrt0 : rt.pth = []) :
    Spec w mean mg mb 146 3 24 news [.ref rt.x] (fun r news' => ∃ td o D, r = .ref td ∧ news' = (td, o) :: news ∧ o.IsDictOf (SK w) (tkv ns D) ∧ (td == sysModules) = false ∧ (∀ p ∈ news, p.1 < td) ∧ D.Nodup ∧ ∀ q, q ∈ D ↔ has ns q = true) := by
  unfold Spec
  w_top off
  k_fill
  intro dp un gd cn cs a ccd cl outer A₀ base h₀ L m s Q E B F X N T hk hdp hu hret
  obtain ⟨hpZ, geZ, drZ, tkZ, osZ⟩ := s
  dsimp only at F N hret ⊢
  refine wpAny_call ?_
  k_dflt (refine' code_def (binds := [(Str.ofString "root", .ref rt.x)]) ?k1x8 ?k2x8 ?k3x8 ?k4x8 ?k5x8 ?kAx8 ?kFx8 ?kKx8 ?k6x8 ?k7x8 ?k8x8 ?k9x8 ?kBx8 ?_ ?c2x8 ?c3x8 ?c4x8 ?c5x8; (case kAx8 => exact rfl); (case kFx8 => exact rfl); (case kKx8 => assumption); (case k1x8 => k_asm); (case k2x8 => k_asm); (case k3x8 => k_asm); (case k4x8 => k_asm); (case k5x8 => k_asm); (case k6x8 => k_is); (case k7x8 => k_is); (case k8x8 => ktr_room); (case k9x8 => first | exact BindsTo.of_eq rfl | exact binds_K (by k_in) rfl (by k_is) rfl rfl rfl); (case c5x8 => decide); (case kBx8 => exact locs rfl); (case c2x8 => exact rfl); (case c3x8 => exact rfl); (case c4x8 => exact rfl); k_whole; intro g1 L1 h1 FG1 F1 N1 B1 X1 T1; (try dsimp only); (try k_fold))
  replace F1 : Fr g1 L1 h1 (ovr [(Str.ofString "root", some (.ref rt.x)), (Str.ofString "tree", none), (Str.ofString "waiting", none), (Str.ofString "name", none), (Str.ofString "part", none), (Str.ofString "below", none)]) := fr_ovr F1 [Str.ofString "tree", Str.ofString "waiting", Str.ofString "name", Str.ofString "part", Str.ofString "below"]
  k_steps
  rename Fr _ _ _ _ => Fl0
  rename News _ _ _ _ => Nl0
  rename Obj.IsDictOf _ _ _ => hd0
  rename (_ ∧ AllLt _ _) => hlw0
  rename (_ == sysModules) = false => hts0
  rename (∀ p ∈ news, _) => hlt0
  obtain ⟨td, o, wl, t0, Nl, Fl, hdo, hts, htn, hwn, htw⟩ : ∃ (td : Addr) (o : Obj) (wl : Addr) (t0 : Tok), News _ _ _ ((wl, PySem.W.listOf #[.str (nmOf []) t0] 0) :: (td, o) :: news) ∧ Fr _ _ _ (ovr [(Str.ofString "root", some (.ref rt.x)), (Str.ofString "tree", some (.ref td)), (Str.ofString "waiting", some (.ref wl)), (Str.ofString "name", none), (Str.ofString "part", none), (Str.ofString "below", none)]) ∧ o.IsDictOf (SK w) (tkv ns [[]]) ∧ (td == sysModules) = false ∧ (∀ p ∈ news, p.1 < td) ∧ (∀ p ∈ news, p.1 < wl) ∧ td < wl :=
    ⟨_, _, _, _, Nl0, fr_eq Fl0 (by funext y; simp only [← ovr_set_at]; rfl), by (have e : tkv ns [[]] = [(Str.ofString "::", .ref rt.x)] := by (unfold tkv; rw [List.map_cons, ← hrt0, Rp.tree.xAt hrt, hrt0]; rfl)); rw [e]; exact hd0, hts0, hlt0, ktn_ltOf hlw0.2, hlw0.1⟩
  clear Fl0 Nl0 hd0 hlw0 hts0 hlt0
  refine Stop.out ?_
  have hntd : ∀ p ∈ news, p.1 ≠ td := fun p hp => Nat.ne_of_lt (htn p hp)
  have hnwl : ∀ p ∈ news, p.1 ≠ wl := fun p hp => Nat.ne_of_lt (hwn p hp)
  have htw' : @Ne Nat td wl := Nat.ne_of_lt htw
  refine While_inv (fun n m nw => ∃ (D W : List (List Str)) (o : Obj) (us : List Value) (k : Nat) (p1 p2 p3 : Option Value), Dfs ns D W ∧ m = (ovr [(Str.ofString "root", some (.ref rt.x)), (Str.ofString "tree", some (.ref td)), (Str.ofString "waiting", some (.ref wl)), (Str.ofString "name", p1), (Str.ofString "part", p2), (Str.ofString "below", p3)]) ∧ nw = (wl, PySem.W.listOf us.toArray k) :: (td, o) :: news ∧ o.IsDictOf (SK w) (tkv ns D) ∧ StrsAre us (W.map nmOf) ∧ n = 2 * (100 - D.length) + W.length) (n₀ := 199) Fl Nl ?_ ?_
  · exact ⟨[[]], [[]], o, [_], 0, none, none, none, .start Rp.tree, rfl, rfl, hdo, .cons _ _ .nil, rfl⟩
  · intro n m₁ news₁ h1 tk1 F1 N1 JZ
    (try dsimp only)
    (try k_fold)
    obtain ⟨D, W, o, us, k, p1, p2, p3, hdfs, rfl, rfl, hdo, hus, rfl⟩ := JZ
    clear Fl Nl
    have hDl := hdfs.len
    have hnl := Rp.tree.len
    have hWl : W.length ≤ D.length := nodup_len hdfs.wnd hdfs.wsub
    rcases List.eq_nil_or_concat W with hW | ⟨W0, u, hW⟩
    · subst hW
      cases hus
      k_steps
      refine Stop.out ?_
      rename News _ _ _ _ => Nt
      k_dflt (refine kgr_truthy (vs := []) Nt (.head _) rfl rfl (by decide) ?_)
      k_steps
      rename News h₀ _ _ _ => Nw
      exact hret _ _ _ _ (by assumption) (news_sub Nw (fun q hq => .tail _ hq)) ⟨td, o, D, rfl, rfl, hdo, hts, htn, hdfs.nd, hdfs.all Rp.tree⟩
    · rw [List.concat_eq_append] at hW
      subst hW
      rw [List.map_append] at hus
      obtain ⟨us0, tu, rfl, hus0⟩ : ∃ us0 tu, us = us0 ++ [.str (nmOf u) tu] ∧ StrsAre us0 (W0.map nmOf) := strs_snoc hus
      have huD : u ∈ D := hdfs.wsub u (by simp)
      obtain ⟨nd, hnd, hndu⟩ := has_iff.mp (hdfs.sub u huD)
      subst hndu
      obtain ⟨hx, hdd, ⟨⟨och, hoch, hich⟩, hchs⟩, _, _, _, _⟩ := Rp.node nd hnd
      have hu0l := hus0.length
      simp only [List.length_append, List.length_map, List.length_cons, List.length_nil] at hWl hu0l
      have hne0 : (us0 ++ [Value.str (nmOf nd.pth) tu]).toArray.size ≠ 0 := by simp
      have hfit : (us0 ++ [Value.str (nmOf nd.pth) tu]).length < 2 ^ 62 := by rw [List.length_append]; simp only [List.length_cons, List.length_nil]; omega
      have hkz : us0.length + 1 ≤ sizeLine := by rw [sizeLine_eq]; omega
      have hemp : (!(us0 ++ [Value.str (nmOf nd.pth) tu]).isEmpty) = true := by simp
      k_steps
      refine Stop.out ?_
      rename News _ _ _ _ => Nt
      k_dflt (refine kgr_truthy (vs := us0 ++ [Value.str (nmOf nd.pth) tu]) Nt (.head _) rfl rfl hfit ?_)
      rw [hemp]
      k_steps
      refine Stop.out ?_
      rename Fr _ _ _ _ => Fp
      rename News _ _ _ _ => Np
      k_dflt (refine list_pop Fp Np (.head _) hkz ?_)
      intro h2 F2 N2
      replace N2 := news_eq N2 (setL_mid (pre := []) (by simp) (by intro p hp; rcases List.mem_cons.mp hp with e | hp; (rw [e]; exact htw'); exact hnwl p hp))
      have hpm := Rp.tree.part nd hnd
      have hval : valueAt (tkv ns D) (nmOf nd.pth) = some (.ref nd.x) := by rw [valueAt_tkv Rp.tree hdfs.sub hpm, if_pos huD, Rp.tree.xAt hnd]
      have hsome : (valueAt (tkv ns D) (nmOf nd.pth)).isSome = true := by rw [hval]; rfl
      k_steps
      (refine Stop.out ?_; (rename Fr _ _ _ _ => Ffor); k_dflt (with_unfolding_all refine For_invVF Ffor (by exact rfl) (by exact rfl) ?_))
      k_steps
      rename_i dv hdv
      obtain rfl := Option.some.inj (hdv.symm.trans hval)
      refine Stop.out ?_
      k_steps
      refine Stop.out ?_
      rename Fr _ _ _ _ => Fld
      rename News _ _ _ _ => Nl
      have hknd : (nd.kids.map (·.1)).Nodup := by obtain ⟨_, _, _, _, _, _, hn⟩ := hich; exact hn
      obtain ⟨K, hK⟩ : ∃ K, K = nd.kids.map fun kv => nd.pth ++ [kv.1] := ⟨_, rfl⟩
      have hKn : K.Nodup := by rw [hK]; exact nodup_kids hknd
      have hKm : ∀ q, q ∈ K ↔ ∃ p, q = nd.pth ++ [p] ∧ has ns q = true := by rw [hK]; exact kids_mem Rp.tree hnd
      have hKl : K.length = nd.kids.length := by rw [hK, List.length_map]
      have hstep := hdfs.step hKn hKm
      have hstepl := hstep.len
      rw [List.length_append] at hstepl
      have hchE : DictIn w news nd.ch nd.kids := ⟨⟨och, hoch, hich⟩, hchs⟩
      have hmch : (nd.ch, och) ∈ (wl, PySem.W.listOf us0.toArray (k + 1)) :: (td, o) :: news := .tail _ (.tail _ hoch)
      have hnch := hntd (nd.ch, och) hoch
      have hwch := hnwl (nd.ch, och) hoch
      refine for_dict (d := nd.ch) (knd := SK w) (kvs := nd.kids) (fun i m nw => ∃ (o : Obj) (us : List Value) (k : Nat) (p2 p3 : Option Value), m = (ovr [(Str.ofString "root", some (.ref rt.x)), (Str.ofString "tree", some (.ref td)), (Str.ofString "waiting", some (.ref wl)), (Str.ofString "name", some (.str (nmOf nd.pth) tu)), (Str.ofString "part", p2), (Str.ofString "below", p3)]) ∧ nw = (wl, PySem.W.listOf us.toArray k) :: (td, o) :: news ∧ o.IsDictOf (SK w) (tkv ns (D ++ K.take i)) ∧ StrsAre us ((W0 ++ K.take i).map nmOf)) rfl hchs (dictAt_of Nl hmch hich) (news_ne Nl hmch) Fld Nl ?_ ?_ ?_ ?_
      · exact .inr ⟨_, fun i m nw h => by obtain ⟨_, _, _, _, _, _, rfl, _⟩ := h; exact .tail _ (.tail _ hoch)⟩
      · exact ⟨o, us0, k + 1, _, _, (by funext y; simp only [← ovr_set_at]; rfl), rfl, by simpa using hdo, by simpa using hus0⟩
      · intro i kk y v m₁ news₁ h tk I ito hkv hkey JZ hne F₁ N₁
        (try dsimp only)
        (try k_fold)
        obtain ⟨o, us, k, p2, p3, rfl, rfl, hdo, hus⟩ := JZ
        obtain ⟨tk2, rfl⟩ := PySem.Value.isStrOf_shape hkey
        clear Fld Nl
        obtain ⟨hil, hkg⟩ := List.getElem?_eq_some_iff.mp hkv
        have hkmem : (kk, y) ∈ nd.kids := List.mem_of_getElem? hkv
        have hks : (valueAt nd.kids kk).isSome = true := isSome_mem.mpr ⟨y, hkmem⟩
        have hasq : has ns (nd.pth ++ [kk]) = true := by rw [← Rp.tree.kidSome hnd]; exact hks
        have hKi : K[i]? = some (nd.pth ++ [kk]) := by rw [hK, List.getElem?_map, hkv]; rfl
        have htake : K.take (i + 1) = K.take i ++ [nd.pth ++ [kk]] := by rw [List.take_add_one, hKi]; rfl
        have hsubI : ∀ q ∈ D ++ K.take i, has ns q = true := by
          intro q hq
          rcases List.mem_append.mp hq with hq | hq
          · exact hdfs.sub q hq
          · obtain ⟨_, _, hh⟩ := (hKm q).mp (List.mem_of_mem_take hq); exact hh
        have hvalI : valueAt (tkv ns (D ++ K.take i)) (nmOf nd.pth) = some (.ref nd.x) := by
          rw [valueAt_tkv Rp.tree hsubI hpm, if_pos (List.mem_append_left _ huD), Rp.tree.xAt hnd]
        have hsomeI : (valueAt (tkv ns (D ++ K.take i)) (nmOf nd.pth)).isSome = true := by rw [hvalI]; rfl
        have hnewI : nd.pth ++ [kk] ∉ D ++ K.take i := by
          intro hq
          rcases List.mem_append.mp hq with hq | hq
          · exact (hdfs.par _ _ hq).2 (by simp)
          · have hn2 := hKn
            rw [← List.take_append_drop (i + 1) K, htake, List.append_assoc, List.nodup_append] at hn2
            exact hn2.2.2 _ hq _ (by simp) rfl
        have hnewV : valueAt (tkv ns (D ++ K.take i)) (joinS (nmOf nd.pth) kk) = none := by
          rw [← nmOf_snoc, valueAt_tkv Rp.tree hsubI (Rp.tree.menu hasq), if_neg hnewI]
        have hlenI : (tkv ns (D ++ K.take i)).length ≤ sizeLine := by
          unfold tkv
          rw [sizeLine_eq, List.length_map, List.length_append, List.length_take]
          omega
        have hc1 : (nmOf nd.pth).length ≤ 1000000 := by
          have h1 := nmOf_len nd.pth hpm
          have h2 := Rp.tree.deep nd hnd
          omega
        have hkk : kk ∈ Np.menu := Rp.tree.menu hasq kk (by simp)
        have hc2 : kk.length ≤ 1000000 := by
          simp only [Np.menu, List.mem_cons, List.not_mem_nil, or_false] at hkk
          rcases hkk with e | e | e | e <;> rw [e] <;> decide
        have hul := hus.length
        simp only [List.length_map, List.length_append, List.length_take] at hul
        have huz : us.toArray.size ≤ sizeLine := by rw [sizeLine_eq, List.size_toArray]; omega
        have hIwl : @Ne Nat wl I := hne (wl, _) (.head _)
        have hItd : @Ne Nat td I := hne (td, _) (.tail _ (.head _))
        k_steps
        (refine Stop.out ?_; k_dflt (refine (spec_join w mean mg mb _ (nmOf nd.pth) kk tu tk2 hc1 hc2) _ _ _ _ _ _ _ _ _ _ _ _ _ _ _ _ _ (by k_asm) (by k_asm) (by k_asm) (by k_asm) (by k_asm) (by first | exact rfl | assumption) (by ktr_room) (by ktr_units) ?_); intro r2 led2 h2 tk2 F2 N2 P2)
        obtain ⟨rfl, t2, rfl⟩ := P2
        k_steps
        rename_i dv hdv
        obtain rfl := Option.some.inj (hdv.symm.trans hvalI)
        refine Stop.out ?_
        k_steps
        rename_i dv hdv
        obtain ⟨c, hc, hcp, rfl⟩ := (Rp.tree.kid nd hnd kk dv).mp hdv
        refine Stop.out ?_
        k_steps
        rename_i _ od' _ Ns hod'
        refine Stop.out ?_
        replace Ns := news_eq Ns (setL_mid (pre := [(I, ito), (wl, PySem.W.listOf us.toArray k)]) (by intro p hp; simp only [List.mem_cons, List.not_mem_nil, or_false] at hp; rcases hp with e | e <;> (rw [e]; first | exact fun e => hItd e.symm | exact fun e => htw' e.symm)) hntd)
        rw [stored_new hnewV] at hod'
        k_steps
        refine Stop.out ?_
        rename Fr _ _ _ _ => Fa
        rename News _ _ _ _ => Na
        k_dflt (refine list_append Fa Na (.tail _ (.head _)) ?_ huz)
        intro h4 F4 N4
        replace N4 := news_eq N4 (setL_mid (pre := [(I, ito)]) (by intro p hp; rw [List.mem_singleton.mp hp]; exact fun e => hIwl e.symm) (by intro p hp; rcases List.mem_cons.mp hp with e | hp; (rw [e]; exact htw'); exact hnwl p hp))
        k_steps
        rename Fr _ _ _ _ => Fe
        rename News _ _ _ _ => Nw
        refine LEnd.intro Fe Nw ((wl, PySem.W.listOf (us ++ [Value.str (joinS (nmOf nd.pth) kk) t2]).toArray (k + 1)) :: (td, od') :: news) (.head _) (fun q hq => ?_) (fun q hq => ?_) ⟨od', us ++ [Value.str (joinS (nmOf nd.pth) kk) t2], k + 1, _, _, (by funext y; simp only [← ovr_set_at]; rfl), rfl, ?_, ?_⟩
        · rcases List.mem_cons.mp hq with e | hq
          · rw [e]; simp
          · exact .tail _ (.tail _ hq)
        · rcases List.mem_cons.mp hq with e | hq
          · rw [e]; exact hIwl
          · rcases List.mem_cons.mp hq with e | hq
            · rw [e]; exact hItd
            · exact hne q (.tail _ (.tail _ hq))
        · rw [htake, ← List.append_assoc]
          have e : tkv ns (D ++ List.take i K ++ [nd.pth ++ [kk]]) = tkv ns (D ++ List.take i K) ++ [(joinS (nmOf nd.pth) kk, .ref c.x)] := by
            unfold tkv
            rw [List.map_append, List.map_singleton, nmOf_snoc, ← hcp, Rp.tree.xAt hc]
          rw [e]; exact hod'
        · rw [htake, ← List.append_assoc, List.map_append, List.map_singleton, nmOf_snoc]
          exact hus.append' (.cons _ _ .nil)
      · intro m₁ news₁ h tk JZ F₁ N₁
        (try dsimp only)
        (try k_fold)
        obtain ⟨o, us, k, p2, p3, rfl, rfl, hdo, hus⟩ := JZ
        rw [← hKl, List.take_length] at hdo hus
        k_steps
        rename Fr _ _ _ _ => Fe
        rename News _ _ _ _ => Nw
        exact WhileStep.intro Fe Nw (n' := 2 * (100 - (D ++ K).length) + (W0 ++ K).length) (by simp only [List.length_append, List.length_cons, List.length_nil]; omega) ⟨D ++ K, W0 ++ K, o, us, k, _, _, _, hstep, rfl, rfl, hdo, hus, rfl⟩
end
section
open PySem PySem.W PyProof.Rows PySem.Calls PySem.SeqAt
set_option Elab.async false
set_option maxRecDepth 100000
/-- the names of the tree, as a dict of them all -/
structure TreeD (w : World) (news : Led) (ns : List Nd) (td : Addr) : Prop where
  at' : ∃ o D, (td, o) ∈ news ∧ o.IsDictOf (SK w) (tkv ns D) ∧ D.Nodup ∧ ∀ q, q ∈ D ↔ has ns q = true
  lo : (td == sysModules) = false
theorem TreeD.mono {w : World} {news news' : Led} {ns : List Nd} {td : Addr} (h : TreeD w news ns td) (hs : ∀ p ∈ news, p.1 = td → p ∈ news') : TreeD w news' ns td :=
  let ⟨⟨o, D, a, b⟩, lo⟩ := h; ⟨⟨o, D, hs _ a rfl, b⟩, lo⟩
theorem canAll {ss : List PyData} (h : ∀ x ∈ ss, x.canLay0 = true) : PyData.canLayAll0 ss = true := by
  induction ss with
  | nil => rfl
  | cons x r ih =>
    show (x.canLay0 && PyData.canLayAll0 r) = true
    rw [h x (.head _), ih fun y hy => h y (.tail _ hy)]; rfl
theorem depAll {ss : List PyData} {k : Nat} (h : ∀ x ∈ ss, x.depth ≤ k) : PyData.depthAll ss ≤ k := by
  induction ss with
  | nil => exact Nat.zero_le _
  | cons x r ih =>
    show max x.depth (PyData.depthAll r) ≤ k
    exact Nat.max_le.mpr ⟨h x (.head _), ih fun y hy => h y (.tail _ hy)⟩
theorem shaped_list {ss : List PyData} (h : ∀ x ∈ ss, x.canLay0 = true ∧ x.depth ≤ 1) : shaped (.list ss) = true := by
  unfold shaped
  rw [Bool.and_eq_true]
  refine ⟨canAll fun x hx => (h x hx).1, decide_eq_true ?_⟩
  show PyData.depthAll ss + 1 ≤ 64
  have := depAll (ss := ss) (k := 1) fun x hx => (h x hx).2
  omega
theorem shaped_strs {ss : List Str} (h : ∀ x ∈ ss, PyData.strOk x = true) : shaped (.list (ss.map PyData.str)) = true := by
  refine shaped_list fun x hx => ?_
  obtain ⟨y, hy, rfl⟩ := List.mem_map.mp hx
  exact ⟨h y hy, Nat.zero_le _⟩
theorem shaped_srtD {ds : List (Str × Int)} (h : ∀ p ∈ ds, PyData.strOk p.1 = true) : shaped (srtD ds) = true := by
  refine shaped_list fun x hx => ?_
  obtain ⟨i, _, rfl⟩ := List.mem_map.mp hx
  unfold dAt
  cases hi : ds[i]? with
  | none => exact ⟨rfl, Nat.zero_le _⟩
  | some p =>
    have := h p (List.mem_of_getElem? hi)
    refine ⟨?_, Nat.le_refl _⟩
    show (PyData.strOk p.1 && true) = true
    rw [this]; rfl
theorem strOk_list {x : Str} (h : ∀ c ∈ x.cps.toList, c ≤ 1000) : PyData.strOk x = true := by
  unfold PyData.strOk
  rw [Array.all_eq_true']
  intro c hc
  have := h c (Array.mem_toList_iff.mpr hc)
  exact decide_eq_true (by omega)
theorem shaped_toldD {nm last : Str} {d : Int} (h : PyData.strOk nm = true) (h' : PyData.strOk last = true) : shaped (toldD nm last d) = true := by
  unfold shaped
  rw [Bool.and_eq_true]
  refine ⟨?_, decide_eq_true (by simp [toldD, PyData.depth, PyData.depthAll])⟩
  show (PyData.strOk nm && (PyData.strOk last && _)) = true
  rw [h, h']
  have e : PyData.strOk (Str.ofString "act") = true := strOk_list (by decide)
  simp [PyData.canLayAll0, PyData.canLay0, e]
theorem encL_le {q : List Str} (h : ∀ p ∈ q, p ∈ menu) : ∀ c ∈ encL q, c ≤ 1000 := by
  induction q with
  | nil => exact fun c hc => nomatch hc
  | cons p r ih =>
    intro c hc
    simp only [encL, List.mem_cons, List.mem_append] at hc
    rcases hc with rfl | rfl | hc | hc
    · decide
    · decide
    · rcases menu_cps (h p (.head _)) with e | e | e | e <;> rw [e] at hc <;> simp at hc <;> omega
    · exact ih (fun x hx => h x (.tail _ hx)) c hc
theorem strOk_nmOf {q : List Str} (h : ∀ p ∈ q, p ∈ menu) : PyData.strOk (nmOf q) = true := by
  refine strOk_list fun c hc => ?_
  cases q with
  | nil => rw [nmOf_root] at hc; simp at hc; omega
  | cons p r =>
    rw [nmOf_cons (h p (.head _))] at hc
    exact encL_le h c hc
theorem keys_perm {ns : List Nd} {bs : List Bn} {D : List (List Str)} (T : Tree ns) (hD : D.Nodup) (ha : ∀ q, q ∈ D ↔ has ns q = true) (hs : ns.map (·.pth) = bs.map (·.pth)) : ((tkv ns D).map (·.1)).Perm ((hkv bs).map (·.1)) := by
  have e1 : (tkv ns D).map (·.1) = D.map nmOf := by unfold tkv; rw [List.map_map]; rfl
  have e2 : (hkv bs).map (·.1) = (bs.map (·.pth)).map nmOf := by unfold hkv; rw [List.map_map, List.map_map]; rfl
  rw [e1, e2]
  refine List.Perm.map _ ?_
  rw [← hs]
  refine (List.perm_ext_iff_of_nodup hD T.nodup).mpr fun q => ?_
  rw [ha, has_mem]
theorem atNm_self {ns : List Nd} {bs : List Bn} (T : Tree ns) (hs : ns.map (·.pth) = bs.map (·.pth)) {b : Bn} (hb : b ∈ bs) : atNm bs (nmOf b.pth) = some b := by
  have hm : ∀ c ∈ bs, ∀ p ∈ c.pth, p ∈ menu := by
    intro c hc
    have : c.pth ∈ ns.map (·.pth) := by rw [hs]; exact List.mem_map.mpr ⟨c, hc, rfl⟩
    obtain ⟨nd, hnd, e⟩ := List.mem_map.mp this
    have := T.part nd hnd
    rwa [e] at this
  have hn := T.nodup
  rw [hs] at hn
  clear hs
  unfold atNm
  induction bs with
  | nil => exact nomatch hb
  | cons c r ih =>
    rw [List.map_cons, List.nodup_cons] at hn
    rw [List.find?_cons]
    by_cases e : nmOf c.pth = nmOf b.pth
    · have e2 := nmOf_inj (hm c (.head _)) (hm b hb) e
      rcases List.mem_cons.mp hb with h | h
      · subst h; simp
      · exact absurd (List.mem_map.mpr ⟨b, h, e2.symm⟩) hn.1
    · rcases List.mem_cons.mp hb with h | h
      · subst h; exact absurd rfl e
      · simp only [e, decide_false]
        exact ih h (fun x hx => hm x (.tail _ hx)) hn.2
theorem RefsAre.menu {ns : List Nd} (T : Tree ns) {vs : List Value} {qs : List (List Str)} (h : RefsAre ns vs qs) : ∀ q ∈ qs, ∀ p ∈ q, p ∈ Np.menu := by
  induction h with
  | nil => exact fun q hq => nomatch hq
  | cons hc _ ih =>
    intro q hq
    rcases List.mem_cons.mp hq with rfl | hq
    · exact T.part _ hc
    · exact ih q hq
theorem valueAt_of {prog : Program} {w : World} {o : Obj} {kvs : List (Str × Value)} (h : o.IsDictOf (PySem.strKind prog w) kvs) {i : Nat} {k : Str} {v : Value} (hi : kvs[i]? = some (k, v)) : valueAt kvs k = some v := by
  have hn : (kvs.map (·.1)).Nodup := by obtain ⟨_, _, _, _, _, _, hn⟩ := h; exact hn
  clear h
  have hm := List.mem_of_getElem? hi
  clear hi
  unfold valueAt
  induction kvs with
  | nil => exact nomatch hm
  | cons p r ih =>
    rw [List.map_cons, List.nodup_cons] at hn
    rw [List.find?_cons]
    rcases List.mem_cons.mp hm with e | hm
    · rw [← e]; simp
    · by_cases e : p.1 = k
      · exact absurd (List.mem_map.mpr ⟨_, hm, e.symm⟩) hn.1
      · simp only [e, decide_false]; exact ih hn.2 hm
theorem nmOf_snoc_ne {q r : List Str} {p : Str} (h : ∀ p ∈ q, p ∈ menu) (e : q = r ++ [p]) : nmOf q ≠ Str.ofString "::" := by
  intro hh
  have := nmOf_inj (r := []) h (fun _ h => nomatch h) hh
  rw [this] at e
  simp at e
end
section
open PySem PySem.W PyProof.Rows
set_option Elab.async false
set_option maxRecDepth 100000
set_option maxHeartbeats 8000000
section
variable {prog : Program} {w : World} {A : Around} {E : Value → Shared → Prop} {s : Shared} {h₀ : Heap} {L l : Addr} {news : Led} {value slice : PySem.Expr} {its : Array Value} {n : Nat} {u : Tok} {Q : Value → Shared → Prop}
theorem list_itemS {k : Int} {R : List Str} (N : News h₀ L s.heap news) (hm : (l, PySem.W.listOf its n) ∈ news) (hR : StrsAre its.toList R) (h0 : 0 ≤ k) (h1 : k < R.length) (hz : R.length ≤ 100) (h : ∀ p t, R[k.toNat]? = some p → Q (.str p t) s)
    (hs : subscripted slice false (.ref l) (.int k u) = operate [.ref l, .int k u] (getItem (.ref l) (.int k u))) :
    wpAny (model prog w) A (subscriptTail value slice (.ref l) (.int k u)) Q E s := by
  have hlen := hR.length
  simp only [Array.length_toList] at hlen
  refine list_item N hm h0 (by omega) (by rw [sizeLine_eq]; omega) (fun v hv => ?_) hs
  obtain ⟨p, t, rfl, hp⟩ := hR.item k.toNat v (by simpa using hv)
  exact h p t hp
end
theorem len3 {R : List Str} {k : Nat} {p : Str} (h : R[k]? = some p) (h3 : ∀ x ∈ R, x.length ≤ 3) : p.length ≤ 3 := h3 p (List.mem_of_getElem? h)
theorem setL_mono {d : Addr} {o : Obj} {l l' : Led} (h : ∀ q ∈ l, q ∈ l') : ∀ q ∈ setL d o l, q ∈ setL d o l' := by
  intro q hq
  obtain ⟨p, hp, e⟩ := List.mem_map.mp hq
  exact List.mem_map.mpr ⟨p, h p hp, e⟩
theorem newFront {l : Addr} {o : Obj} {news : Led} (h : ∀ p ∈ news, p.1 ≠ l) (o' : Obj) : setL l o' ((l, o) :: news) = (l, o') :: news := by
  show (if l = l then (l, o') else (l, o)) :: setL l o' news = _
  rw [if_pos rfl, ← List.append_nil news, setL_append h]
  simp [setL]
local macro_rules | `(tactic| walk_at "last subscriptTail") => `(tactic| ((with_reducible show wpAny _ _ (subscriptTail _ _ (Value.ref _) (Value.int _ _)) _ _ _); k_dflt (refine' list_itemS ?N ?m ?r ?h0 ?h1 ?z ?_ ?h; (case N => k_asm); (case m => exact .head _); (case r => first | exact .cons _ _ (.cons _ _ (.cons _ _ (.cons _ _ .nil))) | exact .cons _ _ (.cons _ _ (.cons _ _ .nil)) | exact .cons _ _ (.cons _ _ .nil)); (case h0 => rw [Int.fmod_eq_emod_of_nonneg _ (by decide)]; omega); (case h1 => rw [Int.fmod_eq_emod_of_nonneg _ (by decide)]; simp only [List.length_cons, List.length_nil]; omega); (case z => decide); (case h => with_unfolding_all rfl)); intro ps' ts' hps'; (have hl' := len3 hps' (by decide))))
local macro_rules | `(tactic| walk_at "call type:range") => `(tactic| ((rename Fr _ _ _ _ => F'); (rename News _ _ _ _ => N'); with_unfolding_all refine range1_rows F' N' ?_; intro _ _ _ _ _ _ _ _ _))
local macro_rules | `(tactic| walk_at "call builtin:list.append") => `(tactic| refine Stop.mk ?_)
def seps : List Str := [Str.ofString "::", Str.ofString ":::"]
/-- text and parts behind so many turns -/
inductive NameTo (lead : Str) : Nat → Str → List Str → Prop
  | nil : NameTo lead 0 lead []
  | first {p : Str} : p ∈ menu → NameTo lead 1 (lead ++ p) [p]
  | more {n : Nat} {t : Str} {ps : List Str} {sep p : Str} : NameTo lead (n + 1) t ps → sep ∈ seps → p ∈ menu → NameTo lead (n + 2) (t ++ sep ++ p) (ps ++ [p])
def leads : List (Str × Bool) := [(Str.ofString "", false), (Str.ofString "::", true), (Str.ofString ":::", true)]
/-- what _law_name may hand back -/
def NameIs (t : Str) (ab : Bool) (ps : List Str) : Prop :=
  ∃ lead n t0 ps0, (lead, ab) ∈ leads ∧ n ≤ 3 ∧ NameTo lead n t0 ps0 ∧ ((1 ≤ n ∧ t = t0 ++ Str.ofString "::" ∧ ps = ps0 ++ [Str.ofString ""]) ∨ (1 ≤ n ∧ t = t0 ∧ ps = ps0) ∨ (n = 0 ∧ t = t0 ∧ ps = [Str.ofString ""]))
theorem lead_ok (k : Int) (p : Str) (h0 : 0 ≤ k) (h3 : k < 3) (h : [Str.ofString "", Str.ofString "::", Str.ofString ":::"][k.toNat]? = some p) : (p, decide (0 < k)) ∈ leads := by
  have : k = 0 ∨ k = 1 ∨ k = 2 := by omega
  rcases this with rfl | rfl | rfl
  · obtain rfl := Option.some.inj h; exact .head _
  · obtain rfl := Option.some.inj h; exact .tail _ (.head _)
  · obtain rfl := Option.some.inj h; exact .tail _ (.tail _ (.head _))
theorem count_ok (k : Int) (h0 : 0 ≤ k) (h4 : k < 4) : ∃ n : Nat, n ≤ 3 ∧ [1, 2, 0, 3].getD k.toNat 0 = (n : Int) := by
  have : k = 0 ∨ k = 1 ∨ k = 2 ∨ k = 3 := by omega
  rcases this with rfl | rfl | rfl | rfl
  · exact ⟨1, by decide, rfl⟩
  · exact ⟨2, by decide, rfl⟩
  · exact ⟨0, by decide, rfl⟩
  · exact ⟨3, by decide, rfl⟩
theorem fm (a : Int) (b : Int) (h : 0 < b) : 0 ≤ a.fmod b ∧ a.fmod b < b := by
  rw [Int.fmod_eq_emod_of_nonneg _ (by omega)]
  exact ⟨Int.emod_nonneg _ (by omega), Int.emod_lt_of_pos _ h⟩
/-- the loose values of name_parts at a turn, in one box -/
inductive ExName (P : Int → Tok → Tok → Tok → Str → Array Value → Nat → List Str → Option Value → Option Value → Prop) : Prop
  | mk (nn : Int) (t1 t2 t3 : Tok) (b : Str) (us : Array Value) (k : Nat) (ps : List Str) (p1 p2 : Option Value) (h : P nn t1 t2 t3 b us k ps p1 p2) : ExName P
theorem spec_name (w : World) (mean mg mb) (news : Led) (n : Int) (tn : Tok) :
    Spec w mean mg mb 125 2 16 news [.int n tn] (fun r news' => ∃ t l us k b tb ab ps, r = .ref t ∧ news' = (t, { cls := .type "tuple", data := .seq #[.str b tb, .bool ab, .ref l] }) :: (l, PySem.W.listOf us k) :: news ∧ StrsAre us.toList ps ∧ NameIs b ab ps ∧ l < t ∧ ∀ p ∈ news, p.1 < l) := by
  obtain ⟨cnt, hc3, hcnt⟩ := count_ok (n.fmod 4) (fm n 4 (by decide)).1 (fm n 4 (by decide)).2
  unfold Spec
  w_top off
  k_fill
  intro dp un gd cn cs a ccd cl outer A₀ base h₀ L m s Q E B F X N T hk hdp hu hret
  obtain ⟨hpZ, geZ, drZ, tkZ, osZ⟩ := s
  dsimp only at F N hret ⊢
  refine wpAny_call ?_
  k_dflt (refine' code_def (binds := [(Str.ofString "number", .int n tn)]) ?k1x9 ?k2x9 ?k3x9 ?k4x9 ?k5x9 ?kAx9 ?kFx9 ?kKx9 ?k6x9 ?k7x9 ?k8x9 ?k9x9 ?kBx9 ?_ ?c2x9 ?c3x9 ?c4x9 ?c5x9; (case kAx9 => exact rfl); (case kFx9 => exact rfl); (case kKx9 => assumption); (case k1x9 => k_asm); (case k2x9 => k_asm); (case k3x9 => k_asm); (case k4x9 => k_asm); (case k5x9 => k_asm); (case k6x9 => k_is); (case k7x9 => k_is); (case k8x9 => ktr_room); (case k9x9 => first | exact BindsTo.of_eq rfl | exact binds_K (by k_in) rfl (by k_is) rfl rfl rfl); (case c5x9 => decide); (case kBx9 => exact locs rfl); (case c2x9 => exact rfl); (case c3x9 => exact rfl); (case c4x9 => exact rfl); k_whole; intro g1 L1 h1 FG1 F1 N1 B1 X1 T1; (try dsimp only); (try k_fold))
  replace F1 : Fr g1 L1 h1 (ovr [(Str.ofString "number", some (.int n tn)), (Str.ofString "count", none), (Str.ofString "is_absolute", none), (Str.ofString "text", none), (Str.ofString "parts", none), (Str.ofString "k", none), (Str.ofString "part", none)]) := fr_ovr F1 [Str.ofString "count", Str.ofString "is_absolute", Str.ofString "text", Str.ofString "parts", Str.ofString "k", Str.ofString "part"]
  k_steps
  rename (_[_]? = some _) => hps
  have hlead := lead_ok _ _ (fm _ 3 (by decide)).1 (fm _ 3 (by decide)).2 hps
  rename_i l1a _ _ _ _ _ _ _ _ _ _ lead tld _ _ _ _ _ lst _ hltL _ _ _ _
  have hltn : ∀ p ∈ news, p.1 < lst := fun p hp => Nat.lt_trans (l1a p hp) hltL.2.1
  (refine Stop.out ?_; (rename Fr _ _ _ _ => Ffor); k_dflt (with_unfolding_all refine For_invVF Ffor (by exact rfl) (by exact rfl) ?_))
  k_steps
  refine Stop.out ?_
  rename IsRange _ _ _ _ _ _ _ _ => hrg
  rename Fr _ _ _ _ => Fld
  rename News _ _ _ _ => Nl
  rw [hcnt] at hrg Fld
  obtain ⟨ab, hab⟩ : ∃ ab, ab = decide (0 < (n.fdiv 4).fmod 3) := ⟨_, rfl⟩
  rw [← hab] at hlead Fld
  have Nl' : News _ _ _ ((lst, PySem.W.listOf #[] 0) :: news) := news_sub Nl (fun q hq => by rcases List.mem_cons.mp hq with e | hq; (rw [e]; exact .head _); exact .tail _ (.tail _ (.tail _ hq)))
  have hnl : ∀ p ∈ news, p.1 ≠ lst := fun p hp => Nat.ne_of_lt (hltn p hp)
  refine for_range (n := cnt) (fun i m nw => ExName fun nn t1 t2 t3 b us k ps p1 p2 => m = (ovr [(Str.ofString "number", some (.int nn t1)), (Str.ofString "count", some (.int cnt t3)), (Str.ofString "is_absolute", some (.bool ab)), (Str.ofString "text", some (.str b t2)), (Str.ofString "parts", some (.ref lst)), (Str.ofString "k", p1), (Str.ofString "part", p2)]) ∧ nw = (lst, PySem.W.listOf us k) :: news ∧ StrsAre us.toList ps ∧ NameTo lead i b ps ∧ us.size = i ∧ b.length ≤ 3 + 6 * i) rfl hrg ?_ ?_ Fld Nl' ?_ ?_ ?_
  · rcases (by omega : cnt = 0 ∨ cnt = 1 ∨ cnt = 2 ∨ cnt = 3) with e | e | e | e <;> rw [e] <;> rfl
  · rcases (by omega : cnt = 0 ∨ cnt = 1 ∨ cnt = 2 ∨ cnt = 3) with e | e | e | e <;> rw [e] <;> rfl
  · refine ⟨_, _, _, _, lead, _, _, [], none, none, (by funext y; simp only [← ovr_set_at]; rfl), rfl, .nil, .nil, rfl, ?_⟩
    simp only [leads, List.mem_cons, List.not_mem_nil, or_false, Prod.mk.injEq] at hlead
    rcases hlead with ⟨e, _⟩ | ⟨e, _⟩ | ⟨e, _⟩ <;> rw [e] <;> decide
  · intro i t m₁ news₁ h tk I ito hin JZ hne F₁ N₁
    (try dsimp only)
    (try k_fold)
    obtain ⟨nn, t1, t2, t3, b, us, k, ps, p1, p2, rfl, rfl, hus, hto, huz, hbl⟩ := JZ
    clear Fld Nl Nl' hrg
    have hb100 : b.length ≤ 100 := by omega
    have hu100 : us.size ≤ 100 := by omega
    have hlI : @Ne Nat lst I := hne (lst, _) (.head _)
    have hsz1 : us.size ≤ sizeLine := by rw [sizeLine_eq]; omega
    k_steps
    · refine Stop.out ?_
      rename Fr _ _ _ _ => Fa
      rename News _ _ _ _ => Na
      k_dflt (refine list_append Fa Na (.tail _ (.tail _ (.tail _ (.head _)))) ?_ hsz1)
      intro hp2 Fb Nb
      k_steps
      rename Fr _ _ _ _ => Fe
      rename News _ _ _ _ => Nw
      rename ([Str.ofString "::", Str.ofString ":::"][_]? = some _) => hS
      rename ([Str.ofString "a", _, _, _][_]? = some _) => hP
      have hi0 : 1 ≤ i := by omega
      obtain ⟨j, rfl⟩ : ∃ j, i = j + 1 := ⟨i - 1, by omega⟩
      refine LEnd.intro Fe Nw (setL lst (PySem.W.listOf (us.push _) (k + 1)) ((lst, PySem.W.listOf us k) :: news)) (setL_ne (.tail _ (.tail _ (.head _))) (fun e => hlI e.symm)) (setL_mono (fun q hq => .tail _ (.tail _ (.tail _ hq)))) (setL_off hne) ⟨_, _, _, _, _, _, _, ps ++ [_], _, _, (by funext y; simp only [← ovr_set_at]; rfl), newFront hnl _, ?_, .more hto (List.mem_of_getElem? hS) (List.mem_of_getElem? hP), ?_, ?_⟩
      · rw [Array.toList_push]; exact hus.append' (.cons _ _ .nil)
      · rw [Array.size_push, huz]
      · simp only [Str.length_append]; omega
    · refine Stop.out ?_
      rename Fr _ _ _ _ => Fa
      rename News _ _ _ _ => Na
      k_dflt (refine list_append Fa Na (.tail _ (.tail _ (.head _))) ?_ hsz1)
      intro hp2 Fb Nb
      k_steps
      rename Fr _ _ _ _ => Fe
      rename News _ _ _ _ => Nw
      rename ([Str.ofString "a", _, _, _][_]? = some _) => hP
      have hi0 : i = 0 := by omega
      subst hi0
      cases hto
      refine LEnd.intro Fe Nw (setL lst (PySem.W.listOf (us.push _) (k + 1)) ((lst, PySem.W.listOf us k) :: news)) (setL_ne (.tail _ (.head _)) (fun e => hlI e.symm)) (setL_mono (fun q hq => .tail _ (.tail _ hq))) (setL_off hne) ⟨_, _, _, _, _, _, _, [_], _, _, (by funext y; simp only [← ovr_set_at]; rfl), newFront hnl _, ?_, .first (List.mem_of_getElem? hP), ?_, ?_⟩
      · rw [Array.toList_push]; exact hus.append' (.cons _ _ .nil)
      · rw [Array.size_push, huz]
      · simp only [Str.length_append]; omega
  · intro m₁ news₁ h tk JZ F₁ N₁
    (try dsimp only)
    (try k_fold)
    obtain ⟨nn, t1, t2, t3, b, us, k, ps, p1, p2, rfl, rfl, hus, hto, huz, hbl⟩ := JZ
    have hsz1 : us.size ≤ sizeLine := by rw [sizeLine_eq]; omega
    k_steps
    · refine Stop.out ?_
      rename Fr _ _ _ _ => Fa
      rename News _ _ _ _ => Na
      k_dflt (refine list_append Fa Na (.head _) ?_ hsz1)
      intro hp2 Fb Nb
      rw [newFront hnl] at Nb
      have hc1 : 1 ≤ cnt := by omega
      k_steps
      · exfalso; omega
      · refine hret _ _ _ _ (by assumption) (by assumption) ⟨_, lst, _, _, _, _, _, _, rfl, rfl, ?_, ⟨lead, cnt, b, ps, hlead, hc3, hto, .inl ⟨hc1, rfl, rfl⟩⟩, ?_, hltn⟩
        · rw [Array.toList_push]; exact hus.append' (.cons _ _ .nil)
        · rename (_ ∧ AllLt _ _) => hlt
          exact hlt.1
    · exfalso; omega
    · refine hret _ _ _ _ (by assumption) (by assumption) ⟨_, lst, _, _, _, _, _, _, rfl, rfl, hus, ⟨lead, cnt, b, ps, hlead, hc3, hto, .inr (.inl ⟨by omega, rfl, rfl⟩)⟩, ?_, hltn⟩
      rename (_ ∧ AllLt _ _) => hlt
      exact hlt.1
    · refine Stop.out ?_
      rename Fr _ _ _ _ => Fa
      rename News _ _ _ _ => Na
      k_dflt (refine list_append Fa Na (.head _) ?_ hsz1)
      intro hp2 Fb Nb
      rw [newFront hnl] at Nb
      have hc1 : cnt = 0 := by omega
      k_steps
      subst hc1
      cases hto
      refine hret _ _ _ _ (by assumption) (by assumption) ⟨_, lst, _, _, _, _, _, _, rfl, rfl, ?_, ⟨lead, 0, lead, [], hlead, by decide, .nil, .inr (.inr ⟨rfl, rfl, rfl⟩)⟩, ?_, hltn⟩
      · rw [Array.toList_push]; exact hus.append' (.cons _ _ .nil)
      · rename (_ ∧ AllLt _ _) => hlt
        exact hlt.1
    · exfalso; omega
end
section
open PySem PySem.W PyProof.Rows PySem.Builtin.Str
set_option Elab.async false
set_option maxRecDepth 100000
def ostep (x y : Str) (hi : Nat) (r : Array Nat × Nat) (i : Nat) : Array Nat × Nat := if (decide (r.1.size < 1) && decide (r.2 ≤ i) && decide (i + y.length ≤ hi) && subAt x y i) = true then (r.1.push i, i + y.length) else (r.1, r.2)
theorem ostep_one (x y : Str) (hi a fr : Nat) : ∀ l : List Nat, (l.foldl (ostep x y hi) (#[a], fr)).1 = #[a]
  | [] => rfl
  | i :: r => by
    rw [List.foldl_cons]
    have : ostep x y hi (#[a], fr) i = (#[a], fr) := by unfold ostep; simp
    rw [this, ostep_one x y hi a fr r]
theorem ostep_none (x y : Str) (hi fr : Nat) : ∀ l : List Nat, (∀ i ∈ l, fr ≤ i) → (l.foldl (ostep x y hi) (#[], fr)).1.toList = (l.find? fun i => decide (i + y.length ≤ hi) && subAt x y i).toList
  | [], _ => rfl
  | i :: r, h => by
    rw [List.foldl_cons, List.find?_cons]
    have h1 : fr ≤ i := h i (.head _)
    cases hc : (decide (i + y.length ≤ hi) && subAt x y i) with
    | true =>
      have : ostep x y hi (#[], fr) i = (#[i], i + y.length) := by
        unfold ostep; rw [Bool.and_assoc, hc]; simp [h1]
      rw [this, ostep_one]; rfl
    | false =>
      have : ostep x y hi (#[], fr) i = (#[], fr) := by
        unfold ostep
        rw [Bool.and_assoc, hc]; simp
      rw [this]
      exact ostep_none x y hi fr r fun j hj => h j (.tail _ hj)
theorem occ1 (x y : Str) (lo hi : Nat) : occurrences x y lo hi 1 = ((List.range' lo (hi + 1 - lo)).find? fun i => decide (i + y.length ≤ hi) && subAt x y i).toList := by
  unfold occurrences
  simp only [Id.run, Std.Legacy.Range.forIn_eq_forIn_range']
  have e : (fun (i : Nat) (s : Array Nat × Nat) => (if (decide (s.1.size < 1) && decide (s.2 ≤ i) && decide (i + y.length ≤ hi) && subAt x y i) = true then (pure (ForInStep.yield (s.1.push i, i + y.length)) : Id _) else pure (ForInStep.yield (s.1, s.2)))) = fun i s => pure (ForInStep.yield (ostep x y hi s i)) := by
    funext i s
    unfold ostep
    split <;> rfl
  rw [e, List.forIn_pure_yield_eq_foldl]
  have hs : [lo:hi + 1].size = hi + 1 - lo := by simp [Std.Legacy.Range.size]
  rw [hs]
  show ((List.range' lo (hi + 1 - lo)).foldl (ostep x y hi) (#[], lo)).1.toList = _
  refine ostep_none x y hi lo _ fun i hi' => ?_
  have := List.mem_range'.mp hi'
  omega
def lstep (x y : Str) (hi : Nat) (r : Option Nat) (i : Nat) : Option Nat := if (decide (i + y.length ≤ hi) && subAt x y i) = true then some i else r
theorem last1 (x y : Str) (lo hi : Nat) : lastOccurrence x y lo hi = (List.range' lo (hi + 1 - lo)).foldl (lstep x y hi) none := by
  unfold lastOccurrence
  simp only [Id.run, Std.Legacy.Range.forIn_eq_forIn_range']
  have hs : [lo:hi + 1].size = hi + 1 - lo := by simp [Std.Legacy.Range.size]
  rw [hs]
  have e : (fun (i : Nat) (s : Option Nat) => (if (decide (i + y.length ≤ hi) && subAt x y i) = true then (do pure PUnit.unit; pure (ForInStep.yield (some i)) : Id _) else pure (ForInStep.yield s))) = fun i s => pure (ForInStep.yield (lstep x y hi s i)) := by
    funext i s
    unfold lstep
    split <;> rfl
  show (forIn (m := Id) (List.range' lo (hi + 1 - lo)) (none : Option Nat) (fun i s => (if (decide (i + y.length ≤ hi) && subAt x y i) = true then (do pure PUnit.unit; pure (ForInStep.yield (some i)) : Id _) else pure (ForInStep.yield s)))) = _
  rw [e, List.forIn_pure_yield_eq_foldl]
  rfl
/-- where the next pair of colons stands -/
def fd : List Nat → Option Nat
  | [] => none
  | c :: r => if c = 58 ∧ r.head? = some 58 then some 0 else (fd r).map (· + 1)
abbrev CC : Str := Str.ofString "::"
theorem cc_len : CC.length = 2 := by decide
theorem take2 (l : List Nat) : (l.take 2 == [58, 58]) = decide (l.head? = some 58 ∧ l.tail.head? = some 58) := by
  match l with
  | [] => rfl
  | [a] => simp
  | a :: b :: r => simp only [List.take, List.head?_cons, List.tail_cons]; by_cases h1 : a = 58 <;> by_cases h2 : b = 58 <;> simp [h1, h2]
theorem sub_iff (x : Str) (i : Nat) : subAt x CC i = decide ((x.cps.toList.drop i).head? = some 58 ∧ (x.cps.toList.drop i).tail.head? = some 58) := by
  rw [StrLaws.subAt_eq, cc_len, cc, take2]
theorem len_cps (x : Str) : x.length = x.cps.toList.length := by simp [Str.length]
theorem fd_find (x : Str) : ∀ (l : List Nat) (st : Nat), st ≤ x.length → x.cps.toList.drop st = l → ((List.range' st (x.length + 1 - st)).find? fun i => decide (i + CC.length ≤ x.length) && subAt x CC i) = (fd l).map (st + ·)
  | [], st, h, e => by
    have h2 : x.length ≤ st := by rw [len_cps]; exact List.drop_eq_nil_iff.mp e
    have h3 : st = x.length := by omega
    have h4 : x.length + 1 - st = 1 := by omega
    rw [h4]
    show (List.find? _ [st]) = _
    rw [List.find?_cons]
    have : decide (st + CC.length ≤ x.length) = false := by rw [cc_len]; simp; omega
    rw [this]; rfl
  | c :: r, st, h, e => by
    have h2 : st < x.length := by
      rw [len_cps]
      refine Nat.lt_of_not_le fun hh => ?_
      rw [List.drop_eq_nil_iff.mpr hh] at e
      cases e
    have e2 : x.cps.toList.drop (st + 1) = r := by rw [← List.drop_drop, e]; rfl
    have h4 : x.length + 1 - st = (x.length + 1 - (st + 1)) + 1 := by omega
    rw [h4, List.range'_succ, List.find?_cons, sub_iff, e, fd_find x r (st + 1) (by omega) e2]
    show (match decide (st + CC.length ≤ x.length) && decide (some c = some 58 ∧ r.head? = some 58) with | true => some st | false => (fd r).map (st + 1 + ·)) = _
    rw [show fd (c :: r) = if c = 58 ∧ r.head? = some 58 then some 0 else (fd r).map (· + 1) from rfl]
    by_cases hc : c = 58 ∧ r.head? = some 58
    · rw [if_pos hc]
      have hr : 1 ≤ r.length := by
        cases r with
        | nil => simp at hc
        | cons _ _ => simp
      have hl : (x.cps.toList.drop st).length = r.length + 1 := by rw [e]; rfl
      rw [List.length_drop, ← len_cps] at hl
      have h5 : decide (st + CC.length ≤ x.length) = true := by rw [cc_len]; simp; omega
      have h6 : decide (some c = some 58 ∧ r.head? = some 58) = true := by simp [hc.1, hc.2]
      rw [h5, h6]; rfl
    · rw [if_neg hc]
      have h6 : decide (some c = some 58 ∧ r.head? = some 58) = false := by simpa using hc
      rw [h6, Bool.and_false]
      cases fd r with
      | none => rfl
      | some k => show some (st + 1 + k) = some (st + (k + 1)); congr 1; omega
theorem find3_fd (x : Str) (st : Nat) (h : st ≤ x.length) : Txt.find3 x CC (st : Int) = match fd (x.cps.toList.drop st) with | some k => ((st + k : Nat) : Int) | none => -1 := by
  unfold Txt.find3
  have : fromIndex x.length (st : Int) = st := by unfold fromIndex; rw [if_neg (by omega)]; omega
  rw [this, occ1, fd_find x _ st h rfl]
  cases fd (x.cps.toList.drop st) <;> rfl
theorem occ_fd (x : Str) : occurrences x CC 0 x.length 1 = ((fd x.cps.toList).map (0 + ·)).toList := by
  rw [occ1, fd_find x _ 0 (Nat.zero_le _) rfl]; rfl
theorem find_fd (x : Str) : Txt.find x CC = Txt.find3 x CC 0 := by
  unfold Txt.find Txt.find3
  have : fromIndex x.length 0 = 0 := by unfold fromIndex; rw [if_neg (by omega)]; omega
  rw [this]
  rfl
/-- what stands from a part's start on, and the parts of it -/
inductive Rest : List Nat → List Str → Prop
  | last {p : Str} : p ∈ menu → Rest p.cps.toList [p]
  | empty : Rest [] [Str.ofString ""]
  | more {p : Str} {sep r : List Nat} {ps : List Str} : p ∈ menu → (sep = [58, 58] ∨ sep = [58, 58, 58]) → Rest r ps → Rest (p.cps.toList ++ (sep ++ r)) (p :: ps)
theorem Rest.head {l : List Nat} {ps : List Str} (h : Rest l ps) : l.head? ≠ some 58 := by
  cases h with
  | last hp => rcases menu_cps hp with e | e | e | e <;> rw [e] <;> decide
  | empty => decide
  | more hp _ _ => rcases menu_cps hp with e | e | e | e <;> rw [e] <;> simp
theorem fd_part {p : Str} (hp : p ∈ menu) : fd p.cps.toList = none := by
  rcases menu_cps hp with e | e | e | e <;> rw [e] <;> decide
theorem fd_more {p : Str} (hp : p ∈ menu) (r : List Nat) : fd (p.cps.toList ++ 58 :: 58 :: r) = some p.cps.toList.length := by
  rcases menu_cps hp with e | e | e | e <;> rw [e] <;> simp [fd]
theorem colon_iff (x : Str) (st : Nat) : colonAt x (st : Int) ↔ (x.cps.toList.drop st).head? = some 58 := by
  unfold colonAt Txt.item Txt.charAt seqIndex?
  rw [List.head?_drop, len_cps]
  have hc : (Str.ofString ":") = ⟨#[58]⟩ := by decide
  rw [hc]
  by_cases h : st < x.cps.toList.length
  · have h1 : ((st : Int) < (x.cps.toList.length : Int)) := by omega
    have hz : (if (st : Int) < 0 then (st : Int) + (x.cps.toList.length : Int) else (st : Int)) = (st : Int) := if_neg (by omega)
    simp only [hz]
    have h2 : (decide (0 ≤ (st : Int)) && decide ((st : Int) < (x.cps.toList.length : Int))) = true := by simp; simpa using h
    rw [if_pos h2]
    simp only [Int.toNat_natCast, Option.bind_some]
    rw [← Array.getElem?_toList, List.getElem?_eq_getElem h]
    simp [h1]
    exact fun _ => by simpa using h
  · have h1 : ¬ ((st : Int) < (x.cps.toList.length : Int)) := by omega
    rw [List.getElem?_eq_none (by omega)]
    simp [h1]
    exact fun hh => absurd hh (by simpa using h)
theorem drop_pre {x : Str} {pre l : List Nat} (e : x.cps.toList = pre ++ l) : x.cps.toList.drop pre.length = l := by rw [e]; simp
theorem Rest.run {x : Str} : ∀ {l : List Nat} {ps : List Str}, Rest l ps → ∀ (pre : List Nat) (qs : List Str), x.cps.toList = pre ++ l → NpRun x qs (pre.length : Int) (Txt.find3 x CC (pre.length : Int)) (qs ++ ps) (ps.length - 1) := by
  intro l ps h
  induction h with
  | @last p hp =>
    intro pre qs e
    have hl : x.length = pre.length + p.cps.toList.length := by rw [len_cps, e]; simp
    rw [find3_fd x _ (by omega), drop_pre e, fd_part hp]
    have hs : Txt.slice x (some (pre.length : Int)) none = p := by
      rw [slice_from_eq (by omega) (by omega) rfl]
      refine str_ext ?_
      show (((x.cps.toList.drop (pre.length : Int).toNat).take ((x.length : Int) - (pre.length : Int)).toNat).toArray).toList = _
      rw [Int.toNat_natCast, drop_pre e]
      simp only [List.toList_toArray]
      exact List.take_of_length_le (by omega)
    have := NpRun.stop (x := x) (ps := qs) (st := (pre.length : Int)) (at' := -1) (by decide)
    rw [hs] at this
    exact this
  | empty =>
    intro pre qs e
    have hl : x.length = pre.length := by rw [len_cps, e]; simp
    rw [find3_fd x _ (by omega), drop_pre e]
    have hs : Txt.slice x (some (pre.length : Int)) none = Str.ofString "" := by
      rw [slice_from_eq (by omega) (by omega) rfl]
      refine str_ext ?_
      show (((x.cps.toList.drop (pre.length : Int).toNat).take ((x.length : Int) - (pre.length : Int)).toNat).toArray).toList = _
      rw [Int.toNat_natCast, drop_pre e]
      have e9 : (Str.ofString "").cps.toList = [] := by decide
      rw [e9]; simp
    have := NpRun.stop (x := x) (ps := qs) (st := (pre.length : Int)) (at' := -1) (by decide)
    rw [hs] at this
    exact this
  | @more p sep r ps hp hsep hr ih =>
    intro pre qs e
    have hne := menu_pos hp
    have hps : 1 ≤ ps.length := by cases hr <;> simp
    have hl : x.length = pre.length + (p.cps.toList.length + (sep.length + r.length)) := by rw [len_cps, e]; simp
    obtain ⟨s2, hs2⟩ : ∃ s2, sep = 58 :: 58 :: s2 := by rcases hsep with e | e <;> rw [e] <;> exact ⟨_, rfl⟩
    rw [find3_fd x _ (by omega), drop_pre e]
    have hfd : fd (p.cps.toList ++ (sep ++ r)) = some p.cps.toList.length := by rw [hs2]; exact fd_more hp _
    rw [hfd]
    dsimp only
    have e1 : x.cps.toList = (pre ++ p.cps.toList) ++ (sep ++ r) := by rw [e]; simp
    have e2 : x.cps.toList = (pre ++ p.cps.toList ++ sep) ++ r := by rw [e]; simp
    have hs : Txt.slice x (some (pre.length : Int)) (some ((pre.length + p.cps.toList.length : Nat) : Int)) = p := by
      rw [beq_iff_eq.mp (slice_closesL (by omega) (by omega) (by omega))]
      refine str_ext ?_
      show (((x.cps.toList.drop (pre.length : Int).toNat).take (((pre.length + p.cps.toList.length : Nat) : Int) - (pre.length : Int)).toNat).toArray).toList = _
      rw [Int.toNat_natCast, drop_pre e, show (((pre.length + p.cps.toList.length : Nat) : Int) - (pre.length : Int)).toNat = p.cps.toList.length by omega]
      simp
    have ih2 := ih (pre ++ p.cps.toList ++ sep) (qs ++ [p]) e2
    have hn : (p :: ps).length - 1 = (ps.length - 1) + 1 := by simp; omega
    rw [hn]
    have e5 : qs ++ p :: ps = (qs ++ [p]) ++ ps := by simp
    rw [e5]
    have hat : (0 : Int) < ((pre.length + p.cps.toList.length : Nat) : Int) := Int.natCast_pos.mpr (by omega)
    refine NpRun.turn (st' := ((pre ++ p.cps.toList ++ sep).length : Int)) (Int.le_of_lt hat) ?_ ?_
    · have hstop : ¬ colonAt x ((pre ++ p.cps.toList ++ sep).length : Int) := by
        rw [colon_iff, drop_pre e2]; exact hr.head
      have e6 : ((pre ++ p.cps.toList ++ sep).length : Int) = ((pre.length + p.cps.toList.length : Nat) : Int) + sep.length := by simp; omega
      rcases hsep with hsp | hsp
      · have : ((pre ++ p.cps.toList ++ sep).length : Int) = ((pre.length + p.cps.toList.length : Nat) : Int) + 2 := by rw [e6, hsp]; rfl
        rw [← this]; exact .stop hstop
      · have e7 : ((pre ++ p.cps.toList ++ sep).length : Int) = (((pre.length + p.cps.toList.length : Nat) : Int) + 2) + 1 := by rw [e6, hsp]; simp; omega
        refine .step ?_ (by rw [← e7]; exact .stop hstop)
        have e8 : (((pre.length + p.cps.toList.length : Nat) : Int) + 2) = ((pre.length + p.cps.toList.length + 2 : Nat) : Int) := by omega
        rw [e8, colon_iff, ← List.drop_drop, ← List.length_append, drop_pre e1, hsp]
        rfl
    · rw [if_pos hat, hs]
      exact ih2
theorem NameTo.len {lead t : Str} {n : Nat} {ps : List Str} (h : NameTo lead n t ps) : ps.length = n ∧ t.length ≤ lead.length + 6 * n := by
  have hm : ∀ {p : Str}, p ∈ menu → p.length ≤ 3 := by
    intro p hp
    rw [len_cps]
    rcases menu_cps hp with e | e | e | e <;> rw [e] <;> decide
  induction h with
  | nil => exact ⟨rfl, by omega⟩
  | first hp => have := hm hp; exact ⟨rfl, by rw [Str.length_append]; omega⟩
  | more _ hs hp ih =>
    have := hm hp
    refine ⟨by simp [ih.1], ?_⟩
    rw [Str.length_append, Str.length_append]
    simp only [seps, List.mem_cons, List.not_mem_nil, or_false] at hs
    have h3 : ∀ {x : Str}, x = Str.ofString "::" ∨ x = Str.ofString ":::" → x.length ≤ 3 := by
      rintro x (rfl | rfl) <;> decide
    have := h3 hs
    omega
theorem NameTo.rest {lead t : Str} {n : Nat} {ps : List Str} (h : NameTo lead n t ps) : 1 ≤ n → ∃ l, t.cps.toList = lead.cps.toList ++ l ∧ Rest l ps ∧ ∀ sep r rs, (sep = [58, 58] ∨ sep = [58, 58, 58]) → Rest r rs → Rest (l ++ (sep ++ r)) (ps ++ rs) := by
  induction h with
  | nil => intro h; exact absurd h (by decide)
  | @first p hp =>
    intro _
    refine ⟨p.cps.toList, cps_append _ _, .last hp, fun sep r rs hs hr => ?_⟩
    exact .more hp hs hr
  | @more n t ps sep p _ hs hp ih =>
    intro _
    obtain ⟨l, e, _, hx⟩ := ih (by omega)
    have hsc : sep.cps.toList = [58, 58] ∨ sep.cps.toList = [58, 58, 58] := by
      simp only [seps, List.mem_cons, List.not_mem_nil, or_false] at hs
      rcases hs with rfl | rfl
      · exact .inl (by decide)
      · exact .inr (by decide)
    refine ⟨l ++ (sep.cps.toList ++ p.cps.toList), ?_, hx _ _ _ hsc (.last hp), fun sep2 r rs hs2 hr => ?_⟩
    · rw [cps_append, cps_append, e]; simp
    · have := hx _ _ _ hsc (Rest.more hp hs2 hr)
      simpa using this
theorem NameIs.rest {t : Str} {ab : Bool} {ps : List Str} (h : NameIs t ab ps) : ∃ lead l, (lead, ab) ∈ leads ∧ t.cps.toList = lead.cps.toList ++ l ∧ Rest l ps ∧ ps.length ≤ 4 ∧ t.length ≤ 30 := by
  obtain ⟨lead, n, t0, ps0, hl, hn, ht, hc⟩ := h
  have hlen := ht.len
  have hl3 : lead.length ≤ 3 := by
    simp only [leads, List.mem_cons, List.not_mem_nil, or_false, Prod.mk.injEq] at hl
    rcases hl with ⟨rfl, _⟩ | ⟨rfl, _⟩ | ⟨rfl, _⟩ <;> decide
  rcases hc with ⟨h1, rfl, rfl⟩ | ⟨h1, rfl, rfl⟩ | ⟨rfl, rfl, rfl⟩
  · obtain ⟨l, e, _, hx⟩ := ht.rest h1
    refine ⟨lead, l ++ ([58, 58] ++ []), hl, ?_, hx _ _ _ (.inl rfl) .empty, by simp [hlen.1]; omega, ?_⟩
    · rw [cps_append, e, cc]; simp
    · rw [Str.length_append, show (Str.ofString "::").length = 2 from by decide]; omega
  · obtain ⟨l, e, hr, _⟩ := ht.rest h1
    exact ⟨lead, l, hl, e, hr, by omega, by omega⟩
  · cases ht
    exact ⟨_, [], hl, by simp, .empty, by decide, by omega⟩
theorem Rest.parts {l : List Nat} {ps : List Str} (h : Rest l ps) : ps ≠ [] ∧ (∀ p ∈ ps.dropLast, p ∈ menu) ∧ (∀ p ∈ ps, p ∈ menu ∨ p = Str.ofString "") ∧ ∀ c ∈ l, c ≤ 1000 := by
  have hmc : ∀ {p : Str}, p ∈ menu → ∀ c ∈ p.cps.toList, c ≤ 1000 := by
    intro p hp c hc
    rcases menu_cps hp with e | e | e | e <;> rw [e] at hc <;> simp at hc <;> omega
  induction h with
  | last hp => exact ⟨List.cons_ne_nil _ _, (fun p h => nomatch h), (fun p h => by rw [List.mem_singleton.mp h]; exact .inl hp), hmc hp⟩
  | empty => exact ⟨List.cons_ne_nil _ _, (fun p h => nomatch h), (fun p h => by rw [List.mem_singleton.mp h]; exact .inr rfl), (fun c h => nomatch h)⟩
  | @more p sep r ps hp hs hr ih =>
    obtain ⟨i1, i2, i3, i4⟩ := ih
    refine ⟨List.cons_ne_nil _ _, fun q hq => ?_, fun q hq => ?_, fun c hc => ?_⟩
    · rw [List.dropLast_cons_of_ne_nil i1] at hq
      rcases List.mem_cons.mp hq with rfl | hq
      · exact hp
      · exact i2 q hq
    · rcases List.mem_cons.mp hq with rfl | hq
      · exact .inl hp
      · exact i3 q hq
    · rcases List.mem_append.mp hc with hc | hc
      · exact hmc hp c hc
      · rcases List.mem_append.mp hc with hc | hc
        · rcases hs with rfl | rfl <;> simp at hc <;> omega
        · exact i4 c hc
theorem menu_ne {p : Str} (h : p ∈ menu) : p ≠ Str.ofString "" := by
  intro e
  have := menu_pos h
  rw [e] at this
  exact absurd this (by decide)
theorem Rest.nofind {l : List Nat} {ps : List Str} (h : Rest l ps) : fd l ≠ some 0 ∧ (fd l = none → ∃ p, ps = [p] ∧ p.cps.toList = l) := by
  cases h with
  | last hp => exact ⟨(by rw [fd_part hp]; exact fun e => nomatch e), (fun _ => ⟨_, rfl, rfl⟩)⟩
  | empty => exact ⟨(fun e => nomatch e), (fun _ => ⟨_, rfl, by decide⟩)⟩
  | more hp hs hr =>
    have hne := menu_pos hp
    have : ∀ sep r : List Nat, sep = [58, 58] ∨ sep = [58, 58, 58] → ∀ p : Str, p ∈ menu → fd (p.cps.toList ++ (sep ++ r)) = some p.cps.toList.length := by
      rintro sep r (rfl | rfl) p hp
      · exact fd_more hp _
      · exact fd_more hp _
    rw [this _ _ hs _ hp]
    refine ⟨(fun e => ?_), (fun e => nomatch e)⟩
    have := Option.some.inj e
    omega
structure NameFacts (t : Str) (ab : Bool) (ps : List Str) : Prop where
  run : ∃ n, n ≤ 50 ∧ NpRun t [] 0 (Txt.find t CC) ps n
  abs : (Txt.find t CC == 0) = ab
  sw : Txt.startswith t CC = (Txt.find t CC == 0)
  nc : Txt.contains t CC = false → ps = [t] ∧ (Txt.find t CC == 0) = false
  len : t.length ≤ 30
  ne : ps ≠ []
  mid : ∀ p ∈ ps.dropLast, p ∈ menu
  all : ∀ p ∈ ps, p ∈ menu ∨ p = Str.ofString ""
  four : ps.length ≤ 4
  ok : PyData.strOk t = true
theorem NameIs.facts {t : Str} {ab : Bool} {ps : List Str} (h : NameIs t ab ps) : NameFacts t ab ps := by
  obtain ⟨lead, l, hl, e, hr, h4, h30⟩ := h.rest
  obtain ⟨p1, p2, p3, p4⟩ := hr.parts
  obtain ⟨q1, q2⟩ := hr.nofind
  have hlc : (lead.cps.toList = [] ∧ ab = false) ∨ ((lead.cps.toList = [58, 58] ∨ lead.cps.toList = [58, 58, 58]) ∧ ab = true) := by
    simp only [leads, List.mem_cons, List.not_mem_nil, or_false, Prod.mk.injEq] at hl
    rcases hl with ⟨e8, e9⟩ | ⟨e8, e9⟩ | ⟨e8, e9⟩
    · exact .inl ⟨by rw [e8]; decide, e9⟩
    · exact .inr ⟨.inl (by rw [e8]; decide), e9⟩
    · exact .inr ⟨.inr (by rw [e8]; decide), e9⟩
  have hok : PyData.strOk t = true := by
    refine strOk_list fun c hc => ?_
    rw [e] at hc
    rcases List.mem_append.mp hc with hc | hc
    · rcases hlc with ⟨e2, _⟩ | ⟨e2 | e2, _⟩ <;> rw [e2] at hc <;> simp at hc <;> omega
    · exact p4 c hc
  have hf3 : Txt.find t CC = match fd t.cps.toList with | some k => ((0 + k : Nat) : Int) | none => -1 := by
    rw [find_fd]
    have := find3_fd t 0 (Nat.zero_le _)
    simpa using this
  have hsw : Txt.startswith t CC = decide (t.cps.toList.head? = some 58 ∧ t.cps.toList.tail.head? = some 58) := by
    unfold Txt.startswith
    rw [sub_iff, cc_len, List.drop_zero, len_cps]
    match t.cps.toList with
    | [] => rfl
    | [a] => simp
    | a :: b :: r => simp
  rcases hlc with ⟨hle, rfl⟩ | ⟨hle, rfl⟩
  · rw [hle, List.nil_append] at e
    have habs : (Txt.find t CC == 0) = false := by
      rw [hf3, e]
      cases hfl : fd l with
      | none => rfl
      | some k =>
        have : k ≠ 0 := fun hk => q1 (by rw [hfl, hk])
        simpa using this
    have hswf : Txt.startswith t CC = false := by
      rw [hsw, e]
      have := hr.head
      simp [this]
    refine ⟨?_, habs, by rw [hswf, habs], fun hc => ⟨?_, habs⟩, h30, p1, p2, p3, h4, hok⟩
    · have := hr.run (x := t) [] [] (by rw [e]; rfl)
      refine ⟨_, ?_, by rw [find_fd]; exact this⟩
      omega
    · unfold Txt.contains at hc
      rw [occ_fd, e] at hc
      obtain ⟨p, hp, hpe⟩ := q2 (by cases hfl : fd l with | none => rfl | some k => rw [hfl] at hc; simp at hc)
      rw [hp]
      congr 1
      exact str_ext (by rw [hpe, e])
  · have hfd : fd t.cps.toList = some 0 := by rcases hle with e2 | e2 <;> rw [e, e2] <;> rfl
    have hfind : Txt.find t CC = 0 := by rw [hf3, hfd]; rfl
    have hswt : Txt.startswith t CC = true := by rw [hsw]; rcases hle with e2 | e2 <;> rw [e, e2] <;> rfl
    refine ⟨?_, by rw [hfind]; rfl, by rw [hswt, hfind]; rfl, fun hc => ?_, h30, p1, p2, p3, h4, hok⟩
    · have hrun := hr.run (x := t) lead.cps.toList [] e
      refine ⟨ps.length - 1 + 1, by omega, ?_⟩
      rw [hfind]
      refine NpRun.turn (st' := (lead.cps.toList.length : Int)) (Int.le_refl _) ?_ ?_
      · have hstop : ¬ colonAt t (lead.cps.toList.length : Int) := by rw [colon_iff, drop_pre e]; exact hr.head
        rcases hle with e2 | e2
        · rw [e2] at hstop ⊢; exact .stop hstop
        · rw [e2] at hstop ⊢
          refine .step ?_ (.stop hstop)
          have := (colon_iff t 2).mpr (by rw [e, e2]; rfl)
          exact this
      · rw [if_neg (by decide)]
        exact hrun
    · unfold Txt.contains at hc
      rw [occ_fd, hfd] at hc
      exact absurd hc (by decide)
theorem lstep_stay (x y : Str) (hi : Nat) : ∀ (l : List Nat) (r : Option Nat), (l.find? fun i => decide (i + y.length ≤ hi) && subAt x y i) = none → l.foldl (lstep x y hi) r = r
  | [], _, _ => rfl
  | i :: l, r, h => by
    have h1 : (decide (i + y.length ≤ hi) && subAt x y i) = false := by
      have := List.find?_eq_none.mp h i (.head _)
      simpa using this
    rw [List.find?_cons, h1] at h
    rw [List.foldl_cons]
    have : lstep x y hi r i = r := by unfold lstep; rw [h1]; rfl
    rw [this]
    exact lstep_stay x y hi l r h
theorem rfind_at {x : Str} {a b : List Nat} (e : x.cps.toList = a ++ 58 :: 58 :: b) (hb : fd (58 :: b) = none) : Txt.rfind x CC = (a.length : Int) := by
  have hl : x.length = a.length + (b.length + 2) := by rw [len_cps, e]; simp
  have hd : x.cps.toList.drop a.length = 58 :: 58 :: b := by rw [e]; simp
  have hd2 : x.cps.toList.drop (a.length + 1) = 58 :: b := by rw [← List.drop_drop, hd]; rfl
  unfold Txt.rfind
  rw [last1]
  have hr : List.range' 0 (x.length + 1 - 0) = List.range' 0 a.length ++ (a.length :: List.range' (a.length + 1) (x.length + 1 - (a.length + 1))) := by
    have h1 : x.length + 1 - 0 = a.length + ((x.length + 1 - (a.length + 1)) + 1) := by omega
    rw [h1, ← List.range'_append_1, List.range'_succ]
    simp
  rw [hr, List.foldl_append, List.foldl_cons]
  have hs : ∀ r, lstep x CC x.length r a.length = some a.length := by
    intro r
    unfold lstep
    rw [sub_iff, hd, cc_len, if_pos (by simp; omega)]
  rw [hs, lstep_stay x CC x.length _ _ (by rw [fd_find x _ (a.length + 1) (by omega) hd2, hb]; rfl)]
theorem nmOf_up {q r : List Str} {p : Str} (h : ∀ p ∈ q, p ∈ menu) (e : q = r ++ [p]) :
    ((¬ ((Txt.slice (nmOf q) none (some (Txt.rfind (nmOf q) (Str.ofString "::")))).length : Int) = 0) ∧ Txt.slice (nmOf q) none (some (Txt.rfind (nmOf q) (Str.ofString "::"))) = nmOf r) ∨
    (((Txt.slice (nmOf q) none (some (Txt.rfind (nmOf q) (Str.ofString "::")))).length : Int) = 0 ∧ nmOf r = Str.ofString "::") := by
  have hp : p ∈ menu := h p (by rw [e]; simp)
  have hrm : ∀ p ∈ r, p ∈ menu := fun x hx => h x (by rw [e]; simp [hx])
  have hx : (nmOf q).cps.toList = encL r ++ 58 :: 58 :: p.cps.toList := by
    obtain ⟨a, t, ht⟩ : ∃ a t, q = a :: t := by
      cases q with
      | nil => simp at e
      | cons a t => exact ⟨a, t, rfl⟩
    rw [ht, nmOf_cons (h a (by rw [ht]; simp)), ← ht, e, encL_append]
    simp [encL]
  have hf : fd (58 :: p.cps.toList) = none := by rcases menu_cps hp with e | e | e | e <;> rw [e] <;> decide
  have hrf := rfind_at hx hf
  have hlen : (nmOf q).length = (encL r).length + (p.cps.toList.length + 2) := by rw [len_cps, hx]; simp
  have hsl : (Txt.slice (nmOf q) none (some (Txt.rfind (nmOf q) CC))).cps.toList = encL r := by
    rw [hrf, beq_iff_eq.mp (slice_closes_toL (by omega) (by omega))]
    show (((nmOf q).cps.toList.drop (0 : Int).toNat).take (((encL r).length : Int) - 0).toNat).toArray.toList = _
    rw [hx]
    simp
  have hcast : ((Txt.slice (nmOf q) none (some (Txt.rfind (nmOf q) CC))).length : Int) = (encL r).length := by rw [len_cps, hsl]
  cases r with
  | nil =>
    exact .inr ⟨by rw [hcast]; rfl, rfl⟩
  | cons a t =>
    refine .inl ⟨by rw [hcast]; simp [encL]; omega, str_ext ?_⟩
    rw [hsl, nmOf_cons (hrm a (.head _))]
end
section
open PySem PySem.W PyProof.Rows PySem.Calls PySem.SeqAt
set_option Elab.async false
set_option maxRecDepth 100000
set_option maxHeartbeats 8000000
local macro_rules | `(tactic| walk_at "call builtin:sorted") => `(tactic| refine Stop.mk ?_)
local macro_rules | `(tactic| walk_at "compareOp NotEq ref ref") => `(tactic| refine Stop.mk ?_)
local macro_rules | `(tactic| walk_at "storeName") => `(tactic| (k_here; k_dflt (refine' cell_set ?F ?N ?c ?m ?d ?_ ?a ?b; (case a => rfl); (case b => rfl); (case F => k_asm); (case N => k_asm); (case c => rfl); (case m => k_mem); (case d => assumption); k_whole); intro h' o' F' N' d'; refine Stop.mk ?_))
local macro_rules | `(tactic| walk_at "getMethod ref") => `(tactic| ((with_reducible show wpAny _ _ (getMethod (Value.ref _) (Str.ofString "items") _) _ _ _); k_dflt (refine kdl_method (knd := PySem.strKind _ _) PySem.F.slot_dict_items PySem.F.type_dict_items (by k_asm) (by k_mem) (by assumption) ?_)))
local macro_rules | `(tactic| walk_at "call builtin:dict.items") => `(tactic| refine Stop.mk ?_)
theorem spec_same (w : World) (mean mg mb) (news : Led) (ns : List Nd) (Rp : Rep w news ns) (bs : List Bn) (hA mA pA : Addr) (Bk : Book w news ns bs hA mA pA) (td : Addr) (Tr : TreeD w news ns td) (h60 : ns.length ≤ 60)
    (hok : ∀ b ∈ bs, (∀ x ∈ b.mks, PyData.strOk x = true) ∧ ∀ p ∈ b.kv, PyData.strOk p.1 = true) :
    Spec w mean mg mb 172 3 120 news [.ref td, .ref hA, .ref mA, .ref pA] (fun r news' => r = .bool true ∧ news' = news) := by
  obtain ⟨⟨o, D, ho, hod, hDn, hDa⟩, hts⟩ := Tr
  have hDl : D.length ≤ ns.length := by
    have := nodup_len (P := ns.map (·.pth)) hDn (fun q hq => has_mem.mp ((hDa q).mp hq))
    simpa using this
  have hbl : bs.length = ns.length := by have := congrArg List.length Bk.same; simpa using this.symm
  obtain ⟨⟨⟨oh, hoh, hih⟩, hhs⟩, hin⟩ := id Bk.held
  have hl1 : (tkv ns D).length < 64 := by unfold tkv; rw [List.length_map]; omega
  have hl2 : (hkv bs).length < 64 := by unfold hkv; rw [List.length_map]; omega
  have hperm := keys_perm Rp.tree hDn hDa Bk.same
  unfold Spec
  w_top off
  k_fill
  intro dp un gd cn cs a ccd cl outer A₀ base h₀ L m s Q E B F X N T hk hdp hu hret
  obtain ⟨hpZ, geZ, drZ, tkZ, osZ⟩ := s
  dsimp only at F N hret ⊢
  refine wpAny_call ?_
  k_dflt (refine' code_defC (binds := [(Str.ofString "tree", .ref td), (Str.ofString "held", .ref hA), (Str.ofString "marks", .ref mA), (Str.ofString "paths", .ref pA)]) ?k1x9 ?k2x9 ?k3x9 ?k4x9 ?k5x9 ?kAx9 ?kFx9 ?kKx9 ?k6x9 ?k7x9 ?k8x9 ?k9x9 ?kBx9 ?kDx9 ?_ ?c2x9 ?c3x9 ?c4x9; (case kAx9 => exact rfl); (case kFx9 => exact rfl); (case kKx9 => assumption); (case k1x9 => k_asm); (case k2x9 => k_asm); (case k3x9 => k_asm); (case k4x9 => k_asm); (case k5x9 => k_asm); (case k6x9 => k_is); (case k7x9 => k_is); (case k8x9 => ktr_room); (case k9x9 => first | exact BindsTo.of_eq rfl | exact binds_K (by k_in) rfl (by k_is) rfl rfl rfl); (case kBx9 => exact rfl); (case kDx9 => decide +kernel); (case c2x9 => exact rfl); (case c3x9 => exact rfl); (case c4x9 => exact rfl); k_whole; intro g1 L1 h1 tk1 cells1 FG1 F1 N1 Y1 B1 X1 T1 l1; obtain ⟨oC, hE1, hC⟩ := CellsAre.one Y1; subst hE1; clear Y1; (try simp only [List.cons_append, List.nil_append] at N1); (try dsimp only); (try k_fold))
  replace F1 : Fr g1 L1 h1 (ovr [(Str.ofString "paths", some (.ref pA)), (Str.ofString "marks", some (.ref mA)), (Str.ofString "held", some (.ref hA)), (Str.ofString "tree", some (.ref td)), (Str.ofString "name", none), (Str.ofString "above", none)]) := fr_ovrC F1 [Str.ofString "name", Str.ofString "above"] (by rfl)
  k_steps
  replace hC : oC.data = .cell none := hC
  refine Stop.out ?_
  k_dflt (refine sorted_dict rfl F1 N1 (.tail _ ho) hod hts hl1 ?_)
  intro B2 h2 tk2 c2 vs2 ss2 F2 N2 l2 s2 p2 o2
  clear F1 N1
  k_steps
  refine Stop.out ?_
  k_dflt (refine sorted_dict rfl F2 N2 (.tail _ (.tail _ hoh)) hih hhs hl2 ?_)
  intro B3 h3 tk3 c3 vs3 ss3 F3 N3 l3 s3 p3 o3
  clear F2 N2
  k_steps
  refine Stop.out ?_
  have e23 : ss3 = ss2 := sortedS_uniq (p3.trans (hperm.symm.trans p2.symm)) o3 o2
  subst e23
  have hsok : ∀ x ∈ ss3, PyData.strOk x = true := by
    intro x hx
    have hx := p2.mem_iff.mp hx
    unfold tkv at hx
    rw [List.map_map] at hx
    obtain ⟨q, hq, rfl⟩ := List.mem_map.mp hx
    exact strOk_nmOf (Rp.tree.menu ((hDa q).mp hq))
  k_dflt (refine ne_same N3 (.list (.tail _ (.head _)) (.strs s2)) (.list (.head _) (.strs s3)) (shaped_strs hsok) (by ktr_units) ?_)
  k_steps
  replace N3 := news_sub (l' := (L1 + 1, oC) :: news) N3 (fun q hq => .tail _ (.tail _ hq))
  clear s3 p3 o3 s2 p2 o2 l2 l3 hsok
  have hnC : ∀ p ∈ news, @Ne Nat p.1 (L1 + 1) := fun p hp => by have : @LT.lt Nat _ p.1 L1 := l1 p hp; omega
  (refine Stop.out ?_; (rename Fr _ _ _ _ => Ffor); k_dflt (with_unfolding_all refine For_invVF Ffor (by exact rfl) (by exact rfl) ?_))
  k_steps
  refine Stop.out ?_
  rename Fr _ _ _ _ => Fld
  rename News _ _ _ _ => Nl
  have hmh : (hA, oh) ∈ (L1 + 1, oC) :: news := .tail _ hoh
  refine for_dict (d := hA) (knd := SK w) (kvs := hkv bs) (fun i m nw => ∃ (oc : Obj) (v₀ p1 p2 : Option Value), m = (ovr [(Str.ofString "paths", some (.ref pA)), (Str.ofString "marks", some (.ref mA)), (Str.ofString "held", some (.ref hA)), (Str.ofString "tree", some (.ref td)), (Str.ofString "name", p1), (Str.ofString "above", p2)]) ∧ nw = (L1 + 1, oc) :: news ∧ oc.data = .cell v₀) rfl hhs (dictAt_of Nl hmh hih) (news_ne Nl hmh) Fld Nl ?_ ?_ ?_ ?_
  · exact .inr ⟨_, fun i m nw h => by obtain ⟨_, _, _, _, _, rfl, _⟩ := h; exact .tail _ hoh⟩
  · exact ⟨oC, _, _, _, rfl, rfl, hC⟩
  · intro i kk y v m₁ news₁ h tk I ito hkvI hkey JZ hne F₁ N₁
    (try dsimp only)
    (try k_fold)
    obtain ⟨oc, v₀, p1, p2, rfl, rfl, hoc⟩ := JZ
    obtain ⟨tk2, rfl⟩ := PySem.Value.isStrOf_shape hkey
    clear Fld Nl hkey hC
    obtain ⟨b, hbi, hbe⟩ : ∃ b, bs[i]? = some b ∧ (nmOf b.pth, Value.ref b.ha) = (kk, y) := by
      unfold hkv at hkvI
      rw [List.getElem?_map] at hkvI
      cases hb : bs[i]? with
      | none => rw [hb] at hkvI; cases hkvI
      | some b => rw [hb] at hkvI; exact ⟨b, rfl, Option.some.inj hkvI⟩
    obtain ⟨rfl, rfl⟩ := Prod.mk.inj hbe
    clear hkvI hbe
    have hbm := List.mem_of_getElem? hbi
    obtain ⟨nd, hnd, hndp⟩ : ∃ nd ∈ ns, nd.pth = b.pth := by
      have : b.pth ∈ ns.map (·.pth) := by rw [Bk.same]; exact List.mem_map.mpr ⟨b, hbm, rfl⟩
      exact List.mem_map.mp this
    obtain ⟨Mex, Mmv, Mmm, Mpr, Mcm, Mc4⟩ := Bk.mat b hbm nd hnd hndp
    have hself := atNm_self Rp.tree Bk.same hbm
    obtain ⟨⟨⟨oi, hoi, hii⟩, his⟩, hint⟩ := hin b hbm
    obtain ⟨⟨om, hom, him⟩, hms⟩ := Bk.marks
    obtain ⟨⟨⟨oq, hoq, hiq⟩, hqs⟩, hinq⟩ := Bk.paths
    obtain ⟨hql, hqS, hqz⟩ := hinq b hbm
    obtain ⟨hokm, hokk⟩ := hok b hbm
    have hvh : valueAt (Np.hkv bs) (nmOf b.pth) = some (.ref b.ha) := by have := valueAt_map bs (fun b => .ref b.ha) (nmOf b.pth); rw [hself] at this; exact this
    have hvm : valueAt (Np.mkv bs) (nmOf b.pth) = some (.ref b.ma) := by have := valueAt_map bs (fun b => .ref b.ma) (nmOf b.pth); rw [hself] at this; exact this
    have hvq : valueAt (Np.qkv bs) (nmOf b.pth) = some (.ref b.qa) := by have := valueAt_map bs (fun b => .ref b.qa) (nmOf b.pth); rw [hself] at this; exact this
    have hbD : nd.pth ∈ D := (hDa _).mpr (has_iff.mpr ⟨nd, hnd, rfl⟩)
    rw [← hndp] at F₁ hvh hvm hvq
    have hvh2 : (valueAt (Np.hkv bs) (nmOf nd.pth)).isSome = true := by rw [hvh]; rfl
    have hvm2 : (valueAt (Np.mkv bs) (nmOf nd.pth)).isSome = true := by rw [hvm]; rfl
    have hvq2 : (valueAt (Np.qkv bs) (nmOf nd.pth)).isSome = true := by rw [hvq]; rfl
    have hpm := Rp.tree.part nd hnd
    have hval : valueAt (tkv ns D) (nmOf nd.pth) = some (.ref nd.x) := by rw [valueAt_tkv Rp.tree (fun q hq => (hDa q).mp hq) hpm, if_pos hbD, Rp.tree.xAt hnd]
    have hsome : (valueAt (tkv ns D) (nmOf nd.pth)).isSome = true := by rw [hval]; rfl
    have hne9 : ∀ p ∈ (L1 + 1, oC) :: news, p.1 ≠ I := fun p hp => by
      rcases List.mem_cons.mp hp with e | hp
      · rw [e]; exact hne (L1 + 1, oc) (.head _)
      · exact hne p (.tail _ hp)
    have hIC : @Ne Nat (L1 + 1) I := hne (L1 + 1, oc) (.head _)
    obtain ⟨hx, hdd, _, ⟨⟨ocm, hocm, hicm⟩, hcms⟩, ⟨⟨ovr', hovr, hivr⟩, hvrs⟩, hex, hpa⟩ := Rp.node nd hnd
    k_steps
    rename_i dv hdv
    obtain rfl := Option.some.inj (hdv.symm.trans hval)
    refine Stop.out ?_
    k_steps
    rename_i oc2 Fc Nc hoc2
    refine Stop.out ?_
    replace Nc : News _ _ _ ((I, ito) :: (L1 + 1, _) :: news) := news_eq Nc (setL_mid (pre := [(I, ito)]) (by intro p hp; rw [List.mem_singleton.mp hp]; exact fun e => hIC e.symm) hnC)
    clear hoc
    replace hne9 : ∀ p ∈ (L1 + 1, oc2) :: news, p.1 ≠ I := fun p hp => by
      rcases List.mem_cons.mp hp with e | hp
      · rw [e]; exact hne9 (L1 + 1, oC) (.head _)
      · exact hne9 p (.tail _ hp)
    k_steps
    rename_i dv hdv
    obtain rfl := Option.some.inj (hdv.symm.trans hvm)
    refine Stop.out ?_
    k_steps
    refine Stop.out ?_
    rename News _ _ _ _ => Nt
    k_dflt (refine ne_space (A := _) (prog := PySem.Challenge.rw_np0129_01.row.prog) (w := w) (D := .list (b.mks.map PyData.str)) Nt (.tail _ (.tail _ (.head _))) (.head _) (.list (.tail _ (.tail _ (.tail _ (.tail _ (.tail _ hex))))) (.strs Mex)) (.list (.tail _ (.tail _ (.tail _ (.tail _ (.tail _ Mmm))))) (.strs Mmv)) (shaped_strs hokm) (.tail _ (.tail _ (.tail _ (.tail _ (.tail _ hovr))))) hivr (.tail _ (.head _)) (by assumption) hvrs (by assumption) (by ktr_units) ?_)
    replace Nt := news_sub (l' := (I, ito) :: (L1 + 1, oc2) :: news) Nt (fun q hq => .tail _ (.tail _ (.tail _ hq)))
    k_steps
    refine Stop.out ?_
    k_dflt (refine LCg.ListComp_U (F₀ := by k_asm) (by with_unfolding_all rfl) (by decide) (by rfl) (by decide) (by rfl) ?_)
    k_steps
    refine Stop.out ?_
    rename Fr _ _ _ _ => Fc
    have hpz : nd.path.size ≤ sizeLine := by have := Mpr.length; rw [Array.length_toList] at this; rw [sizeLine_eq, this]; omega
    k_dflt (refine LCg.CompSrc.ledger rfl Fc Nt (.tail _ (.tail _ hpa)) hpz ?_)
    intro g'
    refine comp_ind (fun i ys nw => nw = (I, ito) :: (L1 + 1, oc2) :: news ∧ StrsAre ys ((b.pq.take i).map nmOf)) ⟨rfl, .nil⟩ ?_ ?_
    · rintro i ys nw hi ⟨rfl, hys⟩ v I2 oI C2 oC2 D2 m₂ h tk E' hP hC' hx' F' N' off ne
      (try dsimp only)
      (try k_fold)
      obtain ⟨c, hc, rfl, hcq⟩ := Mpr.item i v (by simpa using hP)
      obtain ⟨hx2, hdd2, _, _, _, _, _⟩ := Rp.node c hc
      k_steps
      rename Fr _ _ _ _ => Fe
      rename News _ _ _ _ => Nw
      refine LCg.CompEnd.intro Fe Nw ((I, ito) :: (L1 + 1, oc2) :: news) (fun q hq => by rcases List.mem_cons.mp hq with rfl | hq; exact .head _; rcases List.mem_cons.mp hq with rfl | hq; exact .tail _ (.head _); rcases List.mem_cons.mp hq with rfl | hq; exact .tail _ (.tail _ (.head _)); exact .tail _ (.tail _ (.tail _ hq))) off (.inr ⟨_, .tail _ (.tail _ hpa), rfl, _, rfl⟩) ⟨rfl, ?_⟩
      rw [List.take_add_one, hcq, List.map_append]
      exact hys.append' (.cons _ _ .nil)
    · rintro ys nw ⟨rfl, hys⟩
      k_steps
      rename_i dv hdv
      obtain rfl := Option.some.inj (hdv.symm.trans hvq)
      refine Stop.out ?_
      k_steps
      refine Stop.out ?_
      rename News _ _ _ _ => Nt
      rw [List.take_of_length_le (by have := Mpr.length; rw [Array.length_toList] at this; omega)] at hys
      k_dflt (refine ne_same (D := .list ((b.pq.map nmOf).map PyData.str)) Nt (.list (vs := ys.toArray) (.head _) (.strs hys)) (.list (.tail _ (.tail _ (.tail _ hql))) (.strs hqS)) (shaped_strs (fun x hx => by obtain ⟨q, hq, rfl⟩ := List.mem_map.mp hx; exact strOk_nmOf (Mpr.menu Rp.tree q hq))) (by ktr_units) ?_)
      replace Nt := news_sub (l' := (I, ito) :: (L1 + 1, oc2) :: news) Nt (fun q hq => .tail _ hq)
      clear hys ys
      k_steps
      refine Stop.out ?_
      k_dflt (refine ListComp_Dict (_F₀ := by k_asm) (by with_unfolding_all rfl) (by decide) (by rfl) (by decide) (by rfl) ?_)
      k_steps
      rename Fr _ _ _ _ => Fc
      have hkl : nd.cmds.length = b.kv.length := by have := congrArg List.length Mcm.keys; simpa using this
      refine ⟨nd.cm, ocm, nd.cmds, _, rfl, rfl, Fc, Nt, .tail _ (.tail _ hocm), hicm, hcms, by rw [sizeLine_eq]; omega, ?_⟩
      rintro s₂ ⟨gg, rfl⟩
      refine comp_ind (fun i ys nw => (∀ p ∈ (I, ito) :: (L1 + 1, oc2) :: news, p ∈ nw) ∧ TupsAre nw ys ((b.kv.map fun p => (p.1, datOf p.2)).take i)) ⟨fun _ hp => hp, .nil⟩ ?_ ?_
      · rintro i ys nw hi ⟨hsub, hys⟩ v I2 oI C2 oC2 D2 m₂ h tk E' ⟨lk, y, lt, hki, rfl⟩ hC' hx' F' N' off ne
        obtain ⟨cx, cd, ct, rfl, hkv2, ⟨⟨dd, tr, tl, ta, tdd, ts, kc, hc1, hc2, hc3⟩⟩⟩ := Mcm.item i lk y hki
        have hx2 := hsub _ (.tail _ (.tail _ hx))
        have hdd2 := hsub _ (.tail _ (.tail _ hdd))
        have hocm2 := hsub _ (.tail _ (.tail _ hocm))
        have hcell2 := hsub _ (.tail _ (.head _))
        have hcx := hsub _ (.tail _ (.tail _ hc1))
        have hcdd := hsub _ (.tail _ (.tail _ hc2))
        have hvc : valueAt nd.cmds lk = some (.ref cx) := valueAt_of hicm hki
        have hvc2 : (valueAt nd.cmds lk).isSome = true := by rw [hvc]; rfl
        have lt1 := Heap.lt_size (N' (I2, oI) (.head _)).1
        have lt2 := Heap.lt_size (N' (C2, oC2) (.tail _ (.head _))).1
        have lt3 := Heap.lt_size (N' (D2, LCg.lst ys) (.tail _ (.tail _ (.head _)))).1
        k_steps
        rename_i dv hdv
        obtain rfl := Option.some.inj (hdv.symm.trans hvc)
        refine Stop.out ?_
        k_steps
        rename Fr _ _ _ _ => Fe
        rename News _ _ _ _ => Nw
        refine LCg.CompEnd.intro Fe Nw ((h.objs.size, ({ cls := .type "tuple", data := .seq #[.str lk lt, .int cd tdd] } : Obj)) :: nw) (fun q hq => ?_) ⟨⟨(Nat.ne_of_lt lt1).symm, (Nat.ne_of_lt lt2).symm, (Nat.ne_of_lt lt3).symm⟩, off⟩ (.tail _ hocm2) ⟨fun p hp => .tail _ (hsub p hp), ?_⟩
        · rcases List.mem_cons.mp hq with e | hq
          · rw [e]; exact .tail _ (.head _)
          rcases List.mem_cons.mp hq with e | hq
          · rw [e]; exact .tail _ (.tail _ (.head _))
          rcases List.mem_cons.mp hq with e | hq
          · rw [e]; exact .tail _ (.tail _ (.tail _ (.head _)))
          rcases List.mem_cons.mp hq with e | hq
          · rw [e]; exact .head _
          exact .tail _ (.tail _ (.tail _ (.tail _ hq)))
        · rw [List.take_add_one, List.getElem?_map, hkv2]
          exact (hys.mono fun p hp => .tail _ hp).append (.cons (.head _) .nil)
      · rintro ys nw ⟨hsub, hys⟩
        rw [List.take_of_length_le (by simp only [List.length_map]; omega)] at hys
        have hx2 := hsub _ (.tail _ (.tail _ hx))
        have hdd2 := hsub _ (.tail _ (.tail _ hdd))
        have hcell2 := hsub _ (.tail _ (.head _))
        have hoh2 := hsub _ (.tail _ (.tail _ hoh))
        have hoi2 := hsub _ (.tail _ (.tail _ hoi))
        have hknd : ((b.kv.map fun p => (p.1, datOf p.2)).map (·.1)).Nodup := by
          rw [List.map_map]
          obtain ⟨_, _, _, _, _, _, hn⟩ := hii; exact hn
        k_steps
        refine Stop.out ?_
        rename Fr _ _ _ _ => Fc
        rename News _ _ _ _ => Nt
        k_dflt (refine sorted_tups (vs := ys) Fc Nt (.head _) (hys.mono fun p hp => .tail _ hp) hknd (by rw [List.length_map]; exact Mc4) ?_)
        intro B5 h5 c5 F5 N5 l5
        replace N5 := news_sub (l' := (B5, _) :: nw) N5 (fun q hq => by rcases List.mem_cons.mp hq with e | hq; (rw [e]; exact .head _); exact .tail _ (.tail _ hq))
        clear Fc Nt l5
        k_steps
        rename_i dv hdv
        obtain rfl := Option.some.inj (hdv.symm.trans hvh)
        refine Stop.out ?_
        k_steps
        refine Stop.out ?_
        rename Fr _ _ _ _ => Fc
        rename News _ _ _ _ => Nt
        k_dflt (refine kdx_view (knd := SK w) Fc Nt (.tail _ hoi2) hii his ?_)
        intro V6 h6 F6 N6 l6
        clear Fc Nt
        k_steps
        refine Stop.out ?_
        k_dflt (refine sorted_items rfl F6 N6 (.head _) (.tail _ (.tail _ hoi2)) hii Mcm.ints Mc4 ?_)
        intro B7 h7 tk7 c7 vs7 tups7 F7 N7 hT7
        clear F6 N6
        k_steps
        refine Stop.out ?_
        rename News _ _ _ _ => Nt
        have hsokk : ∀ p ∈ (b.kv.map fun p => (p.1, datOf p.2)), PyData.strOk p.1 = true := by
          intro p hp
          obtain ⟨q, hq, rfl⟩ := List.mem_map.mp hp
          exact hokk q hq
        k_dflt (refine ne_same (D := srtD (b.kv.map fun p => (p.1, datOf p.2))) Nt (.list (.tail _ (List.mem_append_right _ (.tail _ (.head _)))) (srt_reads (hys.mono fun p hp => .tail _ (List.mem_append_right _ (.tail _ (.tail _ hp)))))) (.list (.head _) (srt_reads (hT7.mono fun p hp => .tail _ hp))) (shaped_srtD hsokk) (by ktr_units) ?_)
        replace Nt := news_sub (l' := nw) Nt (fun q hq => .tail _ (List.mem_append_right _ (.tail _ (.tail _ hq))))
        have hddP : ∀ v, nd.par = v → (nd.d, dictOf (nsEs w { nd with par := v }) 8) ∈ nw := by rintro _ rfl; exact hdd2
        clear hdd2 hdd
        rcases List.eq_nil_or_concat nd.pth with hroot | ⟨uq, up, hup⟩
        · have hdd3 := hddP _ (Rp.tree.top nd hnd hroot)
          have hnm : (nmOf nd.pth == Str.ofString "::") = true := by rw [hroot]; decide
          k_steps
          rename Fr _ _ _ _ => Fe
          rename News _ _ _ _ => Nw
          exact LEnd.intro Fe Nw ((L1 + 1, oc2) :: news) (hsub _ (.head _)) (fun q hq => hsub _ (.tail _ hq)) hne9 ⟨oc2, _, _, _, (by funext y; simp only [← ovr_set_at]; rfl), rfl, hoc2⟩
        · rw [List.concat_eq_append] at hup
          obtain ⟨u, hu, hupth, hpar⟩ := Rp.tree.up nd hnd uq up hup
          have hdd3 := hddP _ hpar
          obtain ⟨hxu, hddu, _, _, _, _, _⟩ := Rp.node u hu
          have hxu2 := hsub _ (.tail _ (.tail _ hxu))
          have hddu2 := hsub _ (.tail _ (.tail _ hddu))
          have hnm : (nmOf nd.pth == Str.ofString "::") = false := by
            have := nmOf_snoc_ne hpm hup
            simpa using this
          have hsl := nmOf_up hpm hup
          rw [← hupth] at hsl
          have hnl : (nmOf nd.pth).length ≤ 1000 := by have h1 := nmOf_len nd.pth hpm; have h2 := Rp.tree.deep nd hnd; omega
          k_steps
          all_goals first
            | (rename Fr _ _ _ _ => Fe
               rename News _ _ _ _ => Nw
               exact LEnd.intro Fe Nw ((L1 + 1, oc2) :: news) (hsub _ (.head _)) (fun q hq => hsub _ (.tail _ hq)) hne9 ⟨oc2, _, _, _, (by funext y; simp only [← ovr_set_at]; rfl), rfl, hoc2⟩)
            | (exfalso
               rename ((nmOf u.pth != _) = true) => hq1
               rcases hsl with ⟨z1, z2⟩ | ⟨z1, z2⟩
               · first | exact absurd (by assumption) z1 | (rw [z2] at hq1; simp at hq1)
               · first | exact absurd z1 (by assumption) | (rw [z2] at hq1; simp at hq1))
  · intro m₁ news₁ h tk JZ F₁ N₁
    (try dsimp only)
    (try k_fold)
    obtain ⟨oc, v₀, p1, p2, rfl, rfl, hoc⟩ := JZ
    clear Fld Nl
    k_steps
    rename News h₀ _ _ _ => Nw
    exact hret _ _ _ _ (by assumption) (news_sub Nw (fun q hq => .tail _ hq)) ⟨rfl, rfl⟩
end
section
open PySem PySem.W PyProof.Rows
set_option Elab.async false
set_option maxRecDepth 100000
def goP (q ps : List Str) : List Str := q ++ ps.filter fun p => decide (p ≠ Str.ofString "")
theorem goP_nil (q : List Str) : goP q [] = q := by simp [goP]
theorem goP_skip (q r : List Str) {p : Str} (h : p = Str.ofString "") : goP q (p :: r) = goP q r := by simp [goP, h]
theorem goP_step (q r : List Str) {p : Str} (h : p ≠ Str.ofString "") : goP q (p :: r) = goP (q ++ [p]) r := by simp [goP, h]
def stepsP : List Str → List Str → List (List Str)
  | q, [] => [q]
  | q, p :: r => if p = Str.ofString "" then stepsP q r else q :: stepsP (q ++ [p]) r
theorem stepsS_map : ∀ (ps q : List Str), stepsS (nmOf q) ps = (stepsP q ps).map nmOf
  | [], q => rfl
  | p :: r, q => by
    unfold stepsS stepsP
    by_cases h : p = Str.ofString ""
    · rw [if_pos h, if_pos h]; exact stepsS_map r q
    · rw [if_neg h, if_neg h, ← nmOf_snoc, stepsS_map r (q ++ [p])]; rfl
theorem stepsP_last : ∀ (ps q : List Str), (stepsP q ps).getLast? = some (goP q ps)
  | [], q => by rw [goP_nil]; rfl
  | p :: r, q => by
    unfold stepsP
    by_cases h : p = Str.ofString ""
    · rw [if_pos h, goP_skip q r h]; exact stepsP_last r q
    · rw [if_neg h, goP_step q r h, List.getLast?_cons, stepsP_last r (q ++ [p])]; rfl
theorem lastS_nm (q ps : List Str) : lastS (nmOf q) ps = nmOf (goP q ps) := by
  unfold lastS
  rw [stepsS_map, List.getLastD_eq_getLast?, List.getLast?_map, stepsP_last]; rfl
theorem goP_menu {q ps : List Str} (hq : ∀ p ∈ q, p ∈ menu) (hp : ∀ p ∈ ps, p ∈ menu ∨ p = Str.ofString "") : ∀ p ∈ goP q ps, p ∈ menu := by
  intro p h
  rcases List.mem_append.mp h with h | h
  · exact hq p h
  · obtain ⟨h1, h2⟩ := List.mem_filter.mp h
    rcases hp p h1 with h3 | h3
    · exact h3
    · exact absurd h3 (by simpa using h2)
theorem stepsP_menu {ps : List Str} : ∀ {q : List Str}, (∀ p ∈ q, p ∈ menu) → (∀ p ∈ ps, p ∈ menu ∨ p = Str.ofString "") → ∀ r ∈ stepsP q ps, ∀ p ∈ r, p ∈ menu := by
  induction ps with
  | nil => intro q hq _ r hr; rw [List.mem_singleton.mp hr]; exact hq
  | cons p ps ih =>
    intro q hq hp r hr
    unfold stepsP at hr
    by_cases h : p = Str.ofString ""
    · rw [if_pos h] at hr; exact ih hq (fun x hx => hp x (.tail _ hx)) r hr
    · rw [if_neg h] at hr
      rcases List.mem_cons.mp hr with rfl | hr
      · exact hq
      · refine ih ?_ (fun x hx => hp x (.tail _ hx)) r hr
        intro x hx
        rcases List.mem_append.mp hx with hx | hx
        · exact hq x hx
        · rw [List.mem_singleton.mp hx]; exact (hp p (.head _)).resolve_right h
theorem Tree.pre {ns : List Nd} (T : Tree ns) {q : List Str} {p : Str} (h : has ns (q ++ [p]) = true) : has ns q = true := by
  obtain ⟨nd, hnd, e⟩ := has_iff.mp h
  obtain ⟨u, hu, e2, _⟩ := T.up nd hnd q p e
  exact has_iff.mpr ⟨u, hu, e2⟩
theorem Tree.preAll {ns : List Nd} (T : Tree ns) (r q : List Str) : has ns (q ++ r) = true → has ns q = true := by
  intro h
  obtain ⟨k, hk⟩ : ∃ k, r.length = k := ⟨_, rfl⟩
  induction k generalizing r with
  | zero => rw [List.eq_nil_of_length_eq_zero hk, List.append_nil] at h; exact h
  | succ k ih =>
    have hne : r ≠ [] := by intro e; rw [e] at hk; cases hk
    rw [← List.dropLast_concat_getLast hne, ← List.append_assoc] at h
    exact ih _ (T.pre h) (by rw [List.length_dropLast, hk]; rfl)
theorem goS_eq {ns : List Nd} (T : Tree ns) : ∀ (ps q : List Str), has ns q = true → goS (has ns) q ps = if has ns (goP q ps) = true then some (goP q ps) else none
  | [], q, h => by rw [goP_nil, if_pos h]; rfl
  | p :: r, q, h => by
    unfold goS
    by_cases e : p = Str.ofString ""
    · rw [if_pos e, goP_skip q r e]; exact goS_eq T r q h
    · rw [if_neg e, goP_step q r e]
      by_cases h2 : has ns (q ++ [p]) = true
      · rw [if_pos h2]; exact goS_eq T r _ h2
      · rw [if_neg h2, if_neg]
        intro h3
        exact h2 (T.preAll _ _ h3)
/-- the law's list of paths, with what is new of those -/
def addAll (P : List (List Str)) (l : List (List Str)) : List (List Str) := l.foldl (fun P q => if q ∈ P then P else P ++ [q]) P
theorem addAll_mem {P l : List (List Str)} {q : List Str} (h : q ∈ P) : q ∈ addAll P l := by
  unfold addAll
  induction l generalizing P with
  | nil => exact h
  | cons a l ih =>
    rw [List.foldl_cons]
    refine ih ?_
    split
    · exact h
    · exact List.mem_append_left _ h
theorem growP_eq : ∀ (ps : List Str) (P : List (List Str)) (q : List Str), q ∈ P → growP P q ps = (addAll P (stepsP q ps), goP q ps)
  | [], P, q, h => by rw [goP_nil]; unfold growP stepsP addAll; simp [h]
  | p :: r, P, q, h => by
    unfold growP stepsP
    by_cases e : p = Str.ofString ""
    · rw [if_pos e, if_pos e, goP_skip q r e]; exact growP_eq r P q h
    · rw [if_neg e, if_neg e, goP_step q r e]
      have h1 : q ++ [p] ∈ (if q ++ [p] ∈ P then P else P ++ [q ++ [p]]) := by split; assumption; simp
      rw [growP_eq r _ _ h1]
      have h2 : addAll (if q ++ [p] ∈ P then P else P ++ [q ++ [p]]) (stepsP (q ++ [p]) r) = addAll P (q :: stepsP (q ++ [p]) r) := by
        have hh : ∀ l, addAll (if q ++ [p] ∈ P then P else P ++ [q ++ [p]]) ((q ++ [p]) :: l) = addAll (if q ++ [p] ∈ P then P else P ++ [q ++ [p]]) l := by
          intro l
          unfold addAll
          rw [List.foldl_cons, if_pos h1]
        have h3 : addAll P (q :: stepsP (q ++ [p]) r) = addAll P (stepsP (q ++ [p]) r) := by unfold addAll; rw [List.foldl_cons, if_pos h]
        rw [h3]
        have h4 : ∀ (r : List Str) (a : List Str) (P : List (List Str)), addAll (if a ∈ P then P else P ++ [a]) (stepsP a r) = addAll P (stepsP a r) := by
          intro r
          induction r with
          | nil =>
            intro a P
            unfold stepsP addAll
            by_cases ha : a ∈ P
            · simp [ha]
            · simp [ha]
          | cons b r ih =>
            intro a P
            unfold stepsP
            by_cases hb : b = Str.ofString ""
            · rw [if_pos hb]; exact ih a P
            · rw [if_neg hb]
              unfold addAll
              rw [List.foldl_cons, List.foldl_cons]
              congr 1
              by_cases ha : a ∈ P
              · simp [ha]
              · simp [ha]
        exact h4 r _ P
      rw [h2]
theorem find_of {ns : List Nd} {q : List Str} (h : has ns q = true) : ∃ nd ∈ ns, nd.pth = q ∧ ns.find? (fun nd => decide (nd.pth = q)) = some nd := by
  cases hf : ns.find? fun nd => decide (nd.pth = q) with
  | none =>
    obtain ⟨nd, hnd, e⟩ := has_iff.mp h
    exact absurd (List.find?_eq_none.mp hf nd hnd) (by simp [e])
  | some nd => exact ⟨nd, List.mem_of_find?_eq_some hf, by simpa using List.find?_some hf, rfl⟩
section
variable {w : World} {news : Led} {ns : List Nd} {bs : List Bn} {hA mA pA : Addr}
theorem atNm_has (T : Tree ns) (hs : ns.map (·.pth) = bs.map (·.pth)) {q : List Str} (hq : ∀ p ∈ q, p ∈ menu) : (atNm bs (nmOf q)).isSome = has ns q := by
  cases h : has ns q with
  | true =>
    have hm : q ∈ bs.map (·.pth) := by rw [← hs]; exact has_mem.mp h
    obtain ⟨b, hb, rfl⟩ := List.mem_map.mp hm
    rw [atNm_self T hs hb]; rfl
  | false =>
    cases hb : atNm bs (nmOf q) with
    | none => rfl
    | some b =>
      obtain ⟨h1, h2⟩ := atNm_mem hb
      have hm : b.pth ∈ ns.map (·.pth) := by rw [hs]; exact List.mem_map.mpr ⟨b, h1, rfl⟩
      have h3 := has_mem.mpr hm
      rw [nmOf_inj (T.menu h3) hq h2, h] at h3
      cases h3
theorem find_found (T : Tree ns) (Bk : Book w news ns bs hA mA pA) {ab : Bool} {ps : List Str} (hp : ∀ p ∈ ps.dropLast, p ∈ menu) : ∀ (qs : List (List Str)), (∀ q ∈ qs, has ns (if ab = true then [] else q) = true) →
    match findC ns ab ps qs with
    | none => foundOf bs ps.dropLast (ps.getLastD (Str.ofString "")) (qs.map fun q => nmOf (if ab = true then [] else q)) = none
    | some v => ∃ nd ∈ ns, ∃ cx d, v = .ref cx ∧ CmdIn w news cx nd.x (ps.getLastD (Str.ofString "")) d ∧ foundOf bs ps.dropLast (ps.getLastD (Str.ofString "")) (qs.map fun q => nmOf (if ab = true then [] else q)) = some (nmOf nd.pth, d)
  | [], _ => rfl
  | q :: r, h => by
    have ih := find_found T Bk (ab := ab) hp r fun x hx => h x (.tail _ hx)
    have hq := h q (.head _)
    rw [findC, goS_eq T _ _ hq, List.map_cons, foundOf, lastS_nm]
    have hm : ∀ p ∈ goP (if ab = true then [] else q) ps.dropLast, p ∈ menu := goP_menu (T.menu hq) fun p hp' => .inl (hp p hp')
    have hat := atNm_has T Bk.same hm
    generalize goP (if ab = true then [] else q) ps.dropLast = g at hat hm ⊢
    generalize ps.getLastD (Str.ofString "") = last at ih ⊢
    cases hg : has ns g with
    | false =>
      rw [hg] at hat
      have hd : dueOf bs (nmOf g) last = none := by
        unfold dueOf
        cases ha : atNm bs (nmOf g) with
        | none => rfl
        | some b => rw [ha] at hat; cases hat
      rw [hd, if_neg Bool.false_ne_true]
      exact ih
    | true =>
      rw [if_pos rfl]
      dsimp only
      obtain ⟨nd, hnd, hndq, hfind⟩ := find_of hg
      subst hndq
      have hmb : nd.pth ∈ bs.map (·.pth) := by rw [← Bk.same]; exact List.mem_map.mpr ⟨nd, hnd, rfl⟩
      obtain ⟨b, hb, hbe⟩ := List.mem_map.mp hmb
      have hbe : b.pth = nd.pth := hbe
      have Mt := Bk.mat b hb nd hnd hbe.symm
      have hself := atNm_self T Bk.same hb
      rw [hbe] at hself
      have hd : dueOf bs (nmOf nd.pth) last = (valueAt b.kv last).map datOf := by unfold dueOf; rw [hself]; rfl
      rw [hd, T.cmdOf hnd]
      rcases Mt.cm.at last with ⟨e1, e2⟩ | ⟨cx, d, t, e1, e2, hc⟩
      · rw [e1, e2]; exact ih
      · rw [e1, e2]
        exact ⟨nd, hnd, cx, d, rfl, hc, rfl⟩
end
end
section
open PySem PySem.W PyProof.Rows PySem.Calls
set_option Elab.async false
set_option maxRecDepth 100000
/-- where the law's own things lie -/
def oad (hA mA pA bA : Addr) (bs : List Bn) : List Addr := hA :: mA :: pA :: bA :: bs.flatMap fun b => [b.ha, b.ma, b.qa]
structure Own (w : World) (led : Led) (bs : List Bn) (hA mA pA bA : Addr) (bv : Array Value) (kb : Nat) : Prop where
  held : HeldIn w led hA bs
  marks : DictIn w led mA (mkv bs)
  paths : PathsIn w led pA bs
  mm : ∀ b ∈ bs, (b.ma, PySem.W.listOf b.mv b.km) ∈ led ∧ StrsAre b.mv.toList b.mks
  bk : (bA, PySem.W.listOf bv kb) ∈ led
  bks : StrsAre bv.toList (bs.map fun b => nmOf b.pth)
  nodup : (bs.map (·.pth)).Nodup
  menu : ∀ b ∈ bs, ∀ p ∈ b.pth, p ∈ menu
  adr : (oad hA mA pA bA bs).Nodup
section
variable {w : World} {led led' : Led} {bs : List Bn} {hA mA pA bA : Addr} {bv : Array Value} {kb : Nat}
theorem oad_line {b : Bn} (hb : b ∈ bs) : b.ha ∈ oad hA mA pA bA bs ∧ b.ma ∈ oad hA mA pA bA bs ∧ b.qa ∈ oad hA mA pA bA bs := by
  have : ∀ a ∈ [b.ha, b.ma, b.qa], a ∈ oad hA mA pA bA bs := fun a ha => .tail _ (.tail _ (.tail _ (.tail _ (List.mem_flatMap.mpr ⟨b, hb, ha⟩))))
  exact ⟨this _ (by simp), this _ (by simp), this _ (by simp)⟩
theorem Own.keep (h : Own w led bs hA mA pA bA bv kb) (hs : ∀ p ∈ led, p.1 ∈ oad hA mA pA bA bs → p ∈ led') : Own w led' bs hA mA pA bA bv kb where
  held := ⟨h.held.out.mono fun p hp e => hs p hp (by rw [e]; exact .head _), fun b hb => ⟨(h.held.inn b hb).1.mono fun p hp e => hs p hp (by rw [e]; exact (oad_line hb).1), (h.held.inn b hb).2⟩⟩
  marks := h.marks.mono fun p hp e => hs p hp (by rw [e]; exact .tail _ (.head _))
  paths := ⟨h.paths.out.mono fun p hp e => hs p hp (by rw [e]; exact .tail _ (.tail _ (.head _))), fun b hb => ⟨hs _ (h.paths.inn b hb).1 (oad_line hb).2.2, (h.paths.inn b hb).2⟩⟩
  mm := fun b hb => ⟨hs _ (h.mm b hb).1 (oad_line hb).2.1, (h.mm b hb).2⟩
  bk := hs _ h.bk (.tail _ (.tail _ (.tail _ (.head _))))
  bks := h.bks
  nodup := h.nodup
  menu := h.menu
  adr := h.adr
theorem Own.mem (h : Own w led bs hA mA pA bA bv kb) : ∀ a ∈ oad hA mA pA bA bs, ∃ o, (a, o) ∈ led := by
  intro a ha
  unfold oad at ha
  simp only [List.mem_cons] at ha
  rcases ha with rfl | rfl | rfl | rfl | ha
  · obtain ⟨⟨o, ho, _⟩, _⟩ := h.held.out; exact ⟨o, ho⟩
  · obtain ⟨⟨o, ho, _⟩, _⟩ := h.marks; exact ⟨o, ho⟩
  · obtain ⟨⟨o, ho, _⟩, _⟩ := h.paths.out; exact ⟨o, ho⟩
  · exact ⟨_, h.bk⟩
  · obtain ⟨b, hb, ha⟩ := List.mem_flatMap.mp ha
    simp only [List.mem_cons, List.not_mem_nil, or_false] at ha
    rcases ha with rfl | rfl | rfl
    · obtain ⟨⟨o, ho, _⟩, _⟩ := (h.held.inn b hb).1; exact ⟨o, ho⟩
    · exact ⟨_, (h.mm b hb).1⟩
    · exact ⟨_, (h.paths.inn b hb).1⟩
theorem Own.inj (h : Own w led bs hA mA pA bA bv kb) {a b : Bn} (ha : a ∈ bs) (hb : b ∈ bs) (e : a.pth = b.pth) : a = b := by
  have : ∀ {l : List Bn}, (l.map (·.pth)).Nodup → a ∈ l → b ∈ l → a = b := by
    intro l
    induction l with
    | nil => intro _ h; cases h
    | cons c r ih =>
      intro hn h1 h2
      rw [List.map_cons, List.nodup_cons] at hn
      rcases List.mem_cons.mp h1 with e1 | k1 <;> rcases List.mem_cons.mp h2 with e2 | k2
      · rw [e1, e2]
      · exact absurd (List.mem_map.mpr ⟨b, k2, by rw [← e, e1]⟩) hn.1
      · exact absurd (List.mem_map.mpr ⟨a, k1, by rw [e, e2]⟩) hn.1
      · exact ih hn.2 k1 k2
  exact this h.nodup ha hb
theorem Own.self (h : Own w led bs hA mA pA bA bv kb) {b : Bn} (hb : b ∈ bs) : atNm bs (nmOf b.pth) = some b := by
  cases hf : atNm bs (nmOf b.pth) with
  | none => exact absurd (List.find?_eq_none.mp hf b hb) (by simp)
  | some c =>
    obtain ⟨h1, h2⟩ := atNm_mem hf
    rw [h.inj h1 hb (nmOf_inj (h.menu c h1) (h.menu b hb) h2)]
theorem Own.notin (h : Own w led bs hA mA pA bA bv kb) {q : List Str} (hq : ∀ p ∈ q, p ∈ Np.menu) : (atNm bs (nmOf q)).isSome = decide (q ∈ bs.map (·.pth)) := by
  by_cases hm : q ∈ bs.map (·.pth)
  · obtain ⟨b, hb, rfl⟩ := List.mem_map.mp hm
    rw [h.self hb]; simp only [Option.isSome_some]; exact (decide_eq_true hm).symm
  · rw [decide_eq_false hm]
    cases hf : atNm bs (nmOf q) with
    | none => rfl
    | some c =>
      obtain ⟨h1, h2⟩ := atNm_mem hf
      exact absurd (List.mem_map.mpr ⟨c, h1, nmOf_inj (h.menu c h1) hq h2⟩) hm
/-- one more line of the book -/
theorem Own.add (h : Own w led bs hA mA pA bA bv kb) {q : List Str} (hq : ∀ p ∈ q, p ∈ Np.menu) (hnew : q ∉ bs.map (·.pth)) {ha ma qa : Addr} {oh om oq od : Obj} {t : Tok}
    (hlt : ∀ p ∈ led, @LT.lt Nat _ p.1 ha) (l1 : @LT.lt Nat _ ha ma) (l2 : @LT.lt Nat _ ma qa)
    (h1 : (hA, oh) ∈ led') (h1' : oh.IsDictOf (SK w) (hkv bs ++ [(nmOf q, .ref ha)])) (h2 : (mA, om) ∈ led') (h2' : om.IsDictOf (SK w) (mkv bs ++ [(nmOf q, .ref ma)])) (h3 : (pA, oq) ∈ led') (h3' : oq.IsDictOf (SK w) (qkv bs ++ [(nmOf q, .ref qa)]))
    (h4 : (bA, PySem.W.listOf (bv.push (.str (nmOf q) t)) (kb + 1)) ∈ led') (h5 : (ha, od) ∈ led') (h5' : od.IsDictOf (SK w) ([] : List (Str × Value))) (h5lo : (ha == sysModules) = false) (h6 : (ma, PySem.W.listOf #[] 0) ∈ led') (h7 : (qa, PySem.W.listOf #[] 0) ∈ led')
    (hold : ∀ p ∈ led, p.1 ≠ hA → p.1 ≠ mA → p.1 ≠ pA → p.1 ≠ bA → p ∈ led') :
    Own w led' (bs ++ [⟨q, ha, ma, qa, [], [], #[], 0, [], #[], 0⟩]) hA mA pA bA (bv.push (.str (nmOf q) t)) (kb + 1) := by
  have hn := h.adr
  unfold oad at hn
  simp only [List.nodup_cons, List.mem_cons, not_or] at hn
  have hin : ∀ b ∈ bs, ∀ a ∈ [b.ha, b.ma, b.qa], a ≠ hA ∧ a ≠ mA ∧ a ≠ pA ∧ a ≠ bA := by
    intro b hb a ha'
    have hm : a ∈ bs.flatMap fun b => [b.ha, b.ma, b.qa] := List.mem_flatMap.mpr ⟨b, hb, ha'⟩
    exact ⟨fun e => hn.1.2.2.2 (e ▸ hm), fun e => hn.2.1.2.2 (e ▸ hm), fun e => hn.2.2.1.2 (e ▸ hm), fun e => hn.2.2.2.1 (e ▸ hm)⟩
  have hb' : ∀ c ∈ bs ++ [(⟨q, ha, ma, qa, [], [], #[], 0, [], #[], 0⟩ : Bn)], c ∈ bs ∨ c = ⟨q, ha, ma, qa, [], [], #[], 0, [], #[], 0⟩ := fun c hc => by
    rcases List.mem_append.mp hc with hc | hc
    · exact .inl hc
    · exact .inr (List.mem_singleton.mp hc)
  have hodr : (hA == sysModules) = false ∧ (mA == sysModules) = false ∧ (pA == sysModules) = false := ⟨h.held.out.lo, h.marks.lo, h.paths.out.lo⟩
  refine ⟨⟨⟨⟨oh, h1, ?_⟩, hodr.1⟩, ?_⟩, ⟨⟨om, h2, ?_⟩, hodr.2.1⟩, ⟨⟨⟨oq, h3, ?_⟩, hodr.2.2⟩, ?_⟩, ?_, h4, ?_, ?_, ?_, ?_⟩
  · unfold hkv; rw [List.map_append]; exact h1'
  · intro c hc
    rcases hb' c hc with hc | rfl
    · have hi := h.held.inn c hc
      exact ⟨hi.1.mono fun p hp e => by have := hin c hc c.ha (by simp); rw [← e] at this; exact hold p hp this.1 this.2.1 this.2.2.1 this.2.2.2, hi.2⟩
    · exact ⟨⟨⟨od, h5, h5'⟩, h5lo⟩, fun k v hv => nomatch hv⟩
  · unfold mkv; rw [List.map_append]; exact h2'
  · unfold qkv; rw [List.map_append]; exact h3'
  · intro c hc
    rcases hb' c hc with hc | rfl
    · have hi := h.paths.inn c hc
      have := hin c hc c.qa (by simp)
      exact ⟨hold _ hi.1 this.1 this.2.1 this.2.2.1 this.2.2.2, hi.2⟩
    · exact ⟨h7, .nil, Nat.zero_le _⟩
  · intro c hc
    rcases hb' c hc with hc | rfl
    · have hi := h.mm c hc
      have := hin c hc c.ma (by simp)
      exact ⟨hold _ hi.1 this.1 this.2.1 this.2.2.1 this.2.2.2, hi.2⟩
    · exact ⟨h6, .nil⟩
  · rw [List.map_append, Array.toList_push]
    exact h.bks.append' (.cons _ _ .nil)
  · rw [List.map_append, List.nodup_append]
    refine ⟨h.nodup, by simp, fun a ha' b hb e => ?_⟩
    have hb2 : b = q := by simpa using hb
    rw [e, hb2] at ha'
    exact hnew ha'
  · intro c hc
    rcases hb' c hc with hc | rfl
    · exact h.menu c hc
    · exact hq
  · have hlt' : ∀ a ∈ oad hA mA pA bA bs, @LT.lt Nat _ a ha := fun a ha' => by
      obtain ⟨o, ho⟩ := h.mem a ha'
      exact hlt _ ho
    have : oad hA mA pA bA (bs ++ [(⟨q, ha, ma, qa, [], [], #[], 0, [], #[], 0⟩ : Bn)]) = oad hA mA pA bA bs ++ [ha, ma, qa] := by
      unfold oad; rw [List.flatMap_append]; rfl
    rw [this, List.nodup_append]
    have zz : ∀ a b : Nat, a < b → ¬ a = b := fun a b h => Nat.ne_of_lt h
    refine ⟨h.adr, ?_, fun a ha' b hb e => ?_⟩
    · simp only [List.nodup_cons, List.mem_cons, List.not_mem_nil, or_false, not_or, not_false_eq_true, and_true, List.nodup_nil]
      exact ⟨⟨zz _ _ l1, zz _ _ (Nat.lt_trans l1 l2)⟩, zz _ _ l2⟩
    · have h9 := hlt' a ha'
      simp only [List.mem_cons, List.not_mem_nil, or_false] at hb
      rcases hb with e2 | e2 | e2 <;> rw [e, e2] at h9
      · exact Nat.lt_irrefl _ h9
      · exact Nat.lt_irrefl _ (Nat.lt_trans h9 l1)
      · exact Nat.lt_irrefl _ (Nat.lt_trans h9 (Nat.lt_trans l1 l2))
end
/-- the book with another line -/
def updB (bs : List Bn) (b2 : Bn) : List Bn := bs.map fun b => if b.pth = b2.pth then b2 else b
theorem updB_pth (bs : List Bn) (b2 : Bn) : (updB bs b2).map (·.pth) = bs.map (·.pth) := by
  unfold updB
  rw [List.map_map]
  refine List.map_congr_left fun b _ => ?_
  show (if b.pth = b2.pth then b2 else b).pth = b.pth
  split
  · rename_i h; exact h.symm
  · rfl
theorem updB_mem {bs : List Bn} {b2 c : Bn} (h : c ∈ updB bs b2) : c = b2 ∨ (c ∈ bs ∧ c.pth ≠ b2.pth) := by
  obtain ⟨b, hb, e⟩ := List.mem_map.mp h
  by_cases hp : b.pth = b2.pth
  · rw [if_pos hp] at e; exact .inl e.symm
  · rw [if_neg hp] at e; subst e; exact .inr ⟨hb, hp⟩
section
variable {w : World} {led led' : Led} {bs : List Bn} {hA mA pA bA : Addr} {bv : Array Value} {kb : Nat} {b b2 : Bn}
theorem Own.updMap (h : Own w led bs hA mA pA bA bv kb) (hb : b ∈ bs) (e : b2.pth = b.pth) {α : Type} (f : Bn → α) (hf : f b2 = f b) : (updB bs b2).map f = bs.map f := by
  unfold updB
  rw [List.map_map]
  refine List.map_congr_left fun c hc => ?_
  show f (if c.pth = b2.pth then b2 else c) = f c
  by_cases hp : c.pth = b2.pth
  · rw [if_pos hp, hf, h.inj hc hb (hp.trans e)]
  · rw [if_neg hp]
theorem Own.updOad (h : Own w led bs hA mA pA bA bv kb) (hb : b ∈ bs) (e : b2.pth = b.pth) (hf : b2.ha = b.ha ∧ b2.ma = b.ma ∧ b2.qa = b.qa) : oad hA mA pA bA (updB bs b2) = oad hA mA pA bA bs := by
  unfold oad
  have := h.updMap hb e (fun b => [b.ha, b.ma, b.qa]) (by simp [hf])
  rw [List.flatMap_def, List.flatMap_def, this]
theorem Own.lineNe (h : Own w led bs hA mA pA bA bv kb) {b c : Bn} (hb : b ∈ bs) (hc : c ∈ bs) (hne : c.pth ≠ b.pth) : ∀ x ∈ [c.ha, c.ma, c.qa], ∀ y ∈ [b.ha, b.ma, b.qa], x ≠ y := by
  have hn := h.adr
  unfold oad at hn
  have hn2 : (bs.flatMap fun b => [b.ha, b.ma, b.qa]).Nodup := by
    simp only [List.nodup_cons] at hn; exact hn.2.2.2.2
  intro x hx y hy e
  exact pairwise_ne (fun _ _ h a ha b hb e => h b hb a ha e.symm) (List.pairwise_flatMap.mp hn2).2 hc hb (fun e => hne (by rw [e])) x hx y hy e
theorem Own.lineOwn (h : Own w led bs hA mA pA bA bv kb) {b : Bn} (hb : b ∈ bs) : b.ha ≠ b.ma ∧ b.ha ≠ b.qa ∧ b.ma ≠ b.qa ∧ ∀ x ∈ [b.ha, b.ma, b.qa], x ≠ hA ∧ x ≠ mA ∧ x ≠ pA ∧ x ≠ bA := by
  have hn := h.adr
  unfold oad at hn
  simp only [List.nodup_cons, List.mem_cons, not_or] at hn
  have h3 := (List.pairwise_flatMap.mp hn.2.2.2.2).1 b hb
  simp only [List.pairwise_cons, List.mem_cons, List.not_mem_nil, or_false] at h3
  refine ⟨h3.1 _ (.inl rfl), h3.1 _ (.inr rfl), h3.2.1 _ rfl, fun x hx => ?_⟩
  have hm : x ∈ bs.flatMap fun b => [b.ha, b.ma, b.qa] := List.mem_flatMap.mpr ⟨b, hb, hx⟩
  exact ⟨fun e => hn.1.2.2.2 (e ▸ hm), fun e => hn.2.1.2.2 (e ▸ hm), fun e => hn.2.2.1.2 (e ▸ hm), fun e => hn.2.2.2.1 (e ▸ hm)⟩
/-- a line's marks -/
theorem Own.updM (h : Own w led bs hA mA pA bA bv kb) (hb : b ∈ bs) {mv : Array Value} {km : Nat} {mks : List Str} (hm : (b.ma, PySem.W.listOf mv km) ∈ led') (hs : StrsAre mv.toList mks) (hold : ∀ p ∈ led, p.1 ∈ oad hA mA pA bA bs → p.1 ≠ b.ma → p ∈ led') :
    Own w led' (updB bs { b with mv := mv, km := km, mks := mks }) hA mA pA bA bv kb := by
  have hfix : ∀ c ∈ updB bs { b with mv := mv, km := km, mks := mks }, c = { b with mv := mv, km := km, mks := mks } ∨ (c ∈ bs ∧ c.pth ≠ b.pth) := fun c hc => updB_mem hc
  have ho := h.lineOwn hb
  have hoa := h.updOad (b2 := { b with mv := mv, km := km, mks := mks }) hb rfl ⟨rfl, rfl, rfl⟩
  have hhd : ∀ a : Addr, a = hA ∨ a = mA ∨ a = pA ∨ a = bA → a ≠ b.ma := by
    intro a ha e
    have := ho.2.2.2 b.ma (by simp)
    rcases ha with e2 | e2 | e2 | e2 <;> rw [← e2, e] at this
    · exact this.1 rfl
    · exact this.2.1 rfl
    · exact this.2.2.1 rfl
    · exact this.2.2.2 rfl
  refine ⟨⟨?_, ?_⟩, ?_, ⟨?_, ?_⟩, ?_, ?_, ?_, ?_, ?_, ?_⟩
  · have := h.updMap (b2 := { b with mv := mv, km := km, mks := mks }) hb rfl (fun b => (nmOf b.pth, Value.ref b.ha)) rfl
    unfold hkv; rw [this]
    exact h.held.out.mono fun p hp e => hold p hp (by rw [e]; exact .head _) (hhd _ (.inl e))
  · intro c hc
    rcases hfix c hc with rfl | ⟨hc, hne⟩
    · have := h.held.inn b hb
      exact ⟨this.1.mono fun p hp e => hold p hp (by rw [e]; exact (oad_line hb).1) (by rw [e]; exact ho.1), this.2⟩
    · have := h.held.inn c hc
      exact ⟨this.1.mono fun p hp e => hold p hp (by rw [e]; exact (oad_line hc).1) (by rw [e]; exact h.lineNe hb hc hne _ (by simp) _ (by simp)), this.2⟩
  · have := h.updMap (b2 := { b with mv := mv, km := km, mks := mks }) hb rfl (fun b => (nmOf b.pth, Value.ref b.ma)) rfl
    unfold mkv; rw [this]
    exact h.marks.mono fun p hp e => hold p hp (by rw [e]; exact .tail _ (.head _)) (hhd _ (.inr (.inl e)))
  · have := h.updMap (b2 := { b with mv := mv, km := km, mks := mks }) hb rfl (fun b => (nmOf b.pth, Value.ref b.qa)) rfl
    unfold qkv; rw [this]
    exact h.paths.out.mono fun p hp e => hold p hp (by rw [e]; exact .tail _ (.tail _ (.head _))) (hhd _ (.inr (.inr (.inl e))))
  · intro c hc
    rcases hfix c hc with rfl | ⟨hc, hne⟩
    · have := h.paths.inn b hb
      exact ⟨hold _ this.1 (oad_line hb).2.2 (Ne.symm ho.2.2.1), this.2⟩
    · have := h.paths.inn c hc
      exact ⟨hold _ this.1 (oad_line hc).2.2 (h.lineNe hb hc hne _ (by simp) _ (by simp)), this.2⟩
  · intro c hc
    rcases hfix c hc with rfl | ⟨hc, hne⟩
    · exact ⟨hm, hs⟩
    · have := h.mm c hc
      exact ⟨hold _ this.1 (oad_line hc).2.1 (h.lineNe hb hc hne _ (by simp) _ (by simp)), this.2⟩
  · exact hold _ h.bk (.tail _ (.tail _ (.tail _ (.head _)))) (hhd _ (.inr (.inr (.inr rfl))))
  · rw [h.updMap (b2 := { b with mv := mv, km := km, mks := mks }) hb rfl (fun b => nmOf b.pth) rfl]; exact h.bks
  · rw [updB_pth]; exact h.nodup
  · intro c hc
    rcases hfix c hc with rfl | ⟨hc, hne⟩
    · exact h.menu b hb
    · exact h.menu c hc
  · rw [hoa]; exact h.adr
/-- a line's commands -/
theorem Own.updH (h : Own w led bs hA mA pA bA bv kb) (hb : b ∈ bs) {kv : List (Str × Value)} {o' : Obj} (hm : (b.ha, o') ∈ led') (hd : o'.IsDictOf (SK w) kv) (hi : ∀ k v, valueAt kv k = some v → ∃ d t, v = .int d t) (hold : ∀ p ∈ led, p.1 ∈ oad hA mA pA bA bs → p.1 ≠ b.ha → p ∈ led') :
    Own w led' (updB bs { b with kv := kv }) hA mA pA bA bv kb := by
  have hfix : ∀ c ∈ updB bs { b with kv := kv }, c = { b with kv := kv } ∨ (c ∈ bs ∧ c.pth ≠ b.pth) := fun c hc => updB_mem hc
  have ho := h.lineOwn hb
  have hoa := h.updOad (b2 := { b with kv := kv }) hb rfl ⟨rfl, rfl, rfl⟩
  have hhd : ∀ a : Addr, a = hA ∨ a = mA ∨ a = pA ∨ a = bA → a ≠ b.ha := by
    intro a ha e
    have := ho.2.2.2 b.ha (by simp)
    rcases ha with e2 | e2 | e2 | e2 <;> rw [← e2, e] at this
    · exact this.1 rfl
    · exact this.2.1 rfl
    · exact this.2.2.1 rfl
    · exact this.2.2.2 rfl
  refine ⟨⟨?_, ?_⟩, ?_, ⟨?_, ?_⟩, ?_, ?_, ?_, ?_, ?_, ?_⟩
  · have := h.updMap (b2 := { b with kv := kv }) hb rfl (fun b => (nmOf b.pth, Value.ref b.ha)) rfl
    unfold hkv; rw [this]
    exact h.held.out.mono fun p hp e => hold p hp (by rw [e]; exact .head _) (hhd _ (.inl e))
  · intro c hc
    rcases hfix c hc with rfl | ⟨hc, hne⟩
    · exact ⟨⟨⟨o', hm, hd⟩, (h.held.inn b hb).1.lo⟩, hi⟩
    · have := h.held.inn c hc
      exact ⟨this.1.mono fun p hp e => hold p hp (by rw [e]; exact (oad_line hc).1) (by rw [e]; exact h.lineNe hb hc hne _ (by simp) _ (by simp)), this.2⟩
  · have := h.updMap (b2 := { b with kv := kv }) hb rfl (fun b => (nmOf b.pth, Value.ref b.ma)) rfl
    unfold mkv; rw [this]
    exact h.marks.mono fun p hp e => hold p hp (by rw [e]; exact .tail _ (.head _)) (hhd _ (.inr (.inl e)))
  · have := h.updMap (b2 := { b with kv := kv }) hb rfl (fun b => (nmOf b.pth, Value.ref b.qa)) rfl
    unfold qkv; rw [this]
    exact h.paths.out.mono fun p hp e => hold p hp (by rw [e]; exact .tail _ (.tail _ (.head _))) (hhd _ (.inr (.inr (.inl e))))
  · intro c hc
    rcases hfix c hc with rfl | ⟨hc, hne⟩
    · have := h.paths.inn b hb
      exact ⟨hold _ this.1 (oad_line hb).2.2 (Ne.symm ho.2.1), this.2⟩
    · have := h.paths.inn c hc
      exact ⟨hold _ this.1 (oad_line hc).2.2 (h.lineNe hb hc hne _ (by simp) _ (by simp)), this.2⟩
  · intro c hc
    rcases hfix c hc with rfl | ⟨hc, hne⟩
    · have := h.mm b hb
      exact ⟨hold _ this.1 (oad_line hb).2.1 (Ne.symm ho.1), this.2⟩
    · have := h.mm c hc
      exact ⟨hold _ this.1 (oad_line hc).2.1 (h.lineNe hb hc hne _ (by simp) _ (by simp)), this.2⟩
  · exact hold _ h.bk (.tail _ (.tail _ (.tail _ (.head _)))) (hhd _ (.inr (.inr (.inr rfl))))
  · rw [h.updMap (b2 := { b with kv := kv }) hb rfl (fun b => nmOf b.pth) rfl]; exact h.bks
  · rw [updB_pth]; exact h.nodup
  · intro c hc
    rcases hfix c hc with rfl | ⟨hc, hne⟩
    · exact h.menu b hb
    · exact h.menu c hc
  · rw [hoa]; exact h.adr
end
end
section
open PySem PySem.W PyProof.Rows PySem.Calls
set_option Elab.async false
set_option maxRecDepth 100000
/-- the tree with another namespace at that path -/
def updN (ns : List Nd) (n2 : Nd) : List Nd := ns.map fun n => if n.pth = n2.pth then n2 else n
theorem updN_pth (ns : List Nd) (n2 : Nd) : (updN ns n2).map (·.pth) = ns.map (·.pth) := by
  unfold updN
  rw [List.map_map]
  refine List.map_congr_left fun b _ => ?_
  show (if b.pth = n2.pth then n2 else b).pth = b.pth
  split
  · rename_i h; exact h.symm
  · rfl
theorem updN_mem {ns : List Nd} {n2 c : Nd} (h : c ∈ updN ns n2) : c = n2 ∨ (c ∈ ns ∧ c.pth ≠ n2.pth) := by
  obtain ⟨b, hb, e⟩ := List.mem_map.mp h
  by_cases hp : b.pth = n2.pth
  · rw [if_pos hp] at e; exact .inl e.symm
  · rw [if_neg hp] at e; subst e; exact .inr ⟨hb, hp⟩
theorem updN_of {ns : List Nd} {n2 c : Nd} (h : c ∈ ns) (hne : c.pth ≠ n2.pth) : c ∈ updN ns n2 := List.mem_map.mpr ⟨c, h, if_neg hne⟩
theorem updN_self {ns : List Nd} {n n2 : Nd} (h : n ∈ ns) (e : n2.pth = n.pth) : n2 ∈ updN ns n2 := List.mem_map.mpr ⟨n, h, if_pos e.symm⟩
theorem updN_has (ns : List Nd) (n2 : Nd) (q : List Str) : has (updN ns n2) q = has ns q := by
  rw [Bool.eq_iff_iff, has_mem, has_mem, updN_pth]
theorem updN_len (ns : List Nd) (n2 : Nd) : (updN ns n2).length = ns.length := by unfold updN; simp
section
variable {ns : List Nd} {n n2 : Nd}
/-- for each there is one alike -/
theorem updN_like (T : Tree ns) (hn : n ∈ ns) (e1 : n2.pth = n.pth) (ex : n2.x = n.x) {c : Nd} (hc : c ∈ ns) : ∃ c' ∈ updN ns n2, c'.pth = c.pth ∧ c'.x = c.x := by
  by_cases hp : c.pth = n2.pth
  · have : c = n := T.inj hc hn (hp.trans e1)
    subst this
    exact ⟨n2, updN_self hc e1, e1, ex⟩
  · exact ⟨c, updN_of hc hp, rfl, rfl⟩
theorem updN_back (T : Tree ns) (hn : n ∈ ns) (e1 : n2.pth = n.pth) (ex : n2.x = n.x) (ek : n2.kids = n.kids) (ep : n2.par = n.par) {c : Nd} (hc : c ∈ updN ns n2) : ∃ c' ∈ ns, c'.pth = c.pth ∧ c'.x = c.x ∧ c'.kids = c.kids ∧ c'.par = c.par := by
  rcases updN_mem hc with rfl | ⟨h, _⟩
  · exact ⟨n, hn, e1.symm, ex.symm, ek.symm, ep.symm⟩
  · exact ⟨c, h, rfl, rfl, rfl, rfl⟩
theorem Tree.upd (T : Tree ns) (hn : n ∈ ns) (e1 : n2.pth = n.pth) (ex : n2.x = n.x) (ek : n2.kids = n.kids) (ep : n2.par = n.par) (adr : ((updN ns n2).flatMap Nd.addrs).Nodup) : Tree (updN ns n2) where
  nodup := by rw [updN_pth]; exact T.nodup
  root := by rw [updN_has]; exact T.root
  kid := by
    intro nd hnd p v
    obtain ⟨a, ha, ap, ax, ak, _⟩ := updN_back T hn e1 ex ek ep hnd
    rw [← ak, T.kid a ha p v, ap]
    constructor
    · rintro ⟨c, hc, h1, h2⟩
      obtain ⟨c', hc', h3, h4⟩ := updN_like (n2 := n2) T hn e1 ex hc
      exact ⟨c', hc', by rw [h3, h1], by rw [h4, h2]⟩
    · rintro ⟨c, hc, h1, h2⟩
      obtain ⟨c', hc', h3, h4, _⟩ := updN_back T hn e1 ex ek ep hc
      exact ⟨c', hc', by rw [h3, h1], by rw [h4, h2]⟩
  up := by
    intro nd hnd q p e
    obtain ⟨a, ha, ap, ax, ak, apar⟩ := updN_back T hn e1 ex ek ep hnd
    obtain ⟨u, hu, h1, h2⟩ := T.up a ha q p (by rw [ap, e])
    obtain ⟨c', hc', h3, h4⟩ := updN_like (n2 := n2) T hn e1 ex hu
    exact ⟨c', hc', by rw [h3, h1], by rw [← apar, h2, h4]⟩
  top := by
    intro nd hnd e
    obtain ⟨a, ha, ap, ax, ak, apar⟩ := updN_back T hn e1 ex ek ep hnd
    rw [← apar]; exact T.top a ha (by rw [ap, e])
  part := by
    intro nd hnd
    obtain ⟨a, ha, ap, _⟩ := updN_back T hn e1 ex ek ep hnd
    rw [← ap]; exact T.part a ha
  adr := adr
  len := by rw [updN_len]; exact T.len
  deep := by
    intro nd hnd
    obtain ⟨a, ha, ap, _⟩ := updN_back T hn e1 ex ek ep hnd
    rw [← ap]; exact T.deep a ha
  few := by
    intro nd hnd
    obtain ⟨a, ha, ap, ax, ak, _⟩ := updN_back T hn e1 ex ek ep hnd
    rw [updN_len, ← ak]; exact T.few a ha
theorem updN_addrs (T : Tree ns) (hn : n ∈ ns) (e1 : n2.pth = n.pth) (ea : n2.addrs = n.addrs) : (updN ns n2).flatMap Nd.addrs = ns.flatMap Nd.addrs := by
  have : (updN ns n2).map Nd.addrs = ns.map Nd.addrs := by
    unfold updN
    rw [List.map_map]
    refine List.map_congr_left fun c hc => ?_
    show (if c.pth = n2.pth then n2 else c).addrs = c.addrs
    by_cases hp : c.pth = n2.pth
    · rw [if_pos hp, ea, T.inj hc hn (hp.trans e1)]
    · rw [if_neg hp]
  rw [List.flatMap_def, List.flatMap_def, this]
theorem Rep.upd {w : World} {led led' : Led} (R : Rep w led ns) (T' : Tree (updN ns n2)) (hN : NdIn w led' n2) (hold : ∀ m ∈ ns, m.pth ≠ n2.pth → NdIn w led' m) : Rep w led' (updN ns n2) := by
  refine ⟨T', fun nd hnd => ?_⟩
  rcases updN_mem hnd with rfl | ⟨h1, h2⟩
  · exact hN
  · exact hold nd h1 h2
theorem RefsAre.like {ns ns' : List Nd} {vs : List Value} {qs : List (List Str)} (h : RefsAre ns vs qs) (hl : ∀ c ∈ ns, ∃ c' ∈ ns', c'.pth = c.pth ∧ c'.x = c.x) : RefsAre ns' vs qs := by
  induction h with
  | nil => exact .nil
  | @cons c vs qs hc _ ih =>
    obtain ⟨c', hc', h1, h2⟩ := hl c hc
    rw [← h1, ← h2]; exact .cons hc' ih
theorem Rep.keep {w : World} {led led' : Led} (R : Rep w led ns) (hs : ∀ p ∈ led, p.1 ∈ ns.flatMap Nd.addrs → p ∈ led') : Rep w led' ns :=
  ⟨R.tree, fun nd hn => (R.node nd hn).mono fun p hp hm => hs p hp (List.mem_flatMap.mpr ⟨nd, hn, hm⟩)⟩
end
/-- the ledger but for those -/
def aside (A : List Addr) (l : Led) : Led := l.filter fun p => decide (p.1 ∉ A)
theorem aside_in {A : List Addr} {l : Led} {p : Addr × Obj} : p ∈ aside A l ↔ p ∈ l ∧ p.1 ∉ A := by unfold aside; rw [List.mem_filter, decide_eq_true_eq]
def adrs (td C hA mA pA bA : Addr) (bs : List Bn) (ns : List Nd) : List Addr := td :: C :: (oad hA mA pA bA bs ++ ns.flatMap Nd.addrs)
/-- what the law holds between its steps -/
structure St (w : World) (led : Led) (C : Addr) (ns : List Nd) (bs : List Bn) (rx hA mA pA bA td : Addr) (bv : Array Value) (kb : Nat) : Prop where
  rep : Rep w led ns
  own : Own w led bs hA mA pA bA bv kb
  root : ∃ rt ∈ ns, rt.pth = [] ∧ rt.x = rx
  same : ns.map (·.pth) = bs.map (·.pth)
  mat : ∀ b ∈ bs, ∀ nd ∈ ns, nd.pth = b.pth → StrsAre nd.exps.toList b.mks ∧ RefsAre ns nd.path.toList b.pq ∧ CmdsAre w (aside (adrs td C hA mA pA bA bs ns) led) nd.x nd.cmds b.kv
  tree : TreeD w led ns td
  cell : ∃ oc, (C, oc) ∈ led ∧ oc.data = .cell (some (.ref td))
  adr : (td :: C :: (oad hA mA pA bA bs ++ ns.flatMap Nd.addrs)).Nodup
  ok : ∀ b ∈ bs, (∀ x ∈ b.mks, PyData.strOk x = true) ∧ ∀ p ∈ b.kv, p.1 ∈ [Str.ofString "x", Str.ofString "a", Str.ofString "c:d", Str.ofString ""]
  few : ns.length ≤ 60
theorem strs_len {D P : List Str} (hn : D.Nodup) (hs : ∀ q ∈ D, q ∈ P) : D.length ≤ P.length := by
  induction D generalizing P with
  | nil => simp
  | cons d D ih =>
    rw [List.nodup_cons] at hn
    have hd := hs d (.head _)
    have := ih (P := P.erase d) hn.2 (fun q hq => (List.mem_erase_of_ne (fun e : q = d => hn.1 (by rw [← e]; exact hq))).mpr (hs q (.tail _ hq)))
    rw [List.length_erase_of_mem hd] at this
    have hp := List.length_pos_of_mem hd
    rw [List.length_cons]; omega
section
variable {w : World} {led : Led} {C : Addr} {ns : List Nd} {bs : List Bn} {rx hA mA pA bA td : Addr} {bv : Array Value} {kb : Nat}
theorem St.four (S : St w led C ns bs rx hA mA pA bA td bv kb) : ∀ b ∈ bs, b.kv.length ≤ 4 := by
  intro b hb
  obtain ⟨⟨o, _, _, _, _, _, _, _, hn⟩, _⟩ := (S.own.held.inn b hb).1
  have := strs_len (P := [Str.ofString "x", Str.ofString "a", Str.ofString "c:d", Str.ofString ""]) hn (fun q hq => by
    obtain ⟨p, hp, rfl⟩ := List.mem_map.mp hq
    exact (S.ok b hb).2 p hp)
  simpa using this
theorem St.book (S : St w led C ns bs rx hA mA pA bA td bv kb) : Book w led ns bs hA mA pA where
  held := S.own.held
  marks := S.own.marks
  paths := S.own.paths
  same := S.same
  mat := fun b hb nd hnd e => by
    obtain ⟨h1, h2, h3⟩ := S.mat b hb nd hnd e
    exact ⟨h1, (S.own.mm b hb).2, (S.own.mm b hb).1, h2, h3.mono fun p hp => (aside_in.mp hp).1, S.four b hb⟩
theorem St.okk (S : St w led C ns bs rx hA mA pA bA td bv kb) : ∀ b ∈ bs, (∀ x ∈ b.mks, PyData.strOk x = true) ∧ ∀ p ∈ b.kv, PyData.strOk p.1 = true := by
  intro b hb
  refine ⟨(S.ok b hb).1, fun p hp => ?_⟩
  have := (S.ok b hb).2 p hp
  simp only [List.mem_cons, List.not_mem_nil, or_false] at this
  rcases this with e | e | e | e <;> rw [e] <;> exact strOk_list (by decide)
theorem St.mono {led' : Led} (S : St w led C ns bs rx hA mA pA bA td bv kb) (hs : ∀ p ∈ led, p ∈ led') : St w led' C ns bs rx hA mA pA bA td bv kb where
  rep := S.rep.mono hs
  own := S.own.keep fun p hp _ => hs p hp
  root := S.root
  same := S.same
  mat := fun b hb nd hnd e => by
    obtain ⟨h1, h2, h3⟩ := S.mat b hb nd hnd e
    exact ⟨h1, h2, h3.mono fun p hp => aside_in.mpr ⟨hs _ (aside_in.mp hp).1, (aside_in.mp hp).2⟩⟩
  tree := S.tree.mono fun p hp _ => hs p hp
  cell := by obtain ⟨oc, h1, h2⟩ := S.cell; exact ⟨oc, hs _ h1, h2⟩
  adr := S.adr
  ok := S.ok
  few := S.few
end
end
section
open PySem PySem.W PyProof.Rows
set_option Elab.async false
set_option maxRecDepth 100000
set_option maxHeartbeats 8000000
local macro_rules | `(tactic| walk_at "call builtin:len") => `(tactic| refine Stop.mk ?_)
/-- _law_number: some int, whatever it is -/
theorem spec_number (w : World) (mean mg mb) (news : Led) (sl : Addr) (vs : List Value) (is : List Int) (hi : IntsAre vs is) (hlen : vs.length ≤ 63) (pl : Int) (tp : Tok) (h0 : 0 ≤ pl) (h25 : pl < 25)
    (dp un : Nat) (gd : Option (List Code)) (cn : Str) (cs : Scope) (a : Addr) (ccd : Value) (cl : List (Str × Addr)) (outer : List Env) (A₀ : Around) (base h₀ : Heap) (L : Addr) (m : Str → Option Value) (s : Shared) (Q E : Value → Shared → Prop)
    (B : Below A₀ base outer h₀) (F : Fr h₀ L s.heap m) (X : (hd.heap_39 w.params).In h₀) (N : News h₀ L s.heap news) (T : Top viewX (looseW viewX []) mean mg mb h₀) (hk : cs.kind = .function) (hdp : dp + 2 < recursionLimit) (hu : un + 16 < cLine)
    (hsl : base.IsList sl vs.toArray)
    (hret : ∀ r news' h' tk', Fr h₀ L h' m → News h₀ L h' news' → news' = news → (∃ n t, r = .int n t) → Q r { s with heap := h', toks := tk' }) :
    wpAny (model PySem.Challenge.rw_np0129_01.row.prog w) (ktrTop dp un gd cn cs L a ccd cl outer) (call (.ref 118) [.ref sl, .int pl tp]) Q E s := by
  have hX := X
  revert hX
  w_top off
  k_fill
  intro hX
  refine wpAny_call ?_
  k_dflt (refine' code_def (binds := [(Str.ofString "script", .ref sl), (Str.ofString "place", .int pl tp)]) ?k1x8 ?k2x8 ?k3x8 ?k4x8 ?k5x8 ?kAx8 ?kFx8 ?kKx8 ?k6x8 ?k7x8 ?k8x8 ?k9x8 ?kBx8 ?_ ?c2x8 ?c3x8 ?c4x8 ?c5x8; (case kAx8 => exact rfl); (case kFx8 => exact rfl); (case kKx8 => assumption); (case k1x8 => k_asm); (case k2x8 => k_asm); (case k3x8 => k_asm); (case k4x8 => k_asm); (case k5x8 => k_asm); (case k6x8 => k_is); (case k7x8 => k_is); (case k8x8 => ktr_room); (case k9x8 => first | exact BindsTo.of_eq rfl | exact binds_K (by k_in) rfl (by k_is) rfl rfl rfl); (case c5x8 => decide); (case kBx8 => exact locs rfl); (case c2x8 => exact rfl); (case c3x8 => exact rfl); (case c4x8 => exact rfl); k_whole; intro g1 L1 h1 FG1 F1 N1 B1 X1 T1; (try dsimp only); (try k_fold))
  replace F1 : Fr g1 L1 h1 (ovr [(Str.ofString "place", some (.int pl tp)), (Str.ofString "script", some (.ref sl)), (Str.ofString "made", none), (Str.ofString "held", none), (Str.ofString "paths", none), (Str.ofString "asked", none)]) := fr_ovr F1 [Str.ofString "made", Str.ofString "held", Str.ofString "paths", Str.ofString "asked"]
  have hl1 : g1.IsList sl vs.toArray := stays_list (Below.stays B1) hsl
  k_steps
  refine Stop.out ?_
  rename Fr _ _ _ _ => Fl
  have hll := stays_list (fun b o e => Fl.keep b o e) hl1
  have hsz : vs.toArray.size = vs.length := by simp
  k_dflt (refine Calls.call_len_list hll (by omega) ?_)
  k_steps
  all_goals (
    rename News h₀ _ _ _ => Ne
    exact hret _ _ _ _ (by assumption) (news_sub (l' := news) Ne (fun q hq => by first | assumption | (simp only [List.mem_cons, hq, or_true]))) rfl ⟨_, _, rfl⟩)
end
section
open PySem PySem.W PyProof.Rows PySem.Calls
set_option Elab.async false
set_option maxRecDepth 100000
/-- loose names of law at a turn, in one box -/
inductive Ex9 (P : Option Value → Option Value → Option Value → Option Value → Option Value → Option Value → Option Value → Option Value → Option Value → Prop) : Prop
  | mk (p1 p2 p3 p4 p5 p6 p7 p8 p9 : Option Value) (h : P p1 p2 p3 p4 p5 p6 p7 p8 p9) : Ex9 P
inductive Ex10 (P : Option Value → Option Value → Option Value → Option Value → Option Value → Option Value → Option Value → Option Value → Option Value → Option Value → Prop) : Prop
  | mk (p1 p2 p3 p4 p5 p6 p7 p8 p9 p10 : Option Value) (h : P p1 p2 p3 p4 p5 p6 p7 p8 p9 p10) : Ex10 P
inductive Ex11 (P : Option Value → Option Value → Option Value → Option Value → Option Value → Option Value → Option Value → Option Value → Option Value → Option Value → Option Value → Prop) : Prop
  | mk (p1 p2 p3 p4 p5 p6 p7 p8 p9 p10 p11 : Option Value) (h : P p1 p2 p3 p4 p5 p6 p7 p8 p9 p10 p11) : Ex11 P
inductive Ex13 (P : Option Value → Option Value → Option Value → Option Value → Option Value → Option Value → Option Value → Option Value → Option Value → Option Value → Option Value → Option Value → Option Value → Prop) : Prop
  | mk (p1 p2 p3 p4 p5 p6 p7 p8 p9 p10 p11 p12 p13 : Option Value) (h : P p1 p2 p3 p4 p5 p6 p7 p8 p9 p10 p11 p12 p13) : Ex13 P
section
variable {prog : Program} {w : World} {s : Shared} {h₀ : Heap} {L d : Addr} {m : Str → Option Value} {news : Led} {o : Obj} {k : Str} {t : Tok} {v : Value} {Q : Value → Shared → Prop}
theorem kdn_one (F : Fr h₀ L s.heap m) (N : News h₀ L s.heap news) (hm : (d, o) ∈ news) (hd : o.IsDictOf (PySem.strKind prog w) ([] : List (Str × Value)))
    (h : ∀ h' o', Fr h₀ L h' m → News h₀ L h' (setL d o' news) → o'.IsDictOf (PySem.strKind prog w) [(k, v)] → Q (.ref d) { s with heap := h', toks := s.toks + 1 }) : KdnMade prog w (PySem.strKind prog w) d Q [(.str k t, v)] s :=
  kdn_made_str F (news_front N hm) (UpdF.head rest_off) hd rfl (by simp [strPairs]) fun h' o' F' N' hd' => h h' o' F' (news_unfront N') hd'
end
theorem disp_step {led : Led} {dd aa : Addr} {o o' oa : Obj} (h1 : ∀ p ∈ led, p.1 < dd) (h3 : @LT.lt Nat _ dd aa) :
    (dd, o') ∈ setL dd o' ((aa, oa) :: (dd, o) :: led) ∧ (aa, oa) ∈ setL dd o' ((aa, oa) :: (dd, o) :: led) ∧ (∀ p ∈ led, p ∈ setL dd o' ((aa, oa) :: (dd, o) :: led)) ∧ @LT.lt Nat _ dd aa := by
  refine ⟨setL_self (.tail _ (.head _)), setL_ne (.head _) (Nat.ne_of_lt h3).symm, fun p hp => setL_ne (.tail _ (.tail _ hp)) (Nat.ne_of_lt (h1 p hp)), h3⟩
theorem chain_nodup {l : List Nat} (h : l.Pairwise (· < ·)) : l.Nodup := h.imp fun h => Nat.ne_of_lt h
/-- a strictly rising list, step by step -/
def Rises : List Nat → Prop
  | [] => True
  | [_] => True
  | a :: b :: r => a < b ∧ Rises (b :: r)
theorem Rises.low : ∀ {r : List Nat} {a : Nat}, Rises (a :: r) → ∀ x ∈ r, a < x
  | [], _, _, _, h => nomatch h
  | _ :: _, _, h, _, hx => (List.mem_cons.mp hx).elim (fun e => e ▸ h.1) fun hx => Nat.lt_trans h.1 (Rises.low h.2 _ hx)
theorem Rises.tail : ∀ {r : List Nat} {a : Nat}, Rises (a :: r) → Rises r
  | [], _, _ => trivial
  | _ :: _, _, h => h.2
theorem Rises.pair : ∀ {l : List Nat}, Rises l → l.Pairwise (· < ·)
  | [], _ => .nil
  | _ :: _, h => .cons h.low h.tail.pair
/-- places drawn from a list without doubles, each place at most once -/
theorem nodup_pick {l : List Nat} (n : Nat) (hl : l.length = n) (h : l.Nodup) {ix : List Nat} (hi : ix.Nodup) (hb : ∀ i ∈ ix, i < n) : (ix.map fun i => l.getD i 0).Nodup := by
  subst hl
  unfold List.Nodup at hi ⊢
  rw [List.pairwise_map]
  refine hi.imp_of_mem fun {i j} mi mj hn e => hn ?_
  simp only [List.getD_eq_getElem?_getD, List.getElem?_eq_getElem (hb i mi), List.getElem?_eq_getElem (hb j mj), Option.getD_some] at e
  rcases Nat.lt_trichotomy i j with q | q | q
  · exact absurd e (List.pairwise_iff_getElem.mp h i j (hb i mi) (hb j mj) q)
  · exact q
  · exact absurd e.symm (List.pairwise_iff_getElem.mp h j i (hb j mj) (hb i mi) q)
theorem init_st {w : World} {led : Led} {C d x ch cm vr ex pa td hA ha mA ma pA qa bA : Addr} {ts : Nat → Tok} {tn tb : Tok} {och ocm ovr' oc ot oh oha om oq : Obj}
    (c0 : @LT.lt Nat _ C d) (c1 : @LT.lt Nat _ d x) (c2 : @LT.lt Nat _ x ch) (c3 : @LT.lt Nat _ ch cm) (c4 : @LT.lt Nat _ cm vr) (c5 : @LT.lt Nat _ vr ex) (c6 : @LT.lt Nat _ ex pa) (c7 : @LT.lt Nat _ pa td) (c8 : @LT.lt Nat _ td hA) (c9 : @LT.lt Nat _ hA ha) (c10 : @LT.lt Nat _ ha mA)
    (c11 : @LT.lt Nat _ mA ma) (c12 : @LT.lt Nat _ ma pA) (c13 : @LT.lt Nat _ pA qa) (c14 : @LT.lt Nat _ qa bA)
    (hx : (x, instObj 31 d) ∈ led) (hd : (d, dictOf (nsEs w ⟨[], tn, x, d, ch, cm, vr, ex, pa, ts, .none, [], [], #[], #[], 0, 0⟩) 8) ∈ led) (hch : (ch, och) ∈ led) (hcm : (cm, ocm) ∈ led) (hvr : (vr, ovr') ∈ led) (hex : (ex, PySem.W.listOf #[] 0) ∈ led) (hpa : (pa, PySem.W.listOf #[] 0) ∈ led)
    (ich : och.IsDictOf (SK w) ([] : List (Str × Value))) (icm : ocm.IsDictOf (SK w) ([] : List (Str × Value))) (ivr : ovr'.IsDictOf (SK w) ([] : List (Str × Value))) (lch : (ch == sysModules) = false) (lcm : (cm == sysModules) = false) (lvr : (vr == sysModules) = false)
    (hC : (C, oc) ∈ led) (dC : oc.data = .cell (some (.ref td))) (ht : (td, ot) ∈ led) (it : ot.IsDictOf (SK w) [(Str.ofString "::", .ref x)]) (lt : (td == sysModules) = false)
    (hh : (hA, oh) ∈ led) (ih : oh.IsDictOf (SK w) [(Str.ofString "::", .ref ha)]) (lh : (hA == sysModules) = false) (hha : (ha, oha) ∈ led) (iha : oha.IsDictOf (SK w) ([] : List (Str × Value))) (lha : (ha == sysModules) = false)
    (hm : (mA, om) ∈ led) (im : om.IsDictOf (SK w) [(Str.ofString "::", .ref ma)]) (lm : (mA == sysModules) = false) (hma : (ma, PySem.W.listOf #[] 0) ∈ led)
    (hq : (pA, oq) ∈ led) (iq : oq.IsDictOf (SK w) [(Str.ofString "::", .ref qa)]) (lq : (pA == sysModules) = false) (hqa : (qa, PySem.W.listOf #[] 0) ∈ led) (hb : (bA, PySem.W.listOf #[.str (Str.ofString "::") tb] 0) ∈ led) :
    St w led C [⟨[], tn, x, d, ch, cm, vr, ex, pa, ts, .none, [], [], #[], #[], 0, 0⟩] [⟨[], ha, ma, qa, [], [], #[], 0, [], #[], 0⟩] x hA mA pA bA td #[.str (Str.ofString "::") tb] 0 := by
  obtain ⟨nd, hnd0⟩ : ∃ nd : Nd, nd = ⟨[], tn, x, d, ch, cm, vr, ex, pa, ts, .none, [], [], #[], #[], 0, 0⟩ := ⟨_, rfl⟩
  obtain ⟨b, hb0⟩ : ∃ b : Bn, b = ⟨[], ha, ma, qa, [], [], #[], 0, [], #[], 0⟩ := ⟨_, rfl⟩
  rw [← hnd0, ← hb0]
  rw [← hnd0] at hd
  have one : ∀ n ∈ [nd], n = nd := fun n hn => List.mem_singleton.mp hn
  have oneb : ∀ n ∈ [b], n = b := fun n hn => List.mem_singleton.mp hn
  have hadr : nd.addrs = [x, d, ch, cm, vr, ex, pa] := by rw [hnd0]; rfl
  have hpth : nd.pth = [] := by rw [hnd0]
  have hbp : b.pth = [] := by rw [hb0]
  have all : (td :: C :: ([hA, mA, pA, bA, ha, ma, qa] ++ [x, d, ch, cm, vr, ex, pa])).Nodup := by
    have h0 : [C, d, x, ch, cm, vr, ex, pa, td, hA, ha, mA, ma, pA, qa, bA].Nodup := chain_nodup (Rises.pair ⟨c0, c1, c2, c3, c4, c5, c6, c7, c8, c9, c10, c11, c12, c13, c14, trivial⟩)
    exact nodup_pick 16 rfl h0 (ix := [8, 0, 9, 11, 13, 15, 10, 12, 14, 2, 1, 3, 4, 5, 6, 7]) (by decide) (by decide)
  have hoad : oad hA mA pA bA [b] = [hA, mA, pA, bA, ha, ma, qa] := by rw [hb0]; rfl
  have hfl : [nd].flatMap Nd.addrs = [x, d, ch, cm, vr, ex, pa] := by rw [← hadr]; simp
  have all2 := (List.nodup_cons.mp (List.nodup_cons.mp all).2).2
  have hhas : ∀ q, has [nd] q = true ↔ q = [] := by
    intro q
    rw [has_iff]
    constructor
    · rintro ⟨n, hn, e⟩; rw [one n hn, hpth] at e; exact e.symm
    · rintro rfl; exact ⟨nd, .head _, hpth⟩
  have hT : Tree [nd] := {
    nodup := by simp
    root := (hhas []).mpr rfl
    kid := by
      intro n hn p v
      have hk : n.kids = [] := by rw [one n hn, hnd0]
      rw [hk]
      constructor
      · intro h; exact nomatch h
      · rintro ⟨c, hc, e, _⟩; rw [one n hn, one c hc, hpth] at e; simp at e
    up := by intro n hn q p e; rw [one n hn, hpth] at e; simp at e
    top := by intro n hn _; rw [one n hn, hnd0]
    part := by intro n hn p hp; rw [one n hn, hpth] at hp; exact nomatch hp
    adr := by rw [hfl]; exact (List.nodup_append.mp all2).2.1
    len := by simp
    deep := by intro n hn; rw [one n hn, hpth]; simp
    few := by intro n hn; rw [one n hn, hnd0]; simp }
  refine ⟨⟨hT, fun n hn => ?_⟩, ⟨⟨⟨⟨oh, hh, ?_⟩, lh⟩, fun c hc => ?_⟩, ⟨⟨om, hm, ?_⟩, lm⟩, ⟨⟨⟨oq, hq, ?_⟩, lq⟩, fun c hc => ?_⟩, fun c hc => ?_, hb, ?_, by simp, fun c hc p hp => ?_, ?_⟩, ⟨nd, .head _, hpth, by rw [hnd0]⟩, by simp [hpth, hbp], fun c hc n hn _ => ?_, ⟨⟨ot, [[]], ht, ?_, by simp, fun q => ?_⟩, lt⟩, ⟨oc, hC, dC⟩, ?_, fun c hc => ?_, by simp⟩
  · rw [one n hn, hnd0]
    rw [hnd0] at hd
    exact ⟨hx, hd, ⟨⟨och, hch, ich⟩, lch⟩, ⟨⟨ocm, hcm, icm⟩, lcm⟩, ⟨⟨ovr', hvr, ivr⟩, lvr⟩, hex, hpa⟩
  · rw [hb0]; exact ih
  · rw [oneb c hc, hb0]; exact ⟨⟨⟨oha, hha, iha⟩, lha⟩, fun k v hv => nomatch hv⟩
  · rw [hb0]; exact im
  · rw [hb0]; exact iq
  · rw [oneb c hc, hb0]; exact ⟨hqa, .nil, Nat.zero_le _⟩
  · rw [oneb c hc, hb0]; exact ⟨hma, .nil⟩
  · rw [hb0]; exact .cons _ _ .nil
  · rw [oneb c hc, hbp] at hp; exact nomatch hp
  · rw [hoad]; exact (List.nodup_append.mp all2).1
  · rw [oneb c hc, one n hn, hb0, hnd0]; exact ⟨.nil, .nil, .nil⟩
  · have e : tkv [nd] [[]] = [(Str.ofString "::", .ref x)] := by
      have := hT.xAt (nd := nd) (.head _)
      rw [hpth] at this
      unfold tkv
      rw [List.map_singleton, this, hnd0]; rfl
    rw [e]; exact it
  · rw [hhas]; exact List.mem_singleton
  · rw [hoad, hfl]; exact all
  · rw [oneb c hc, hb0]; exact ⟨(fun x hx => nomatch hx), (fun p hp => nomatch hp)⟩
/-- nothing but names and marks so far -/
structure Bare (ns : List Nd) (bs : List Bn) : Prop where
  b : ∀ b ∈ bs, b.kv = [] ∧ b.pq = []
  n : ∀ nd ∈ ns, nd.cmds = [] ∧ nd.path = #[]
structure Cnt (i : Nat) (ns : List Nd) (bs : List Bn) : Prop where
  few : ns.length ≤ 1 + 5 * i
  deep : ∀ nd ∈ ns, nd.pth.length ≤ 4 * i
  mks : ∀ b ∈ bs, b.mks.length ≤ i
theorem book_at {bs : List Bn} {k : Nat} {p : Str} (h : (bs.map fun b => nmOf b.pth)[k]? = some p) : ∃ b ∈ bs, p = nmOf b.pth := by
  rw [List.getElem?_map] at h
  cases hb : bs[k]? with
  | none => rw [hb] at h; cases h
  | some b => rw [hb] at h; exact ⟨b, List.mem_of_getElem? hb, (Option.some.inj h).symm⟩
theorem menu_len {p : Str} (h : p ∈ menu) : p.length ≤ 100 := by
  rw [len_cps]
  rcases menu_cps h with e | e | e | e <;> rw [e] <;> decide
theorem put_step {led : Led} {dd aa : Addr} {o o' oa : Obj} (h1 : (dd, o) ∈ led) (hlt : ∀ p ∈ led, p.1 < aa) :
    (dd, o') ∈ setL dd o' ((aa, oa) :: led) ∧ (aa, oa) ∈ setL dd o' ((aa, oa) :: led) ∧ ∀ p ∈ led, p.1 ≠ dd → p ∈ setL dd o' ((aa, oa) :: led) :=
  ⟨setL_self (.tail _ h1), setL_ne (.head _) (Nat.ne_of_lt (hlt _ h1)).symm, fun p hp hn => setL_ne (.tail _ hp) hn⟩
theorem addAll_snoc (P : List (List Str)) (l : List (List Str)) (q : List Str) : addAll P (l ++ [q]) = if q ∈ addAll P l then addAll P l else addAll P l ++ [q] := by
  unfold addAll; rw [List.foldl_append]; rfl
/-- between the steps of a turn: the law's own things while new names are put down -/
structure Grow (w : World) (base nw : Led) (bs bs1 : List Bn) (hA mA pA bA : Addr) (bv : Array Value) (kb : Nat) (l : List (List Str)) : Prop where
  own : Own w nw bs1 hA mA pA bA bv kb
  pths : bs1.map (·.pth) = addAll (bs.map (·.pth)) l
  ext : ∃ ext, bs1 = bs ++ ext ∧ ∀ c ∈ ext, c.kv = [] ∧ c.pq = [] ∧ c.mks = []
  keep : ∀ p ∈ base, p.1 ∉ oad hA mA pA bA bs → p ∈ nw
  fresh : ∀ a ∈ oad hA mA pA bA bs1, a ∈ oad hA mA pA bA bs ∨ ∀ p ∈ base, p.1 < a
  len : bs1.length ≤ bs.length + l.length
section
variable {w : World} {base nw nw' : Led} {bs bs1 : List Bn} {hA mA pA bA : Addr} {bv : Array Value} {kb : Nat} {l : List (List Str)} {q : List Str}
theorem Grow.start (h : Own w base bs hA mA pA bA bv kb) : Grow w base base bs bs hA mA pA bA bv kb [] :=
  ⟨h, rfl, ⟨[], by simp, by simp⟩, fun p hp _ => hp, fun a ha => .inl ha, by simp⟩
theorem Grow.old (G : Grow w base nw bs bs1 hA mA pA bA bv kb l) (hs : ∀ p ∈ nw, p ∈ nw') (hq : q ∈ bs1.map (·.pth)) : Grow w base nw' bs bs1 hA mA pA bA bv kb (l ++ [q]) := by
  refine ⟨G.own.keep fun p hp _ => hs p hp, ?_, G.ext, fun p hp hn => hs p (G.keep p hp hn), G.fresh, by have := G.len; simp; omega⟩
  rw [addAll_snoc, ← G.pths, if_pos hq]
theorem Grow.new (G : Grow w base nw bs bs1 hA mA pA bA bv kb l) {ha ma qa : Addr} {bv' : Array Value} {kb' : Nat} (hq : q ∉ bs1.map (·.pth)) (hown : Own w nw' (bs1 ++ [⟨q, ha, ma, qa, [], [], #[], 0, [], #[], 0⟩]) hA mA pA bA bv' kb')
    (hkeep : ∀ p ∈ nw, p.1 ≠ hA → p.1 ≠ mA → p.1 ≠ pA → p.1 ≠ bA → p ∈ nw') (hf : ∀ p ∈ base, p.1 < ha ∧ p.1 < ma ∧ p.1 < qa) : Grow w base nw' bs (bs1 ++ [⟨q, ha, ma, qa, [], [], #[], 0, [], #[], 0⟩]) hA mA pA bA bv' kb' (l ++ [q]) := by
  obtain ⟨ext, he, hx⟩ := G.ext
  refine ⟨hown, ?_, ⟨ext ++ [⟨q, ha, ma, qa, [], [], #[], 0, [], #[], 0⟩], by rw [he, List.append_assoc], fun c hc => ?_⟩, fun p hp hn => ?_, fun a ha' => ?_, by have := G.len; simp; omega⟩
  · rw [addAll_snoc, ← G.pths, if_neg hq, List.map_append]; rfl
  · rcases List.mem_append.mp hc with hc | hc
    · exact hx c hc
    · rw [List.mem_singleton.mp hc]; exact ⟨rfl, rfl, rfl⟩
  · refine hkeep p (G.keep p hp hn) ?_ ?_ ?_ ?_ <;> (intro e; apply hn; rw [e]; unfold oad; simp)
  · have : oad hA mA pA bA (bs1 ++ [(⟨q, ha, ma, qa, [], [], #[], 0, [], #[], 0⟩ : Bn)]) = oad hA mA pA bA bs1 ++ [ha, ma, qa] := by
      unfold oad; rw [List.flatMap_append]; rfl
    rw [this] at ha'
    rcases List.mem_append.mp ha' with ha' | ha'
    · exact G.fresh a ha'
    · simp only [List.mem_cons, List.not_mem_nil, or_false] at ha'
      rcases ha' with rfl | rfl | rfl
      · exact .inr fun p hp => (hf p hp).1
      · exact .inr fun p hp => (hf p hp).2.1
      · exact .inr fun p hp => (hf p hp).2.2
end
theorem stepsP_len : ∀ (ps q : List Str), (stepsP q ps).length ≤ ps.length + 1
  | [], q => Nat.le_refl _
  | p :: r, q => by
    unfold stepsP
    split
    · have := stepsP_len r q; simp; omega
    · have := stepsP_len r (q ++ [p]); simp; omega
theorem fresh_lt {led : Led} {I a : Addr} (h : I < a ∧ AllLt a led) (it : Obj) : ∀ p ∈ (I, it) :: led, p.1 < a := fun p hp => by
  rcases List.mem_cons.mp hp with e | hp
  · rw [e]; exact h.1
  · exact ktn_ltOf h.2 p hp
theorem mem_rest {led : Led} {d : Addr} {p : Addr × Obj} (h : p ∈ led) (hn : p.1 ≠ d) : p ∈ rest d led := List.mem_filter.mpr ⟨h, decide_eq_true hn⟩
theorem rest_in {led : Led} {d : Addr} {p : Addr × Obj} (h : p ∈ rest d led) : p ∈ led ∧ p.1 ≠ d := by
  obtain ⟨h1, h2⟩ := List.mem_filter.mp h
  exact ⟨h1, of_decide_eq_true h2⟩
theorem Grow.below {w : World} {base nw : Led} {bs bs1 : List Bn} {hA mA pA bA : Addr} {bv : Array Value} {kb : Nat} {l : List (List Str)} (G : Grow w base nw bs bs1 hA mA pA bA bv kb l) {a : Addr} (h : ∀ p ∈ nw, p.1 < a) : ∀ p ∈ base, p.1 < a := by
  intro p hp
  by_cases hm : p.1 ∈ oad hA mA pA bA bs
  · obtain ⟨ext, he, _⟩ := G.ext
    have hm2 : p.1 ∈ oad hA mA pA bA bs1 := by
      rw [he]
      unfold oad at hm ⊢
      rw [List.flatMap_append]
      simp only [List.mem_cons, List.mem_append] at hm ⊢
      rcases hm with e | e | e | e | e
      · exact .inl e
      · exact .inr (.inl e)
      · exact .inr (.inr (.inl e))
      · exact .inr (.inr (.inr (.inl e)))
      · exact .inr (.inr (.inr (.inr (.inl e))))
    obtain ⟨o, ho⟩ := G.own.mem _ hm2
    exact h (p.1, o) ho
  · exact h p (G.keep p hp hm)
/-- the names of law -/
def lawM (script' root' held' marks' paths' book' k' number' here' text' is_absolute' parts' steps' name' made' last' drawn' space' due' : Option Value) : Str → Option Value :=
  ovr [(Str.ofString "script", script'), (Str.ofString "root", root'), (Str.ofString "held", held'), (Str.ofString "marks", marks'), (Str.ofString "paths", paths'), (Str.ofString "book", book'), (Str.ofString "k", k'), (Str.ofString "number", number'), (Str.ofString "here", here'), (Str.ofString "text", text'), (Str.ofString "is_absolute", is_absolute'), (Str.ofString "parts", parts'), (Str.ofString "steps", steps'), (Str.ofString "name", name'), (Str.ofString "made", made'), (Str.ofString "last", last'), (Str.ofString "drawn", drawn'), (Str.ofString "space", space'), (Str.ofString "due", due')]
end
section
open PySem PySem.W PyProof.Rows PySem.Calls
set_option Elab.async false
set_option maxRecDepth 100000
/-- what the law holds between its steps, but for the dict of names -/
structure Mid (w : World) (led : Led) (C : Addr) (ns : List Nd) (bs : List Bn) (rx hA mA pA bA : Addr) (bv : Array Value) (kb : Nat) (i : Nat) : Prop where
  rep : Rep w led ns
  own : Own w led bs hA mA pA bA bv kb
  root : ∃ rt ∈ ns, rt.pth = [] ∧ rt.x = rx
  same : ns.map (·.pth) = bs.map (·.pth)
  mat : ∀ b ∈ bs, ∀ nd ∈ ns, nd.pth = b.pth → StrsAre nd.exps.toList b.mks
  bare : Bare ns bs
  cell : ∃ oc v, (C, oc) ∈ led ∧ oc.data = .cell v
  adr : (C :: (oad hA mA pA bA bs ++ ns.flatMap Nd.addrs)).Nodup
  ok : ∀ b ∈ bs, ∀ x ∈ b.mks, PyData.strOk x = true
  few : ns.length ≤ 1 + 5 * (i + 1)
  deep : ∀ nd ∈ ns, nd.pth.length ≤ 4 * (i + 1)
theorem addAll_sub {P l : List (List Str)} {q : List Str} (h : q ∈ addAll P l) : q ∈ P ∨ q ∈ l := by
  unfold addAll at h
  induction l generalizing P with
  | nil => exact .inl h
  | cons a l ih =>
    rw [List.foldl_cons] at h
    rcases ih h with h | h
    · split at h
      · exact .inl h
      · rcases List.mem_append.mp h with h | h
        · exact .inl h
        · rw [List.mem_singleton.mp h]; exact .inr (.head _)
    · exact .inr (.tail _ h)
theorem stepsP_deep : ∀ (ps q r : List Str), r ∈ stepsP q ps → r.length ≤ q.length + ps.length
  | [], q, r, h => by rw [List.mem_singleton.mp h]; simp
  | p :: ps, q, r, h => by
    unfold stepsP at h
    split at h
    · have := stepsP_deep ps q r h; simp; omega
    · rcases List.mem_cons.mp h with rfl | h
      · omega
      · have := stepsP_deep ps _ r h; simp at this ⊢; omega
section
variable {w : World} {news1 base nw led : Led} {C : Addr} {ns ns' : List Nd} {bs bs1 : List Bn} {rx hA mA pA bA td : Addr} {bv bv1 : Array Value} {kb kb1 i : Nat} {q0 ps : List Str}
theorem Mid.make (S : St w news1 C ns bs rx hA mA pA bA td bv kb) (Ba : Bare ns bs) (Cn : Cnt i ns bs) (G : Grow w base nw bs bs1 hA mA pA bA bv1 kb1 (stepsP q0 ps)) (hsub : ∀ p ∈ news1, p ∈ base)
    (R : Rep w led ns') (Gr : Grown ns ns') (hp : ns'.map (·.pth) = addAll (ns.map (·.pth)) (stepsP q0 ps)) (hkeep : ∀ p ∈ nw, p.1 ∉ ns.flatMap Nd.addrs → p ∈ led ∧ p.1 ∉ ns'.flatMap Nd.addrs) (h4 : ps.length ≤ 4) (hq : q0.length ≤ 4 * i) :
    Mid w led C ns' bs1 rx hA mA pA bA bv1 kb1 i := by
  have hsame : ns'.map (·.pth) = bs1.map (·.pth) := by rw [hp, G.pths, S.same]
  have hadr := List.nodup_cons.mp (List.nodup_cons.mp S.adr).2
  have hdis := (List.nodup_append.mp hadr.2).2.2
  obtain ⟨oc, hoc, hocd⟩ := S.cell
  have hCo : C ∉ oad hA mA pA bA bs := fun h => hadr.1 (List.mem_append_left _ h)
  have hCn : C ∉ ns.flatMap Nd.addrs := fun h => hadr.1 (List.mem_append_right _ h)
  have hCnw : (C, oc) ∈ nw := G.keep _ (hsub _ hoc) hCo
  have hCk := hkeep _ hCnw hCn
  have hoadn : ∀ a ∈ oad hA mA pA bA bs1, a ∉ ns.flatMap Nd.addrs := by
    intro a ha hn
    rcases G.fresh a ha with h | h
    · exact hdis a h a hn rfl
    · obtain ⟨o, ho⟩ := S.rep.addr_mem a hn
      exact absurd (h _ (hsub _ ho)) (Nat.lt_irrefl _)
  obtain ⟨kf, ext, hns, hext⟩ := Gr
  obtain ⟨extb, hbs, hextb⟩ := G.ext
  have hnd1 := R.tree.nodup
  have hndb := G.own.nodup
  refine ⟨R, G.own.keep fun p hp' hm => (hkeep p hp' (hoadn _ hm)).1, ?_, hsame, ?_, ⟨?_, ?_⟩, ⟨oc, _, hCk.1, hocd⟩, ?_, ?_, ?_, ?_⟩
  · obtain ⟨rt, hrt, e1, e2⟩ := S.root
    refine ⟨{ rt with kids := kf rt }, ?_, e1, e2⟩
    rw [hns]; exact List.mem_append_left _ (List.mem_map.mpr ⟨rt, hrt, rfl⟩)
  · intro b hb nd hnd e
    rw [hns] at hnd
    rw [hbs] at hb
    rcases List.mem_append.mp hnd with hnd | hnd <;> rcases List.mem_append.mp hb with hb | hb
    · obtain ⟨n0, hn0, rfl⟩ := List.mem_map.mp hnd
      exact (S.mat b hb n0 hn0 e).1
    · obtain ⟨n0, hn0, rfl⟩ := List.mem_map.mp hnd
      exfalso
      rw [hbs, List.map_append, List.nodup_append] at hndb
      have h1 : n0.pth ∈ bs.map (·.pth) := by rw [← S.same]; exact List.mem_map.mpr ⟨n0, hn0, rfl⟩
      exact hndb.2.2 _ h1 _ (List.mem_map.mpr ⟨b, hb, rfl⟩) e
    · exfalso
      rw [hns, List.map_append, List.nodup_append] at hnd1
      have h1 : b.pth ∈ ns.map (·.pth) := by rw [S.same]; exact List.mem_map.mpr ⟨b, hb, rfl⟩
      obtain ⟨n0, hn0, e0⟩ := List.mem_map.mp h1
      have e0 : n0.pth = b.pth := e0
      refine hnd1.2.2 n0.pth (List.mem_map.mpr ⟨{ n0 with kids := kf n0 }, List.mem_map.mpr ⟨n0, hn0, rfl⟩, rfl⟩) _ (List.mem_map.mpr ⟨nd, hnd, rfl⟩) (by rw [e0, e])
    · rw [(hext nd hnd).2.1, (hextb b hb).2.2]; exact .nil
  · intro b hb
    rw [hbs] at hb
    rcases List.mem_append.mp hb with hb | hb
    · exact Ba.b b hb
    · exact ⟨(hextb b hb).1, (hextb b hb).2.1⟩
  · intro nd hnd
    rw [hns] at hnd
    rcases List.mem_append.mp hnd with hnd | hnd
    · obtain ⟨n0, hn0, rfl⟩ := List.mem_map.mp hnd
      exact Ba.n n0 hn0
    · exact ⟨(hext nd hnd).1, (hext nd hnd).2.2⟩
  · refine List.nodup_cons.mpr ⟨fun h => ?_, List.nodup_append.mpr ⟨G.own.adr, R.tree.adr, fun a ha b hb e => ?_⟩⟩
    · rcases List.mem_append.mp h with h | h
      · rcases G.fresh _ h with h2 | h2
        · exact hCo h2
        · exact absurd (h2 _ (hsub _ hoc)) (Nat.lt_irrefl _)
      · exact hCk.2 h
    · obtain ⟨o, ho⟩ := G.own.mem a ha
      exact (hkeep _ ho (hoadn a ha)).2 (e ▸ hb)
  · intro b hb x hx
    rw [hbs] at hb
    rcases List.mem_append.mp hb with hb | hb
    · exact (S.ok b hb).1 x hx
    · rw [(hextb b hb).2.2] at hx; exact nomatch hx
  · have h1 := congrArg List.length hsame
    rw [List.length_map, List.length_map] at h1
    have h2 := G.len
    have h3 := stepsP_len ps q0
    have h5 := congrArg List.length S.same
    rw [List.length_map, List.length_map] at h5
    have h6 := Cn.few
    omega
  · intro nd hnd
    have hm : nd.pth ∈ ns'.map (·.pth) := List.mem_map.mpr ⟨nd, hnd, rfl⟩
    rw [hp] at hm
    rcases addAll_sub hm with hm | hm
    · obtain ⟨n0, hn0, e⟩ := List.mem_map.mp hm
      have e : n0.pth = nd.pth := e
      have := Cn.deep n0 hn0
      rw [← e]; omega
    · have := stepsP_deep ps q0 _ hm
      omega
theorem Grow.mks (Cn : Cnt i ns bs) (G : Grow w base nw bs bs1 hA mA pA bA bv1 kb1 (stepsP q0 ps)) : ∀ b ∈ bs1, b.mks.length ≤ i := by
  obtain ⟨extb, hbs, hextb⟩ := G.ext
  intro b hb
  rw [hbs] at hb
  rcases List.mem_append.mp hb with hb | hb
  · exact Cn.mks b hb
  · rw [(hextb b hb).2.2]; exact Nat.zero_le _
end
section
variable {w : World} {led led' : Led} {C : Addr} {ns : List Nd} {bs : List Bn} {rx hA mA pA bA td : Addr} {bv : Array Value} {kb i : Nat} {nd : Nd} {b : Bn}
theorem Mid.put (M : Mid w led C ns bs rx hA mA pA bA bv kb i) (hnd : nd ∈ ns) (hb : b ∈ bs) (hbn : b.pth = nd.pth) {x : Str} {t : Tok} (hx : PyData.strOk x = true)
    (h1 : (nd.ex, PySem.W.listOf (nd.exps.push (.str x t)) (nd.ke + 1)) ∈ led') (h2 : (b.ma, PySem.W.listOf (b.mv.push (.str x t)) (b.km + 1)) ∈ led') (hold : ∀ p ∈ led, p.1 ≠ nd.ex → p.1 ≠ b.ma → p ∈ led') :
    Mid w led' C (updN ns { nd with exps := nd.exps.push (.str x t), ke := nd.ke + 1 }) (updB bs { b with mv := b.mv.push (.str x t), km := b.km + 1, mks := b.mks ++ [x] }) rx hA mA pA bA bv kb i := by
  have hadr := List.nodup_cons.mp M.adr
  have hdis := (List.nodup_append.mp hadr.2).2.2
  have hexn : ∀ m ∈ ns, ∀ a ∈ m.addrs, a ∈ ns.flatMap Nd.addrs := fun m hm a ha => List.mem_flatMap.mpr ⟨m, hm, ha⟩
  have hex : nd.ex ∈ ns.flatMap Nd.addrs := hexn nd hnd _ (by first | exact Nd.mx _ | exact Nd.md _ | exact Nd.mch _ | exact Nd.mcm _ | exact Nd.mvr _ | exact Nd.mex _ | exact Nd.mpa _)
  have hma : b.ma ∈ oad hA mA pA bA bs := (oad_line hb).2.1
  have hoE : ∀ a ∈ oad hA mA pA bA bs, a ≠ nd.ex := fun a ha e => hdis a ha _ hex e
  have hnM : ∀ a ∈ ns.flatMap Nd.addrs, a ≠ b.ma := fun a ha e => hdis _ hma a ha e.symm
  have hN := M.rep.node nd hnd
  have hown := M.rep.tree.own hnd
  have own := OwnD.of hown
  have hold2 : ∀ p ∈ led, p.1 ∈ ns.flatMap Nd.addrs → p.1 ≠ nd.ex → p ∈ led' := fun p hp hm hn => hold p hp hn (hnM _ hm)
  have hua := updN_addrs (n2 := { nd with exps := nd.exps.push (.str x t), ke := nd.ke + 1 }) M.rep.tree hnd rfl rfl
  have hub := M.own.updOad (b2 := { b with mv := b.mv.push (.str x t), km := b.km + 1, mks := b.mks ++ [x] }) hb rfl ⟨rfl, rfl, rfl⟩
  have hT := M.rep.tree.upd (n2 := { nd with exps := nd.exps.push (.str x t), ke := nd.ke + 1 }) hnd rfl rfl rfl rfl (by rw [hua]; exact M.rep.tree.adr)
  have hme := M.mat b hb nd hnd hbn.symm
  refine ⟨M.rep.upd hT ?_ fun m hm hne => ?_, M.own.updM hb h2 ?_ fun p hp hm hn => hold p hp (hoE _ hm) hn, ?_, ?_, ?_, ⟨?_, ?_⟩, ?_, ?_, ?_, ?_, ?_⟩
  · exact {
      hx := hold2 _ hN.hx (hexn nd hnd _ (by first | exact Nd.mx _ | exact Nd.md _ | exact Nd.mch _ | exact Nd.mcm _ | exact Nd.mvr _ | exact Nd.mex _ | exact Nd.mpa _)) own.n5
      hd := hold2 _ hN.hd (hexn nd hnd _ (by first | exact Nd.mx _ | exact Nd.md _ | exact Nd.mch _ | exact Nd.mcm _ | exact Nd.mvr _ | exact Nd.mex _ | exact Nd.mpa _)) own.n10
      hch := hN.hch.mono fun p hp e => hold2 p hp (by rw [e]; exact hexn nd hnd _ (by first | exact Nd.mx _ | exact Nd.md _ | exact Nd.mch _ | exact Nd.mcm _ | exact Nd.mvr _ | exact Nd.mex _ | exact Nd.mpa _)) (by rw [e]; exact own.n14)
      hcm := hN.hcm.mono fun p hp e => hold2 p hp (by rw [e]; exact hexn nd hnd _ (by first | exact Nd.mx _ | exact Nd.md _ | exact Nd.mch _ | exact Nd.mcm _ | exact Nd.mvr _ | exact Nd.mex _ | exact Nd.mpa _)) (by rw [e]; exact own.n17)
      hvr := hN.hvr.mono fun p hp e => hold2 p hp (by rw [e]; exact hexn nd hnd _ (by first | exact Nd.mx _ | exact Nd.md _ | exact Nd.mch _ | exact Nd.mcm _ | exact Nd.mvr _ | exact Nd.mex _ | exact Nd.mpa _)) (by rw [e]; exact own.n19)
      hex := h1
      hpa := hold2 _ hN.hpa (hexn nd hnd _ (by first | exact Nd.mx _ | exact Nd.md _ | exact Nd.mch _ | exact Nd.mcm _ | exact Nd.mvr _ | exact Nd.mex _ | exact Nd.mpa _)) (fun e => own.n21 e.symm) }
  · exact (M.rep.node m hm).mono fun p hp hm2 => hold2 p hp (hexn m hm _ hm2) (M.rep.tree.apart hm hnd hne _ hm2 _ (by first | exact Nd.mx _ | exact Nd.md _ | exact Nd.mch _ | exact Nd.mcm _ | exact Nd.mvr _ | exact Nd.mex _ | exact Nd.mpa _))
  · rw [Array.toList_push]; exact (M.own.mm b hb).2.append' (.cons _ _ .nil)
  · obtain ⟨rt, hrt, e1, e2⟩ := M.root
    obtain ⟨c, hc, e3, e4⟩ := updN_like (n2 := { nd with exps := nd.exps.push (.str x t), ke := nd.ke + 1 }) M.rep.tree hnd rfl rfl hrt
    exact ⟨c, hc, by rw [e3, e1], by rw [e4, e2]⟩
  · rw [updN_pth, updB_pth]; exact M.same
  · intro c hc m hm e
    rcases updB_mem hc with rfl | ⟨hc, hcn⟩ <;> rcases updN_mem hm with rfl | ⟨hm, hmn⟩
    · dsimp only
      rw [Array.toList_push]
      exact hme.append' (.cons _ _ .nil)
    · exact absurd (e.trans hbn) hmn
    · exact absurd (e.symm.trans hbn.symm) hcn
    · exact M.mat c hc m hm e
  · intro c hc
    rcases updB_mem hc with rfl | ⟨hc, _⟩
    · exact M.bare.b b hb
    · exact M.bare.b c hc
  · intro m hm
    rcases updN_mem hm with rfl | ⟨hm, _⟩
    · exact M.bare.n nd hnd
    · exact M.bare.n m hm
  · obtain ⟨oc, v, hoc, hd⟩ := M.cell
    exact ⟨oc, v, hold _ hoc (fun e => hadr.1 (List.mem_append_right _ (by rw [show C = nd.ex from e]; exact hex))) (fun e => hadr.1 (List.mem_append_left _ (by rw [show C = b.ma from e]; exact hma))), hd⟩
  · rw [hua, hub]; exact M.adr
  · intro c hc y hy
    rcases updB_mem hc with rfl | ⟨hc, _⟩
    · rcases List.mem_append.mp hy with hy | hy
      · exact M.ok b hb y hy
      · rw [List.mem_singleton.mp hy]; exact hx
    · exact M.ok c hc y hy
  · rw [updN_len]; exact M.few
  · intro m hm
    rcases updN_mem hm with rfl | ⟨hm, _⟩
    · exact M.deep nd hnd
    · exact M.deep m hm
theorem mks_put (h : ∀ c ∈ bs, c.mks.length ≤ i) (hb : b ∈ bs) {mv : Array Value} {km : Nat} {x : Str} : ∀ c ∈ updB bs { b with mv := mv, km := km, mks := b.mks ++ [x] }, c.mks.length ≤ i + 1 := by
  intro c hc
  rcases updB_mem hc with rfl | ⟨hc, _⟩
  · have := h b hb; simp; omega
  · have := h c hc; omega
theorem Mid.cnt (M : Mid w led C ns bs rx hA mA pA bA bv kb i) (h : ∀ c ∈ bs, c.mks.length ≤ i + 1) : Cnt (i + 1) ns bs := ⟨M.few, M.deep, h⟩
theorem Mid.tree (M : Mid w led C ns bs rx hA mA pA bA bv kb i) (hi : i < 4) {oc o : Obj} {D : List (List Str)} (hC : (C, oc) ∈ led') (hCd : oc.data = .cell (some (.ref td))) (ht : (td, o) ∈ led') (ho : o.IsDictOf (SK w) (tkv ns D)) (hts : (td == sysModules) = false)
    (hD : D.Nodup) (hDa : ∀ q, q ∈ D ↔ has ns q = true) (hold : ∀ p ∈ led, p.1 ≠ C → p ∈ led') (hlt : ∀ p ∈ led, p.1 < td) : St w led' C ns bs rx hA mA pA bA td bv kb where
  rep := M.rep.keep fun p hp hm => hold p hp fun e => (List.nodup_cons.mp M.adr).1 (List.mem_append_right _ (e ▸ hm))
  own := M.own.keep fun p hp hm => hold p hp fun e => (List.nodup_cons.mp M.adr).1 (List.mem_append_left _ (e ▸ hm))
  root := M.root
  same := M.same
  mat := fun b hb nd hnd e => by
    rw [(M.bare.b b hb).1, (M.bare.b b hb).2, (M.bare.n nd hnd).1, (M.bare.n nd hnd).2]
    exact ⟨M.mat b hb nd hnd e, .nil, .nil⟩
  tree := ⟨⟨o, D, ht, ho, hD, hDa⟩, hts⟩
  cell := ⟨oc, hC, hCd⟩
  adr := by
    refine List.nodup_cons.mpr ⟨fun h => ?_, M.adr⟩
    have : ∃ o, (td, o) ∈ led := by
      rcases List.mem_cons.mp h with e | h
      · obtain ⟨oc, v, hoc, _⟩ := M.cell; exact ⟨oc, e ▸ hoc⟩
      · rcases List.mem_append.mp h with h | h
        · exact M.own.mem _ h
        · exact M.rep.addr_mem _ h
    obtain ⟨o, ho⟩ := this
    exact absurd (hlt _ ho) (Nat.lt_irrefl _)
  ok := fun b hb => ⟨M.ok b hb, by rw [(M.bare.b b hb).1]; exact fun p hp => nomatch hp⟩
  few := by have := M.few; omega
theorem St.restBare (S : St w led C ns bs rx hA mA pA bA td bv kb) (Ba : Bare ns bs) {I : Addr} (hI : I ∉ td :: C :: (oad hA mA pA bA bs ++ ns.flatMap Nd.addrs)) : St w (rest I led) C ns bs rx hA mA pA bA td bv kb := by
  have key : ∀ p ∈ led, p.1 ∈ td :: C :: (oad hA mA pA bA bs ++ ns.flatMap Nd.addrs) → p ∈ rest I led := fun p hp hm => mem_rest hp fun e => hI (e ▸ hm)
  refine ⟨S.rep.keep fun p hp hm => key p hp (.tail _ (.tail _ (List.mem_append_right _ hm))), S.own.keep fun p hp hm => key p hp (.tail _ (.tail _ (List.mem_append_left _ hm))), S.root, S.same, fun b hb nd hnd e => ?_, S.tree.mono fun p hp e => key p hp (by rw [e]; exact .head _), ?_, S.adr, S.ok, S.few⟩
  · obtain ⟨h1, h2, _⟩ := S.mat b hb nd hnd e
    refine ⟨h1, h2, ?_⟩
    rw [(Ba.b b hb).1, (Ba.n nd hnd).1]; exact .nil
  · obtain ⟨oc, h1, h2⟩ := S.cell
    exact ⟨oc, key _ h1 (.tail _ (.head _)), h2⟩
end
end
section
open PySem PySem.W PyProof.Rows PySem.Calls
set_option Elab.async false
set_option maxRecDepth 100000
theorem xAt_none {ns : List Nd} {q : List Str} (h : has ns q = false) : xAt ns q = .none := by
  unfold xAt
  cases hf : ns.find? fun nd => decide (nd.pth = q) with
  | none => rfl
  | some nd =>
    have h2 := has_iff.mpr ⟨nd, List.mem_of_find?_eq_some hf, by simpa using List.find?_some hf⟩
    rw [h2] at h; cases h
theorem tkv_upd {ns : List Nd} {n n2 : Nd} (T : Tree ns) (T' : Tree (updN ns n2)) (hn : n ∈ ns) (e1 : n2.pth = n.pth) (ex : n2.x = n.x) (D : List (List Str)) : tkv (updN ns n2) D = tkv ns D := by
  unfold tkv
  refine List.map_congr_left fun q _ => ?_
  congr 1
  cases h : has ns q with
  | true =>
    obtain ⟨nd, hnd, rfl⟩ := has_iff.mp h
    obtain ⟨c, hc, h1, h2⟩ := updN_like (n2 := n2) T hn e1 ex hnd
    rw [T.xAt hnd, ← h1, T'.xAt hc, h2]
  | false =>
    rw [xAt_none h, xAt_none (by rw [updN_has]; exact h)]
theorem stored_mem {kvs : List (Str × Value)} {k : Str} {v : Value} {p : Str × Value} (h : p ∈ stored kvs k v) : p.1 = k ∨ p ∈ kvs := by
  unfold stored at h
  split at h
  · obtain ⟨q, hq, e⟩ := List.mem_map.mp h
    by_cases hk : q.1 = k
    · rw [if_pos hk] at e; rw [← e]; exact .inl (by first | rfl | exact hk)
    · rw [if_neg hk] at e; rw [← e]; exact .inr hq
  · rcases List.mem_append.mp h with h | h
    · exact .inr h
    · rw [List.mem_singleton.mp h]; exact .inl rfl
section
variable {w : World} {news : Led} {sx cx : Addr} {cs kv : List (Str × Value)} {k : Str} {d : Int} {t : Tok}
theorem CmdsAre.app (h : CmdsAre w news sx cs kv) {cs2 kv2 : List (Str × Value)} (h2 : CmdsAre w news sx cs2 kv2) : CmdsAre w news sx (cs ++ cs2) (kv ++ kv2) := by
  induction h with
  | nil => exact h2
  | cons a _ ih => exact .cons a ih
theorem CmdsAre.repl (h : CmdsAre w news sx cs kv) (hc : CmdIn w news cx sx k d) : CmdsAre w news sx (cs.map fun kv => if kv.1 = k then (kv.1, .ref cx) else kv) (kv.map fun kv => if kv.1 = k then (kv.1, .int d t) else kv) := by
  induction h with
  | nil => exact .nil
  | @cons k' cx' d' t' cs kv a _ ih =>
    rw [List.map_cons, List.map_cons]
    by_cases e : k' = k
    · subst e; rw [if_pos rfl, if_pos rfl]; exact .cons hc ih
    · rw [if_neg e, if_neg e]; exact .cons a ih
theorem CmdsAre.any (h : CmdsAre w news sx cs kv) : (cs.any fun p => decide (p.1 = k)) = kv.any fun p => decide (p.1 = k) := by
  induction h with
  | nil => rfl
  | cons _ _ ih => rw [List.any_cons, List.any_cons, ih]
theorem CmdsAre.stored (h : CmdsAre w news sx cs kv) (hc : CmdIn w news cx sx k d) : CmdsAre w news sx (PySem.stored cs k (.ref cx)) (PySem.stored kv k (.int d t)) := by
  unfold PySem.stored
  rw [h.any (k := k)]
  split
  · exact h.repl hc
  · exact h.app (.cons hc .nil)
end
section
variable {w : World} {led led' : Led} {C : Addr} {ns : List Nd} {bs : List Bn} {rx hA mA pA bA td : Addr} {bv : Array Value} {kb i : Nat} {nd : Nd} {b : Bn}
theorem St.cmd (S : St w led C ns bs rx hA mA pA bA td bv kb) (hnd : nd ∈ ns) (hb : b ∈ bs) (hbn : nd.pth = b.pth) {last : Str} (hl : last ∈ [Str.ofString "x", Str.ofString "a", Str.ofString "c:d", Str.ofString ""]) {cx : Addr} {dat : Int} {t : Tok} {ocm' oh' : Obj}
    (h1 : (nd.cm, ocm') ∈ led') (h1' : ocm'.IsDictOf (SK w) (stored nd.cmds last (.ref cx))) (h2 : (b.ha, oh') ∈ led') (h2' : oh'.IsDictOf (SK w) (stored b.kv last (.int dat t)))
    (hc : CmdIn w (aside (adrs td C hA mA pA bA bs ns) led') cx nd.x last dat) (hold : ∀ p ∈ led, p.1 ≠ nd.cm → p.1 ≠ b.ha → p ∈ led') :
    St w led' C (updN ns { nd with cmds := stored nd.cmds last (.ref cx) }) (updB bs { b with kv := stored b.kv last (.int dat t) }) rx hA mA pA bA td bv kb := by
  have hsa := S.adr
  have hadr := List.nodup_cons.mp (List.nodup_cons.mp hsa).2
  have hdis := (List.nodup_append.mp hadr.2).2.2
  have hexn : ∀ m ∈ ns, ∀ a ∈ m.addrs, a ∈ ns.flatMap Nd.addrs := fun m hm a ha => List.mem_flatMap.mpr ⟨m, hm, ha⟩
  have hcm : nd.cm ∈ ns.flatMap Nd.addrs := hexn nd hnd _ (by first | exact Nd.mx _ | exact Nd.md _ | exact Nd.mch _ | exact Nd.mcm _ | exact Nd.mvr _ | exact Nd.mex _ | exact Nd.mpa _)
  have hha : b.ha ∈ oad hA mA pA bA bs := (oad_line hb).1
  have hoE : ∀ a ∈ oad hA mA pA bA bs, a ≠ nd.cm := fun a ha e => hdis a ha _ hcm e
  have hnM : ∀ a ∈ ns.flatMap Nd.addrs, a ≠ b.ha := fun a ha e => hdis _ hha a ha e.symm
  have hN := S.rep.node nd hnd
  have hown := S.rep.tree.own hnd
  have own := OwnD.of hown
  have hold2 : ∀ p ∈ led, p.1 ∈ ns.flatMap Nd.addrs → p.1 ≠ nd.cm → p ∈ led' := fun p hp hm hn => hold p hp hn (hnM _ hm)
  have hua := updN_addrs (n2 := { nd with cmds := stored nd.cmds last (.ref cx) }) S.rep.tree hnd rfl rfl
  have hub := S.own.updOad (b2 := { b with kv := stored b.kv last (.int dat t) }) hb rfl ⟨rfl, rfl, rfl⟩
  have hT := S.rep.tree.upd (n2 := { nd with cmds := stored nd.cmds last (.ref cx) }) hnd rfl rfl rfl rfl (by rw [hua]; exact S.rep.tree.adr)
  have hA' : adrs td C hA mA pA bA (updB bs { b with kv := stored b.kv last (.int dat t) }) (updN ns { nd with cmds := stored nd.cmds last (.ref cx) }) = adrs td C hA mA pA bA bs ns := by unfold adrs; rw [hua, hub]
  have hme := S.mat b hb nd hnd hbn
  have hlike : ∀ c ∈ ns, ∃ c' ∈ updN ns { nd with cmds := stored nd.cmds last (.ref cx) }, c'.pth = c.pth ∧ c'.x = c.x := fun c hc => updN_like (n2 := { nd with cmds := stored nd.cmds last (.ref cx) }) S.rep.tree hnd rfl rfl hc
  have hmono : ∀ p ∈ aside (adrs td C hA mA pA bA bs ns) led, p ∈ aside (adrs td C hA mA pA bA bs ns) led' := fun p hp => by
    obtain ⟨h1, h2⟩ := aside_in.mp hp
    refine aside_in.mpr ⟨hold p h1 (fun e => h2 ?_) (fun e => h2 ?_), h2⟩
    · rw [e]; unfold adrs; exact .tail _ (.tail _ (List.mem_append_right _ hcm))
    · rw [e]; unfold adrs; exact .tail _ (.tail _ (List.mem_append_left _ hha))
  have htd1 : td ≠ nd.cm := fun e => (List.nodup_cons.mp hsa).1 (by rw [e]; exact .tail _ (List.mem_append_right _ hcm))
  have htd2 : td ≠ b.ha := fun e => (List.nodup_cons.mp hsa).1 (by rw [e]; exact .tail _ (List.mem_append_left _ hha))
  refine ⟨S.rep.upd hT ?_ fun m hm hne => ?_, S.own.updH hb h2 h2' ?_ fun p hp hm hn => hold p hp (hoE _ hm) hn, ?_, ?_, ?_, ⟨?_, S.tree.lo⟩, ?_, ?_, ?_, ?_⟩
  · exact {
      hx := hold2 _ hN.hx (hexn nd hnd _ (by first | exact Nd.mx _ | exact Nd.md _ | exact Nd.mch _ | exact Nd.mcm _ | exact Nd.mvr _ | exact Nd.mex _ | exact Nd.mpa _)) own.n3
      hd := hold2 _ hN.hd (hexn nd hnd _ (by first | exact Nd.mx _ | exact Nd.md _ | exact Nd.mch _ | exact Nd.mcm _ | exact Nd.mvr _ | exact Nd.mex _ | exact Nd.mpa _)) own.n8
      hch := hN.hch.mono fun p hp e => hold2 p hp (by rw [e]; exact hexn nd hnd _ (by first | exact Nd.mx _ | exact Nd.md _ | exact Nd.mch _ | exact Nd.mcm _ | exact Nd.mvr _ | exact Nd.mex _ | exact Nd.mpa _)) (by rw [e]; exact own.n12)
      hcm := ⟨⟨ocm', h1, h1'⟩, hN.hcm.lo⟩
      hvr := hN.hvr.mono fun p hp e => hold2 p hp (by rw [e]; exact hexn nd hnd _ (by first | exact Nd.mx _ | exact Nd.md _ | exact Nd.mch _ | exact Nd.mcm _ | exact Nd.mvr _ | exact Nd.mex _ | exact Nd.mpa _)) (by rw [e]; exact fun e => own.n16 e.symm)
      hex := hold2 _ hN.hex (hexn nd hnd _ (by first | exact Nd.mx _ | exact Nd.md _ | exact Nd.mch _ | exact Nd.mcm _ | exact Nd.mvr _ | exact Nd.mex _ | exact Nd.mpa _)) (fun e => own.n17 e.symm)
      hpa := hold2 _ hN.hpa (hexn nd hnd _ (by first | exact Nd.mx _ | exact Nd.md _ | exact Nd.mch _ | exact Nd.mcm _ | exact Nd.mvr _ | exact Nd.mex _ | exact Nd.mpa _)) (fun e => own.n18 e.symm) }
  · exact (S.rep.node m hm).mono fun p hp hm2 => hold2 p hp (hexn m hm _ hm2) (S.rep.tree.apart hm hnd hne _ hm2 _ (by first | exact Nd.mx _ | exact Nd.md _ | exact Nd.mch _ | exact Nd.mcm _ | exact Nd.mvr _ | exact Nd.mex _ | exact Nd.mpa _))
  · intro k v hv
    rw [valueAt_stored'] at hv
    split at hv
    · exact ⟨dat, t, (Option.some.inj hv).symm⟩
    · exact (S.own.held.inn b hb).2 k v hv
  · obtain ⟨rt, hrt, e1, e2⟩ := S.root
    obtain ⟨c, hc, e3, e4⟩ := hlike rt hrt
    exact ⟨c, hc, by rw [e3, e1], by rw [e4, e2]⟩
  · rw [updN_pth, updB_pth]; exact S.same
  · intro c hc' m hm e
    rw [hA']
    rcases updB_mem hc' with rfl | ⟨hc', hcn⟩ <;> rcases updN_mem hm with rfl | ⟨hm, hmn⟩
    · exact ⟨hme.1, hme.2.1.like hlike, (hme.2.2.mono hmono).stored hc⟩
    · exact absurd (e.trans hbn.symm) hmn
    · exact absurd (e.symm.trans hbn) hcn
    · obtain ⟨g1, g2, g3⟩ := S.mat c hc' m hm e
      exact ⟨g1, g2.like hlike, g3.mono hmono⟩
  · obtain ⟨o, D, ho, hod, hDn, hDa⟩ := S.tree.at'
    refine ⟨o, D, hold _ ho htd1 htd2, ?_, hDn, fun q => ?_⟩
    · rw [tkv_upd S.rep.tree hT hnd rfl rfl]; exact hod
    · rw [updN_has]; exact hDa q
  · obtain ⟨oc, hoc, hd⟩ := S.cell
    exact ⟨oc, hold _ hoc (fun e => hadr.1 (List.mem_append_right _ (by rw [show C = nd.cm from e]; exact hcm))) (fun e => hadr.1 (List.mem_append_left _ (by rw [show C = b.ha from e]; exact hha))), hd⟩
  · rw [hua, hub]; exact S.adr
  · intro c hc'
    rcases updB_mem hc' with rfl | ⟨hc', _⟩
    · refine ⟨(S.ok b hb).1, fun p hp => ?_⟩
      rcases stored_mem hp with e | hp
      · rw [e]; exact hl
      · exact (S.ok b hb).2 p hp
    · exact S.ok c hc'
  · rw [updN_len]; exact S.few
theorem St.mem (S : St w led C ns bs rx hA mA pA bA td bv kb) : ∀ a ∈ adrs td C hA mA pA bA bs ns, ∃ o, (a, o) ∈ led := by
  intro a ha
  unfold adrs at ha
  rcases List.mem_cons.mp ha with rfl | ha
  · obtain ⟨o, D, ho, _⟩ := S.tree.at'; exact ⟨o, ho⟩
  rcases List.mem_cons.mp ha with rfl | ha
  · obtain ⟨oc, hoc, _⟩ := S.cell; exact ⟨oc, hoc⟩
  rcases List.mem_append.mp ha with ha | ha
  · exact S.own.mem a ha
  · exact S.rep.addr_mem a ha
end
end
section
open PySem PySem.W PyProof.Rows
set_option Elab.async false
set_option maxRecDepth 100000
set_option maxHeartbeats 4000000
theorem spec_find_space (w : World) (mean mg mb) (news : Led) (ns : List Nd) (Rp : Rep w news ns) (rt hr : Nd) (hrt : rt ∈ ns) (hrt0 : rt.pth = []) (hhr : hr ∈ ns) (b : Str) (tb : Tok) (hb : b.length ≤ 1000) (R : List Str) (n₀ : Nat) (hR : NpRun b [] 0 (Txt.find b (Str.ofString "::")) R n₀) (hn0 : n₀ ≤ 50) :
    Spec w mean mg mb 78 3 24 news [.ref rt.x, .ref hr.x, .str b tb] (fun r news' => news' = news ∧ FoundAt ns (goS (has ns) (if (Txt.find b (Str.ofString "::") == 0) then [] else hr.pth) R) r) := by
  unfold Spec
  w_top off
  k_fill
  intro dp un gd cn cs a ccd cl outer A₀ base h₀ L m s Q E B F X N T hk hdp hu hret
  obtain ⟨hpZ, geZ, drZ, tkZ, osZ⟩ := s
  dsimp only at F N hret ⊢
  refine wpAny_call ?_
  k_dflt (refine' code_def (binds := [(Str.ofString "root", .ref rt.x), (Str.ofString "here", .ref hr.x), (Str.ofString "name", .str b tb)]) ?k1x8 ?k2x8 ?k3x8 ?k4x8 ?k5x8 ?kAx8 ?kFx8 ?kKx8 ?k6x8 ?k7x8 ?k8x8 ?k9x8 ?kBx8 ?_ ?c2x8 ?c3x8 ?c4x8 ?c5x8; (case kAx8 => exact rfl); (case kFx8 => exact rfl); (case kKx8 => assumption); (case k1x8 => k_asm); (case k2x8 => k_asm); (case k3x8 => k_asm); (case k4x8 => k_asm); (case k5x8 => k_asm); (case k6x8 => k_is); (case k7x8 => k_is); (case k8x8 => ktr_room); (case k9x8 => first | exact BindsTo.of_eq rfl | exact binds_K (by k_in) rfl (by k_is) rfl rfl rfl); (case c5x8 => decide); (case kBx8 => exact locs rfl); (case c2x8 => exact rfl); (case c3x8 => exact rfl); (case c4x8 => exact rfl); k_whole; intro g1 L1 h1 FG1 F1 N1 B1 X1 T1; (try dsimp only); (try k_fold))
  replace F1 : Fr g1 L1 h1 (ovr [(Str.ofString "name", some (.str b tb)), (Str.ofString "here", some (.ref hr.x)), (Str.ofString "root", some (.ref rt.x)), (Str.ofString "parts", none), (Str.ofString "is_absolute", none), (Str.ofString "space", none), (Str.ofString "part", none)]) := fr_ovr F1 [Str.ofString "parts", Str.ofString "is_absolute", Str.ofString "space", Str.ofString "part"]
  k_steps
  (refine Stop.out ?_; k_dflt (refine (spec_np w mean mg mb _ b tb hb R n₀ hR hn0) _ _ _ _ _ _ _ _ _ _ _ _ _ _ _ _ _ (by k_asm) (by k_asm) (by k_asm) (by k_asm) (by k_asm) (by first | exact rfl | assumption) (by ktr_room) (by ktr_units) ?_); intro r2 led2 h2 tk2 F2 N2 P2)
  obtain ⟨t, l, us, k, rfl, rfl, hus, hlt1, hltl⟩ := P2
  obtain ⟨ab, hab⟩ : ∃ ab, ab = (Txt.find b (Str.ofString "::") == 0) := ⟨_, rfl⟩
  rw [← hab] at N2 hret
  obtain ⟨q0, hq0⟩ : ∃ q0, q0 = (if ab = true then [] else hr.pth) := ⟨_, rfl⟩
  rw [← hq0] at hret
  k_steps
  all_goals (
    have hsn : ∃ sn ∈ ns, sn.pth = q0 ∧ (ab = true → rt = sn) ∧ (ab = false → hr = sn) := by
      cases ab
      · exact ⟨hr, hhr, by simp [hq0], by simp, by simp⟩
      · exact ⟨rt, hrt, by simp [hq0, hrt0], by simp, by simp⟩
    obtain ⟨sn, hsn, hsnq, hsa, hsb⟩ := hsn
    first | (have hse := hsa (by assumption); subst hse) | (have hse := hsb (by assumption); subst hse)
    (refine Stop.out ?_; (rename Fr _ _ _ _ => Ffor); k_dflt (with_unfolding_all refine For_invVF Ffor (by exact rfl) (by exact rfl) ?_))
    ((rename Fr _ _ _ _ => Fld); k_dflt (refine ld Fld (by exact rfl) ?_))
    rename News _ _ _ _ => Nl
    have hml : (l, PySem.W.listOf us k) ∈ (t, ({ cls := .type "tuple", data := .seq #[.ref l, .bool ab] } : Obj)) :: (l, PySem.W.listOf us k) :: news := .tail _ (.head _)
    refine for_list (l := l) (vs := us) (fun i m nw => ∃ (nd : Nd) (pv : Option Value), nd ∈ ns ∧ m = (ovr [(Str.ofString "name", some (.str b tb)), (Str.ofString "here", some (.ref hr.x)), (Str.ofString "root", some (.ref rt.x)), (Str.ofString "parts", some (.ref l)), (Str.ofString "is_absolute", some (.bool ab)), (Str.ofString "space", some (.ref nd.x)), (Str.ofString "part", pv)]) ∧ nw = (t, ({ cls := .type "tuple", data := .seq #[.ref l, .bool ab] } : Obj)) :: (l, PySem.W.listOf us k) :: news ∧ goS (has ns) q0 R = goS (has ns) nd.pth (R.drop i)) rfl (isList_of Nl hml) (news_ne Nl hml) Fld Nl ?_ ?_ ?_ ?_
    · exact .inr ⟨_, fun i m nw h => by obtain ⟨nd, pv, _, _, rfl, _⟩ := h; exact hml⟩
    · exact ⟨_, none, hsn, (by funext y; simp only [← ovr_set_at]; rfl), rfl, by rw [← hsnq]; rfl⟩
    · intro i v m₁ news₁ h tk I ito hv JZ hne F₁ N₁
      (try dsimp only)
      (try k_fold)
      obtain ⟨nd, pv, hnd, rfl, rfl, hgo⟩ := JZ
      obtain ⟨p, tp, rfl, hss⟩ := hus.item i v (by simpa using hv)
      have hdr : R.drop i = p :: R.drop (i + 1) := by
        obtain ⟨hi, e⟩ := List.getElem?_eq_some_iff.mp hss
        rw [List.drop_eq_getElem_cons hi, e]
      rw [hdr] at hgo
      obtain ⟨hx, hdd, ⟨⟨och, hoch, hich⟩, hchs⟩, _, _, _, _⟩ := Rp.node nd hnd
      have hkid := Rp.tree.kidSome hnd p
      have hgo1 : p ≠ Str.ofString "" → goS (has ns) q0 R = if has ns (nd.pth ++ [p]) = true then goS (has ns) (nd.pth ++ [p]) (R.drop (i + 1)) else none := fun hp => by rw [hgo, goS, if_neg hp]
      have hgo2 : p = Str.ofString "" → goS (has ns) q0 R = goS (has ns) nd.pth (R.drop (i + 1)) := fun hp => by rw [hgo, goS, if_pos hp]
      k_steps
      · rename_i dv hdv
        obtain ⟨c, hc, hcp, rfl⟩ := (Rp.tree.kid nd hnd p dv).mp hdv
        have hpe : p ≠ Str.ofString "" := by simpa using ‹(p != Str.ofString "") = true›
        refine Stop.out ?_
        k_steps
        rename Fr _ _ _ _ => Fe
        rename News _ _ _ _ => Ne
        refine LEnd.intro Fe Ne _ (.head _) (fun q hq => .tail _ hq) hne ⟨c, _, hc, (by funext y; simp only [← ovr_set_at]; rfl), rfl, ?_⟩
        rw [hgo1 hpe, hcp, if_pos (by rw [← hkid]; assumption)]
      · have hpe : p ≠ Str.ofString "" := by simpa using ‹(p != Str.ofString "") = true›
        rename News _ _ _ _ => Ne
        refine hret _ _ _ _ (by assumption) (news_sub Ne (fun q hq => .tail _ (.tail _ (.tail _ hq)))) ⟨rfl, ?_⟩
        rw [hgo1 hpe, if_neg (by rw [← hkid]; intro hc; rw [‹(valueAt nd.kids p).isSome = false›] at hc; cases hc)]
        rfl
      · have hpe : p = Str.ofString "" := by simpa using ‹(p != Str.ofString "") = false›
        rename Fr _ _ _ _ => Fe
        rename News _ _ _ _ => Ne
        exact LEnd.intro Fe Ne _ (.head _) (fun q hq => .tail _ hq) hne ⟨nd, _, hnd, (by funext y; simp only [← ovr_set_at]; rfl), rfl, hgo2 hpe⟩
    · intro m₁ news₁ h tk JZ F₁ N₁
      (try dsimp only)
      (try k_fold)
      obtain ⟨nd, pv, hnd, rfl, rfl, hgo⟩ := JZ
      have hul := hus.length
      rw [List.drop_of_length_le (by simp only [Array.length_toList] at hul; omega)] at hgo
      k_steps
      rename News _ _ _ _ => Ne
      refine hret _ _ _ _ (by assumption) (news_sub Ne (fun q hq => .tail _ (.tail _ hq))) ⟨rfl, ?_⟩
      rw [hgo]
      exact ⟨nd, hnd, rfl, rfl⟩)
end
section
open PySem PySem.W PyProof.Rows PySem.Calls PySem.SeqAt
set_option Elab.async false
set_option maxRecDepth 100000
/-- one address for another -/
def sub1 (a b : Addr) (x : Addr) : Addr := if x = a then b else x
def sub2 (a b c d : Addr) (x : Addr) : Addr := sub1 c d (sub1 a b x)
theorem nodup_sub {l : List Addr} {σ : Addr → Addr} (h : l.Nodup) (hi : ∀ x ∈ l, ∀ y ∈ l, σ x = σ y → x = y) : (l.map σ).Nodup := by
  unfold List.Nodup
  rw [List.pairwise_map]
  exact List.Pairwise.imp_of_mem (fun ha hb hne e => hne (hi _ ha _ hb e)) h
theorem flat_sub {α : Type} {l : List α} {f g : α → List Addr} {σ : Addr → Addr} (h : ∀ x ∈ l, g x = (f x).map σ) : l.flatMap g = (l.flatMap f).map σ := by
  induction l with
  | nil => rfl
  | cons x r ih =>
    rw [List.flatMap_cons, List.flatMap_cons, List.map_append, h x (.head _), ih fun y hy => h y (.tail _ hy)]
section
variable {w : World} {led led' : Led} {C : Addr} {ns : List Nd} {bs : List Bn} {rx hA mA pA bA td : Addr} {bv : Array Value} {kb i : Nat} {nd : Nd} {b : Bn}
theorem qkv_upd (h : Own w led bs hA mA pA bA bv kb) (hb : b ∈ bs) {b2 : Bn} (e : b2.pth = b.pth) : qkv (updB bs b2) = stored (qkv bs) (nmOf b.pth) (.ref b2.qa) := by
  have hany : ((qkv bs).any fun kv => decide (kv.1 = nmOf b.pth)) = true := by
    rw [List.any_eq_true]
    exact ⟨(nmOf b.pth, .ref b.qa), List.mem_map.mpr ⟨b, hb, rfl⟩, by simp⟩
  unfold stored
  rw [if_pos hany]
  unfold qkv updB
  rw [List.map_map, List.map_map]
  refine List.map_congr_left fun c hc => ?_
  show (nmOf (if c.pth = b2.pth then b2 else c).pth, Value.ref (if c.pth = b2.pth then b2 else c).qa) = (if nmOf c.pth = nmOf b.pth then (nmOf c.pth, Value.ref b2.qa) else (nmOf c.pth, Value.ref c.qa))
  by_cases hp : c.pth = b2.pth
  · rw [if_pos hp, if_pos (by rw [hp, e]), hp]
  · rw [if_neg hp, if_neg (fun hn => hp ((nmOf_inj (h.menu c hc) (h.menu b hb) hn).trans e.symm))]
theorem Own.updP (h : Own w led bs hA mA pA bA bv kb) (hb : b ∈ bs) {sl : Addr} {qs : List (List Str)} {pv : Array Value} {kq : Nat} {oq' : Obj} (h1 : (pA, oq') ∈ led') (h1' : oq'.IsDictOf (SK w) (stored (qkv bs) (nmOf b.pth) (.ref sl)))
    (h2 : (sl, PySem.W.listOf pv kq) ∈ led') (h3 : StrsAre pv.toList (qs.map nmOf)) (h4 : qs.length ≤ 10) (hold : ∀ p ∈ led, p.1 ∈ oad hA mA pA bA bs → p.1 ≠ pA → p ∈ led') (hadr : (oad hA mA pA bA (updB bs { b with qa := sl, pq := qs, pv := pv, kq := kq })).Nodup) :
    Own w led' (updB bs { b with qa := sl, pq := qs, pv := pv, kq := kq }) hA mA pA bA bv kb := by
  have hfix : ∀ c ∈ updB bs { b with qa := sl, pq := qs, pv := pv, kq := kq }, c = { b with qa := sl, pq := qs, pv := pv, kq := kq } ∨ (c ∈ bs ∧ c.pth ≠ b.pth) := fun c hc => updB_mem hc
  have hn := h.adr
  unfold oad at hn
  simp only [List.nodup_cons, List.mem_cons, not_or] at hn
  have hq := qkv_upd h hb (b2 := { b with qa := sl, pq := qs, pv := pv, kq := kq }) rfl
  have hpl : ∀ c ∈ bs, ∀ x ∈ [c.ha, c.ma, c.qa], x ≠ pA := fun c hc x hx => ((h.lineOwn hc).2.2.2 x hx).2.2.1
  refine ⟨⟨?_, ?_⟩, ?_, ⟨⟨⟨oq', h1, ?_⟩, h.paths.out.lo⟩, ?_⟩, ?_, ?_, ?_, ?_, ?_, hadr⟩
  · have := h.updMap (b2 := { b with qa := sl, pq := qs, pv := pv, kq := kq }) hb rfl (fun b => (nmOf b.pth, Value.ref b.ha)) rfl
    unfold hkv; rw [this]
    exact h.held.out.mono fun p hp e => hold p hp (by rw [e]; exact .head _) (by rw [e]; exact hn.1.2.1)
  · intro c hc
    rcases hfix c hc with rfl | ⟨hc, hne⟩
    · have := h.held.inn b hb
      exact ⟨this.1.mono fun p hp e => hold p hp (by rw [e]; exact (oad_line hb).1) (by rw [e]; exact hpl b hb _ (by simp)), this.2⟩
    · have := h.held.inn c hc
      exact ⟨this.1.mono fun p hp e => hold p hp (by rw [e]; exact (oad_line hc).1) (by rw [e]; exact hpl c hc _ (by simp)), this.2⟩
  · have := h.updMap (b2 := { b with qa := sl, pq := qs, pv := pv, kq := kq }) hb rfl (fun b => (nmOf b.pth, Value.ref b.ma)) rfl
    unfold mkv; rw [this]
    exact h.marks.mono fun p hp e => hold p hp (by rw [e]; exact .tail _ (.head _)) (by rw [e]; exact hn.2.1.1)
  · rw [hq]; exact h1'
  · intro c hc
    rcases hfix c hc with rfl | ⟨hc, hne⟩
    · exact ⟨h2, h3, h4⟩
    · have := h.paths.inn c hc
      exact ⟨hold _ this.1 (oad_line hc).2.2 (hpl c hc _ (by simp)), this.2⟩
  · intro c hc
    rcases hfix c hc with rfl | ⟨hc, hne⟩
    · have := h.mm b hb
      exact ⟨hold _ this.1 (oad_line hb).2.1 (hpl b hb _ (by simp)), this.2⟩
    · have := h.mm c hc
      exact ⟨hold _ this.1 (oad_line hc).2.1 (hpl c hc _ (by simp)), this.2⟩
  · exact hold _ h.bk (.tail _ (.tail _ (.tail _ (.head _)))) (fun e => hn.2.2.1.1 e.symm)
  · rw [h.updMap (b2 := { b with qa := sl, pq := qs, pv := pv, kq := kq }) hb rfl (fun b => nmOf b.pth) rfl]; exact h.bks
  · rw [updB_pth]; exact h.nodup
  · intro c hc
    rcases hfix c hc with rfl | ⟨hc, hne⟩
    · exact h.menu b hb
    · exact h.menu c hc
theorem St.path (S : St w led C ns bs rx hA mA pA bA td bv kb) (hnd : nd ∈ ns) (hb : b ∈ bs) (hbn : nd.pth = b.pth) {sl pl : Addr} {qs : List (List Str)} {pv ys : Array Value} {kq kp : Nat} {oq' : Obj}
    (h0 : (nd.d, dictOf (nsEs w { nd with pa := pl, path := ys, kp := kp }) 8) ∈ led') (h0' : (pl, PySem.W.listOf ys kp) ∈ led') (hr : RefsAre ns ys.toList qs)
    (h1 : (pA, oq') ∈ led') (h1' : oq'.IsDictOf (SK w) (stored (qkv bs) (nmOf b.pth) (.ref sl))) (h2 : (sl, PySem.W.listOf pv kq) ∈ led') (h3 : StrsAre pv.toList (qs.map nmOf)) (h4 : qs.length ≤ 10)
    (hold : ∀ p ∈ led, p.1 ≠ nd.d → p.1 ≠ pA → p ∈ led') (hlt : ∀ p ∈ led, p.1 < sl) (hpl : ∀ p ∈ led, p.1 ≠ pl) (hsp : sl ≠ pl) :
    St w led' C (updN ns { nd with pa := pl, path := ys, kp := kp }) (updB bs { b with qa := sl, pq := qs, pv := pv, kq := kq }) rx hA mA pA bA td bv kb := by
  have hsa := S.adr
  have hadr := List.nodup_cons.mp (List.nodup_cons.mp hsa).2
  have hdis := (List.nodup_append.mp hadr.2).2.2
  have hexn : ∀ m ∈ ns, ∀ a ∈ m.addrs, a ∈ ns.flatMap Nd.addrs := fun m hm a ha => List.mem_flatMap.mpr ⟨m, hm, ha⟩
  have hdm : nd.d ∈ ns.flatMap Nd.addrs := hexn nd hnd _ (by first | exact Nd.mx _ | exact Nd.md _ | exact Nd.mch _ | exact Nd.mcm _ | exact Nd.mvr _ | exact Nd.mex _ | exact Nd.mpa _)
  have hpam : nd.pa ∈ ns.flatMap Nd.addrs := hexn nd hnd _ (by first | exact Nd.mx _ | exact Nd.md _ | exact Nd.mch _ | exact Nd.mcm _ | exact Nd.mvr _ | exact Nd.mex _ | exact Nd.mpa _)
  have hqaO : b.qa ∈ oad hA mA pA bA bs := (oad_line hb).2.2
  have hpAO : pA ∈ oad hA mA pA bA bs := by unfold oad; simp
  have hoE : ∀ a ∈ oad hA mA pA bA bs, a ≠ nd.d := fun a ha e => hdis a ha _ hdm e
  have hnM : ∀ a ∈ ns.flatMap Nd.addrs, a ≠ pA := fun a ha e => hdis _ hpAO a ha e.symm
  have hN := S.rep.node nd hnd
  have hown := S.rep.tree.own hnd
  have own := OwnD.of hown
  have hold2 : ∀ p ∈ led, p.1 ∈ ns.flatMap Nd.addrs → p.1 ≠ nd.d → p ∈ led' := fun p hp hm hn => hold p hp hn (hnM _ hm)
  have hlt' : ∀ a ∈ adrs td C hA mA pA bA bs ns, a ≠ sl ∧ a ≠ pl := fun a ha => by
    obtain ⟨o, ho⟩ := S.mem a ha
    have hh := hlt _ ho
    exact ⟨Nat.ne_of_lt hh, hpl _ ho⟩
  have hA2 : adrs td C hA mA pA bA (updB bs { b with qa := sl, pq := qs, pv := pv, kq := kq }) (updN ns { nd with pa := pl, path := ys, kp := kp }) = (adrs td C hA mA pA bA bs ns).map (sub2 b.qa sl nd.pa pl) := by
    have hqpa : b.qa ≠ nd.pa := fun e => hdis _ hqaO _ hpam e
    have hkeep : ∀ a : Addr, a ≠ b.qa → a ≠ nd.pa → sub2 b.qa sl nd.pa pl a = a := fun a h1 h2 => by unfold sub2 sub1; rw [if_neg h1, if_neg h2]
    have hslpa : sl ≠ nd.pa := fun e => (hlt' nd.pa (by unfold adrs; exact .tail _ (.tail _ (List.mem_append_right _ hpam)))).1 e.symm
    have hsq : sub2 b.qa sl nd.pa pl b.qa = sl := by unfold sub2 sub1; rw [if_pos rfl, if_neg hslpa]
    have hsp' : sub2 b.qa sl nd.pa pl nd.pa = pl := by unfold sub2 sub1; rw [if_neg hqpa.symm, if_pos rfl]
    have hO : ∀ a ∈ oad hA mA pA bA bs, a ≠ b.qa → sub2 b.qa sl nd.pa pl a = a := fun a ha hn => hkeep a hn fun e => hdis _ ha _ hpam e
    have hNn : ∀ a ∈ ns.flatMap Nd.addrs, a ≠ nd.pa → sub2 b.qa sl nd.pa pl a = a := fun a ha hn => hkeep a (fun e => hdis _ hqaO _ ha e.symm) hn
    have ho := S.own.lineOwn hb
    have hq4 := ho.2.2.2 b.qa (by simp)
    have e1 : oad hA mA pA bA (updB bs { b with qa := sl, pq := qs, pv := pv, kq := kq }) = (oad hA mA pA bA bs).map (sub2 b.qa sl nd.pa pl) := by
      have m4 : ∀ a ∈ [hA, mA, pA, bA], a ∈ oad hA mA pA bA bs := fun a ha => by
        unfold oad
        simp only [List.mem_cons, List.not_mem_nil, or_false] at ha ⊢
        rcases ha with e | e | e | e
        · exact .inl e
        · exact .inr (.inl e)
        · exact .inr (.inr (.inl e))
        · exact .inr (.inr (.inr (.inl e)))
      have ea := hO hA (m4 _ (by simp)) hq4.1.symm
      have eb := hO mA (m4 _ (by simp)) hq4.2.1.symm
      have ec := hO pA (m4 _ (by simp)) hq4.2.2.1.symm
      have ed := hO bA (m4 _ (by simp)) hq4.2.2.2.symm
      unfold oad
      rw [List.map_cons, List.map_cons, List.map_cons, List.map_cons, ea, eb, ec, ed]
      congr 4
      unfold updB
      rw [List.flatMap_map]
      refine flat_sub fun c hc => ?_
      have hl := oad_line (hA := hA) (mA := mA) (pA := pA) (bA := bA) hc
      by_cases hp : c.pth = b.pth
      · have : c = b := S.own.inj hc hb hp
        subst this
        show [(if c.pth = c.pth then _ else _ : Bn).ha, (if c.pth = c.pth then _ else _ : Bn).ma, (if c.pth = c.pth then _ else _ : Bn).qa] = _
        rw [if_pos rfl, List.map_cons, List.map_cons, List.map_cons, List.map_nil, hsq, hO _ hl.1 ho.2.1, hO _ hl.2.1 ho.2.2.1]
      · show [(if c.pth = b.pth then _ else c : Bn).ha, (if c.pth = b.pth then _ else c : Bn).ma, (if c.pth = b.pth then _ else c : Bn).qa] = _
        rw [if_neg hp, List.map_cons, List.map_cons, List.map_cons, List.map_nil, hO _ hl.1 (S.own.lineNe hb hc hp _ (by simp) _ (by simp)), hO _ hl.2.1 (S.own.lineNe hb hc hp _ (by simp) _ (by simp)), hO _ hl.2.2 (S.own.lineNe hb hc hp _ (by simp) _ (by simp))]
    have e2 : (updN ns { nd with pa := pl, path := ys, kp := kp }).flatMap Nd.addrs = (ns.flatMap Nd.addrs).map (sub2 b.qa sl nd.pa pl) := by
      unfold updN
      rw [List.flatMap_map]
      refine flat_sub fun c hc => ?_
      by_cases hp : c.pth = nd.pth
      · have : c = nd := S.rep.tree.inj hc hnd hp
        subst this
        show (if c.pth = c.pth then _ else _ : Nd).addrs = _
        rw [if_pos rfl]
        have k := fun a (ha : a ∈ c.addrs) hn => hNn a (hexn c hc a ha) hn
        show [c.x, c.d, c.ch, c.cm, c.vr, c.ex, pl] = [c.x, c.d, c.ch, c.cm, c.vr, c.ex, c.pa].map _
        simp only [List.map_cons, List.map_nil]
        rw [k c.x (by first | exact Nd.mx _ | exact Nd.md _ | exact Nd.mch _ | exact Nd.mcm _ | exact Nd.mvr _ | exact Nd.mex _ | exact Nd.mpa _) own.n6, k c.d (by first | exact Nd.mx _ | exact Nd.md _ | exact Nd.mch _ | exact Nd.mcm _ | exact Nd.mvr _ | exact Nd.mex _ | exact Nd.mpa _) own.n11, k c.ch (by first | exact Nd.mx _ | exact Nd.md _ | exact Nd.mch _ | exact Nd.mcm _ | exact Nd.mvr _ | exact Nd.mex _ | exact Nd.mpa _) own.n15, k c.cm (by first | exact Nd.mx _ | exact Nd.md _ | exact Nd.mch _ | exact Nd.mcm _ | exact Nd.mvr _ | exact Nd.mex _ | exact Nd.mpa _) own.n18, k c.vr (by first | exact Nd.mx _ | exact Nd.md _ | exact Nd.mch _ | exact Nd.mcm _ | exact Nd.mvr _ | exact Nd.mex _ | exact Nd.mpa _) own.n20, k c.ex (by first | exact Nd.mx _ | exact Nd.md _ | exact Nd.mch _ | exact Nd.mcm _ | exact Nd.mvr _ | exact Nd.mex _ | exact Nd.mpa _) own.n21, hsp']
      · show (if c.pth = nd.pth then _ else c : Nd).addrs = _
        rw [if_neg hp]
        have : ∀ l : List Addr, (∀ a ∈ l, sub2 b.qa sl nd.pa pl a = a) → l = l.map (sub2 b.qa sl nd.pa pl) := by
          intro l
          induction l with
          | nil => intro _; rfl
          | cons a r ih => intro h; rw [List.map_cons, h a (.head _), ← ih fun x hx => h x (.tail _ hx)]
        exact this _ fun a ha => hNn a (hexn c hc a ha) (S.rep.tree.apart hc hnd hp a ha _ (by first | exact Nd.mx _ | exact Nd.md _ | exact Nd.mch _ | exact Nd.mcm _ | exact Nd.mvr _ | exact Nd.mex _ | exact Nd.mpa _))
    unfold adrs
    rw [e1, e2, List.map_cons, List.map_cons, List.map_append]
    have htd : td ≠ b.qa ∧ td ≠ nd.pa := ⟨fun e => (List.nodup_cons.mp hsa).1 (by rw [e]; exact .tail _ (List.mem_append_left _ hqaO)), fun e => (List.nodup_cons.mp hsa).1 (by rw [e]; exact .tail _ (List.mem_append_right _ hpam))⟩
    have hC : C ≠ b.qa ∧ C ≠ nd.pa := ⟨fun e => hadr.1 (by rw [e]; exact List.mem_append_left _ hqaO), fun e => hadr.1 (by rw [e]; exact List.mem_append_right _ hpam)⟩
    rw [hkeep td htd.1 htd.2, hkeep C hC.1 hC.2]
  have hnod : (adrs td C hA mA pA bA (updB bs { b with qa := sl, pq := qs, pv := pv, kq := kq }) (updN ns { nd with pa := pl, path := ys, kp := kp })).Nodup := by
    rw [hA2]
    refine nodup_sub hsa fun x hx y hy e => ?_
    have hx2 := hlt' x hx
    have hy2 := hlt' y hy
    have hqpa : b.qa ≠ nd.pa := fun e => hdis _ hqaO _ hpam e
    have hslpl : sl ≠ pl := hsp
    have hslpa : sl ≠ nd.pa := fun e => (hlt' nd.pa (by unfold adrs; exact .tail _ (.tail _ (List.mem_append_right _ hpam)))).1 e.symm
    unfold sub2 sub1 at e
    by_cases hx1 : x = b.qa <;> by_cases hy1 : y = b.qa
    · rw [hx1, hy1]
    · rw [if_pos hx1, if_neg hslpa, if_neg hy1] at e
      split at e
      · exact absurd e hslpl
      · exact absurd e.symm hy2.1
    · rw [if_neg hx1, if_pos hy1, if_neg hslpa] at e
      split at e
      · exact absurd e.symm hslpl
      · exact absurd e hx2.1
    · rw [if_neg hx1, if_neg hy1] at e
      split at e <;> split at e
      · rename_i g1 g2; rw [g1, g2]
      · exact absurd e.symm hy2.2
      · exact absurd e hx2.2
      · exact e
  have hnod2 := List.nodup_append.mp (List.nodup_cons.mp (List.nodup_cons.mp hnod).2).2
  have hT := S.rep.tree.upd (n2 := { nd with pa := pl, path := ys, kp := kp }) hnd rfl rfl rfl rfl hnod2.2.1
  have hme := S.mat b hb nd hnd hbn
  have hlike : ∀ c ∈ ns, ∃ c' ∈ updN ns { nd with pa := pl, path := ys, kp := kp }, c'.pth = c.pth ∧ c'.x = c.x := fun c hc => updN_like (n2 := { nd with pa := pl, path := ys, kp := kp }) S.rep.tree hnd rfl rfl hc
  have hmono : ∀ p ∈ aside (adrs td C hA mA pA bA bs ns) led, p ∈ aside (adrs td C hA mA pA bA (updB bs { b with qa := sl, pq := qs, pv := pv, kq := kq }) (updN ns { nd with pa := pl, path := ys, kp := kp })) led' := fun p hp => by
    obtain ⟨h1, h2⟩ := aside_in.mp hp
    refine aside_in.mpr ⟨hold p h1 (fun e => h2 ?_) (fun e => h2 ?_), fun hm => ?_⟩
    · rw [e]; unfold adrs; exact .tail _ (.tail _ (List.mem_append_right _ hdm))
    · rw [e]; unfold adrs; exact .tail _ (.tail _ (List.mem_append_left _ hpAO))
    · rw [hA2] at hm
      obtain ⟨a, ha, e⟩ := List.mem_map.mp hm
      have hh : @LT.lt Nat _ p.1 sl := hlt p h1
      unfold sub2 sub1 at e
      split at e <;> split at e
      · exact hpl p h1 e.symm
      · rw [← e] at hh; exact Nat.lt_irrefl _ hh
      · exact hpl p h1 e.symm
      · exact h2 (e ▸ ha)
  have htd1 : td ≠ nd.d := fun e => (List.nodup_cons.mp hsa).1 (by rw [e]; exact .tail _ (List.mem_append_right _ hdm))
  have htd2 : td ≠ pA := fun e => (List.nodup_cons.mp hsa).1 (by rw [e]; exact .tail _ (List.mem_append_left _ hpAO))
  refine ⟨S.rep.upd hT ?_ fun m hm hne => ?_, S.own.updP hb h1 h1' h2 h3 h4 (fun p hp hm hn => hold p hp (hoE _ hm) hn) hnod2.1, ?_, ?_, ?_, ⟨?_, S.tree.lo⟩, ?_, hnod, ?_, ?_⟩
  · exact {
      hx := hold2 _ hN.hx (hexn nd hnd _ (by first | exact Nd.mx _ | exact Nd.md _ | exact Nd.mch _ | exact Nd.mcm _ | exact Nd.mvr _ | exact Nd.mex _ | exact Nd.mpa _)) own.n1
      hd := h0
      hch := hN.hch.mono fun p hp e => hold2 p hp (by rw [e]; exact hexn nd hnd _ (by first | exact Nd.mx _ | exact Nd.md _ | exact Nd.mch _ | exact Nd.mcm _ | exact Nd.mvr _ | exact Nd.mex _ | exact Nd.mpa _)) (by rw [e]; exact fun e => own.n7 e.symm)
      hcm := hN.hcm.mono fun p hp e => hold2 p hp (by rw [e]; exact hexn nd hnd _ (by first | exact Nd.mx _ | exact Nd.md _ | exact Nd.mch _ | exact Nd.mcm _ | exact Nd.mvr _ | exact Nd.mex _ | exact Nd.mpa _)) (by rw [e]; exact fun e => own.n8 e.symm)
      hvr := hN.hvr.mono fun p hp e => hold2 p hp (by rw [e]; exact hexn nd hnd _ (by first | exact Nd.mx _ | exact Nd.md _ | exact Nd.mch _ | exact Nd.mcm _ | exact Nd.mvr _ | exact Nd.mex _ | exact Nd.mpa _)) (by rw [e]; exact fun e => own.n9 e.symm)
      hex := hold2 _ hN.hex (hexn nd hnd _ (by first | exact Nd.mx _ | exact Nd.md _ | exact Nd.mch _ | exact Nd.mcm _ | exact Nd.mvr _ | exact Nd.mex _ | exact Nd.mpa _)) (fun e => own.n10 e.symm)
      hpa := h0' }
  · exact (S.rep.node m hm).mono fun p hp hm2 => hold2 p hp (hexn m hm _ hm2) (S.rep.tree.apart hm hnd hne _ hm2 _ (by first | exact Nd.mx _ | exact Nd.md _ | exact Nd.mch _ | exact Nd.mcm _ | exact Nd.mvr _ | exact Nd.mex _ | exact Nd.mpa _))
  · obtain ⟨rt, hrt, e1, e2⟩ := S.root
    obtain ⟨c, hc, e3, e4⟩ := hlike rt hrt
    exact ⟨c, hc, by rw [e3, e1], by rw [e4, e2]⟩
  · rw [updN_pth, updB_pth]; exact S.same
  · intro c hc' m hm e
    rcases updB_mem hc' with rfl | ⟨hc', hcn⟩ <;> rcases updN_mem hm with rfl | ⟨hm, hmn⟩
    · exact ⟨hme.1, hr.like hlike, hme.2.2.mono hmono⟩
    · exact absurd (e.trans hbn.symm) hmn
    · exact absurd (e.symm.trans hbn) hcn
    · obtain ⟨g1, g2, g3⟩ := S.mat c hc' m hm e
      exact ⟨g1, g2.like hlike, g3.mono hmono⟩
  · obtain ⟨o, D, ho, hod, hDn, hDa⟩ := S.tree.at'
    refine ⟨o, D, hold _ ho htd1 htd2, ?_, hDn, fun q => ?_⟩
    · rw [tkv_upd S.rep.tree hT hnd rfl rfl]; exact hod
    · rw [updN_has]; exact hDa q
  · obtain ⟨oc, hoc, hd⟩ := S.cell
    exact ⟨oc, hold _ hoc (fun e => hadr.1 (List.mem_append_right _ (by rw [show C = nd.d from e]; exact hdm))) (fun e => hadr.1 (List.mem_append_left _ (by rw [show C = pA from e]; exact hpAO))), hd⟩
  · intro c hc'
    rcases updB_mem hc' with rfl | ⟨hc', _⟩
    · exact S.ok b hb
    · exact S.ok c hc'
  · rw [updN_len]; exact S.few
end
section
variable {prog : Program} {w : World} {A : Around} {E : Value → Shared → Prop} {s : Shared} {h₀ : Heap} {L l : Addr} {m : Str → Option Value} {news : Led} {value slice : PySem.Expr} {its : Array Value} {n : Nat} {e : Int} {t : Tok} {Q : Value → Shared → Prop}
theorem slice_upto (F : Fr h₀ L s.heap m) (N : News h₀ L s.heap news) (hm : (l, PySem.W.listOf its n) ∈ news) (hz : its.size ≤ sizeLine) (he : 0 ≤ e)
    (h : ∀ D h', Fr h₀ L h' m → News h₀ L h' ((D, PySem.W.listOf (its.toList.take e.toNat).toArray 0) :: news) → (∀ p ∈ news, p.1 < D) → Q (.ref D) { s with heap := h' })
    (hs : subscripted slice false (.ref l) (.ref s.heap.objs.size) = operate [.ref s.heap.objs.size, .ref l] (getItem (.ref l) (.ref s.heap.objs.size))) (ht : ∀ r, letTemporaryGo value (.ref l) r = pure ()) :
    wpAny (model prog w) A (subscriptTail value slice (.ref l) (.ref s.heap.objs.size)) Q E { s with heap := s.heap.push { cls := .type "slice", data := .fields #[.none, .int e t, .none] } } := by
  refine kmk_slice F N (isList_of N hm) .none (.int e t) (fun D h' F' N' l1 => h D h' F' ?_ l1) hs ht hz
  have := slicePick_upto' its e.toNat
  rw [Int.toNat_of_nonneg he] at this
  rw [← this]; exact N'
end
theorem off1_mem {D : Addr} : ∀ {l : Led}, LCg.Off1 D l → ∀ p ∈ l, p.1 ≠ D
  | [], _, _, hp => nomatch hp
  | q :: r, h, p, hp => by
    rcases List.mem_cons.mp hp with e | hp
    · rw [e]; exact h.1
    · exact off1_mem h.2 p hp
def YesStop : Prop := True
section
variable {M : Model} {A : Around} {E : Value → Shared → Prop} {s : Shared} {h₀ : Heap} {L : Addr} {m : Str → Option Value} {news : Led} {st : Stmt} {env : Env} {Q : Flow → Shared → Prop}
def CutEnd (h₀ : Heap) (L : Addr) (m : Str → Option Value) (news : Led) (s : Shared) (f : Flow) (s' : Shared) : Prop := f = .next ∧ ∃ h' tk', s' = { s with heap := h', toks := tk' } ∧ Fr h₀ L h' m ∧ News h₀ L h' news
theorem CutEnd.intro {h' : Heap} {tk' : Nat} (F : Fr h₀ L h' m) (N : News h₀ L h' news) : CutEnd h₀ L m news s .next { s with heap := h', toks := tk' } := ⟨rfl, _, _, rfl, F, N⟩
theorem if_cut (F : Fr h₀ L s.heap m) (N : News h₀ L s.heap news)
    (h1 : wpAny M A (exec st env) (CutEnd h₀ L m news s) E s)
    (h2 : ∀ h' tk', Fr h₀ L h' m → News h₀ L h' news → Q .next { s with heap := h', toks := tk' }) : wpAny M A (exec st env) Q E s := by
  refine wpAny_mono h1 (fun f s' h => ?_) fun _ _ e => e
  obtain ⟨rfl, h', tk', rfl, F', N'⟩ := h
  exact h2 h' tk' F' N'
end
theorem lastS_eq (q ps : List Str) : ((stepsP q ps).map nmOf).getLastD (Str.ofString "") = nmOf (goP q ps) := by
  rw [List.getLastD_eq_getLast?, List.getLast?_map, stepsP_last]; rfl
theorem steps_ne (q ps : List Str) : (stepsP q ps).map nmOf ≠ [] := by
  intro e
  have h1 := stepsP_last ps q
  rw [List.map_eq_nil_iff.mp e] at h1
  exact nomatch h1
theorem shaped_n2 {x : Str} (h : PyData.strOk x = true) : shaped (.tuple [.none, .str x]) = true := by
  unfold shaped
  rw [Bool.and_eq_true]
  refine ⟨?_, decide_eq_true (by simp [PyData.depth, PyData.depthAll])⟩
  simp [PyData.canLay0, PyData.canLayAll0, h]
theorem shaped_s2 {x y : Str} (h : PyData.strOk x = true) (h' : PyData.strOk y = true) : shaped (.tuple [.str x, .str y]) = true := by
  unfold shaped
  rw [Bool.and_eq_true]
  refine ⟨?_, decide_eq_true (by simp [PyData.depth, PyData.depthAll])⟩
  simp [PyData.canLay0, PyData.canLayAll0, h, h']
theorem strOk_part {p : Str} (h : p ∈ menu ∨ p = Str.ofString "") : PyData.strOk p = true := by
  rcases h with h | h
  · simp only [Np.menu, List.mem_cons, List.not_mem_nil, or_false] at h
    rcases h with e | e | e | e <;> rw [e] <;> exact strOk_list (by decide)
  · rw [h]; exact strOk_list (by decide)
theorem last_part {ps : List Str} (hn : ps ≠ []) (h : ∀ p ∈ ps, p ∈ menu ∨ p = Str.ofString "") : PyData.strOk (ps.getLastD (Str.ofString "")) = true := by
  rw [List.getLastD_eq_getLast?]
  cases hl : ps.getLast? with
  | none => exact absurd (List.getLast?_eq_none_iff.mp hl) hn
  | some p => exact strOk_part (h p (List.mem_of_getLast? hl))
theorem LR.tupRef {h₀ h : Heap} {L : Addr} {news : Led} {v : Value} {Ds : List PyData} (N : News h₀ L h news) (r : LR news v (.tuple Ds)) : ∃ a, v = .ref a := by
  obtain ⟨as, hr⟩ := r h fun p hp => (N p hp).1
  cases hr
  exact ⟨_, rfl⟩
theorem found_starts (bs : List Bn) (ps : List Str) (last : Str) (ab : Bool) (q : List Str) (qs : List (List Str)) :
    foundOf bs ps last ((if ab = true then [[]] else q :: qs ++ [[]]).map fun q => nmOf (if ab = true then [] else q)) = foundOf bs ps last (if ab = true then [Str.ofString "::"] else nmOf q :: qs.map nmOf ++ [Str.ofString "::"]) := by
  cases ab
  · have e : ((q :: qs ++ [[]] : List (List Str)).map fun q => nmOf (if false = true then [] else q)) = nmOf q :: qs.map nmOf ++ [Str.ofString "::"] := by
      simp only [Bool.false_eq_true, if_false, List.map_append, List.map_cons, List.map_nil]
      rfl
    simp only [Bool.false_eq_true, if_false] at e ⊢
    rw [e]
  · rfl
theorem RefsAre.has {ns : List Nd} {vs : List Value} {qs : List (List Str)} (h : RefsAre ns vs qs) : ∀ q ∈ qs, Np.has ns q = true := by
  induction h with
  | nil => exact fun q hq => nomatch hq
  | cons hc _ ih =>
    intro q hq
    rcases List.mem_cons.mp hq with rfl | hq
    · exact has_iff.mpr ⟨_, hc, rfl⟩
    · exact ih q hq
theorem St.pathsOk {w : World} {led : Led} {C : Addr} {ns : List Nd} {bs : List Bn} {rx hA mA pA bA td : Addr} {bv : Array Value} {kb : Nat} (S : St w led C ns bs rx hA mA pA bA td bv kb) : PathsOk ns := by
  intro nd hnd
  have : nd.pth ∈ bs.map (·.pth) := by rw [← S.same]; exact List.mem_map.mpr ⟨nd, hnd, rfl⟩
  obtain ⟨b, hb, e⟩ := List.mem_map.mp this
  have hr := (S.mat b hb nd hnd e.symm).2.1
  have h10 := (S.own.paths.inn b hb).2.2
  have hl := hr.length
  rw [Array.length_toList] at hl
  exact ⟨by omega, hr.all⟩
theorem St.lens {w : World} {led : Led} {C : Addr} {ns : List Nd} {bs : List Bn} {rx hA mA pA bA td : Addr} {bv : Array Value} {kb : Nat} (S : St w led C ns bs rx hA mA pA bA td bv kb) : (∀ c ∈ bs, (nmOf c.pth).length ≤ 10000) ∧ ∀ c ∈ bs, ∀ q ∈ c.pq, (nmOf q).length ≤ 10000 := by
  have key : ∀ q, has ns q = true → (nmOf q).length ≤ 10000 := by
    intro q hq
    obtain ⟨nd, hnd, rfl⟩ := has_iff.mp hq
    have h1 := nmOf_len nd.pth (S.rep.tree.part nd hnd)
    have h2 := S.rep.tree.deep nd hnd
    omega
  refine ⟨fun c hc => key _ ?_, fun c hc q hq => key _ ?_⟩
  · rw [has_mem, S.same]; exact List.mem_map.mpr ⟨c, hc, rfl⟩
  · have : c.pth ∈ ns.map (·.pth) := by rw [S.same]; exact List.mem_map.mpr ⟨c, hc, rfl⟩
    obtain ⟨nd, hnd, e⟩ := List.mem_map.mp this
    exact (S.mat c hc nd hnd e).2.1.has q hq
end
section
open PySem PySem.W PyProof.Rows PySem.Calls PySem.SeqAt
set_option Elab.async false
set_option maxRecDepth 100000
set_option maxHeartbeats 40000000
local macro_rules | `(tactic| walk_at "compareOp NotEq none none") => `(tactic| (k_here; k_dflt (refine ne_same (by k_asm) LR.none LR.none (by rfl) (by ktr_units) ?_)))
local macro_rules | `(tactic| walk_at "exec If") => `(tactic| ((rename YesStop => hys); refine Stop.mk ?_))
local macro_rules | `(tactic| walk_at "compareOp NotEq ref ref") => `(tactic| refine Stop.mk ?_)
local macro_rules | `(tactic| walk_at "subscriptTail Name Slice ref ref") => `(tactic| refine Stop.mk ?_)
local macro_rules | `(tactic| walk_at "setAttr ref") => `(tactic| (k_here; k_dflt (refine' attr_set ?k1x8 ?k2x8 ?k3x8 ?k4x8 ?k5x8 ?kmx8 ?k6x8 ?k7x8 ?k8x8 ?k9x8 ?k10x8 ?k11x8 ?k13x8 ?_; (case k1x8 => k_asm); (case k2x8 => k_asm); (case k3x8 => k_asm); (case k4x8 => k_inst); (case k5x8 => exact rfl); (case km => k_mem); (case k6x8 => k_is); (case k7x8 => k_is); (case k8x8 => k_is); (case k9x8 => k_is); (case k10x8 => k_get); (case k11x8 => k_put); (case k13x8 => exact Nat.le_of_ble_eq_true rfl); k_whole); intro h' F' N'; refine Stop.mk ?_))
local macro_rules | `(tactic| walk_at "call builtin:list.append") => `(tactic| refine Stop.mk ?_)
local macro_rules | `(tactic| walk_at "binaryOp Mod int int") => `(tactic| (k_here; (with_reducible refine mod_int' ?kbe ?_); (case kbe => first | decide | assumption)))
local macro_rules | `(tactic| walk_at "call builtin:len") => `(tactic| refine Stop.mk ?_)
local macro_rules | `(tactic| walk_at "last subscriptTail") => `(tactic| ((with_reducible show wpAny _ _ (subscriptTail _ _ (Value.ref _) (Value.int _ _)) _ _ _); refine Stop.mk ?_))
local macro_rules | `(tactic| walk_at "subscriptTail") => `(tactic| ((with_reducible show wpAny _ _ (subscriptTail _ _ (Value.ref _) (Value.int _ _)) _ _ _); refine Stop.mk ?_))
local macro_rules | `(tactic| walk_at "call type:range") => `(tactic| refine Stop.mk ?_)
local macro_rules | `(tactic| walk_at "storeName") => `(tactic| (k_here; k_dflt (refine' cell_set ?F ?N ?c ?m ?d ?_ ?a ?b; (case a => rfl); (case b => rfl); (case F => k_asm); (case N => k_asm); (case c => rfl); (case m => k_mem); (case d => assumption); k_whole); intro h' o' F' N' d'; refine Stop.mk ?_))
local macro_rules | `(tactic| walk_at "KdnMade") => `(tactic| refine Stop.mk ?_)
theorem tt : PySem.Challenge.rw_np0129_01.Holds := hd (by
  k_go0
  (try k_fold)
  k_steps
  rename World => w
  rename Shared => s1
  rename List Value => vs
  rename List Int => is
  rename Fr _ _ _ _ => F0
  rename News _ _ _ _ => N0
  rename CellsAre _ _ _ => X0
  rename (_ = Data.cell _) => hC0
  clear X0
  rename Heap.IsList _ _ _ => hsl
  rename IntsAre _ _ => hints
  rename_i hcdz hsz hlayz hL1z hr1z hl2z la1 la2 sl asz raz wlz r0z hrz hc1z hc2z K0z hDz h1 tk1 oC _ _
  clear hDz hcdz r0z wlz
  replace hC0 : _ = Data.cell none := hC0
  replace F0 : Fr _ _ _ (ovr [(Str.ofString "script", some (.ref sl)), (Str.ofString "root", none), (Str.ofString "held", none), (Str.ofString "marks", none), (Str.ofString "paths", none), (Str.ofString "book", none), (Str.ofString "k", none), (Str.ofString "number", none), (Str.ofString "here", none), (Str.ofString "text", none), (Str.ofString "is_absolute", none), (Str.ofString "parts", none), (Str.ofString "steps", none), (Str.ofString "name", none), (Str.ofString "made", none), (Str.ofString "last", none), (Str.ofString "drawn", none), (Str.ofString "space", none), (Str.ofString "due", none)]) := fr_ovrC (b := [(Str.ofString "script", .ref sl)]) F0 [Str.ofString "root", Str.ofString "held", Str.ofString "marks", Str.ofString "paths", Str.ofString "book", Str.ofString "k", Str.ofString "number", Str.ofString "here", Str.ofString "text", Str.ofString "is_absolute", Str.ofString "parts", Str.ofString "steps", Str.ofString "name", Str.ofString "made", Str.ofString "last", Str.ofString "drawn", Str.ofString "space", Str.ofString "due"] (by rfl)
  refine Stop.out ?_
  generalize hgeZ : s1.gens = geZ
  generalize hdrZ : s1.drawn = drZ
  generalize hosZ : s1.os = osZ
  k_dflt (refine (spec_ns _ _ _ _ _ (Str.ofString "::") _ .none) _ _ _ _ _ _ _ _ _ _ _ _ _ _ _ _ _ (by k_asm) (by k_asm) (by k_asm) (by k_asm) (by k_asm) (by first | exact rfl | assumption) (by ktr_room) (by ktr_units) ?_); intro r2 led2 h2 tk2 F2 N2 P2
  clear F0 N0
  obtain ⟨x, d, ch, cm, vr, ex, pa, ts, och, ocm, ovr', rfl, rfl, hi1, hi2, hi3, hs1, hs2, hs3, hlt, o1, o2, o3, o4, o5, o6⟩ := P2
  have hCd := hlt _ (.head _)
  k_steps
  rename_i oc2 Fc Nc hoc2
  refine Stop.out ?_
  rename Obj.IsDictOf _ _ _ => hot
  rename (_ == sysModules) = false => htlo
  rename (_ ∧ _ ∧ _ ∧ _ ∧ _ ∧ _ ∧ _ ∧ _) => hord
  obtain ⟨td, ot, hNc, hCtd, hotd, htdlo, hpatd, hled⟩ : ∃ (td : Addr) (ot : Obj), News _ _ _ (setL (_ + 1) oc2 ((td, ot) :: _)) ∧ oc2.data = .cell (some (.ref td)) ∧ ot.IsDictOf (SK _) [(Str.ofString "::", Value.ref x)] ∧ (td == sysModules) = false ∧ @LT.lt Nat _ pa td ∧ True := ⟨_, _, Nc, hoc2, hot, htlo, hord.1, trivial⟩
  clear Nc hoc2 hot htlo hord hled
  obtain ⟨led1, hled1, N3⟩ : ∃ led1, led1 = _ ∧ News _ _ _ led1 := ⟨_, rfl, hNc⟩
  clear hNc
  have m1 : ∀ p ∈ led1, @LE.le Nat _ p.1 td := by
    intro p hp
    rw [hled1] at hp
    have := setL_lt (a := td + 1) (fun q hq => by
      have hh : @LT.lt Nat _ q.1 (td + 1) := by
        simp only [List.mem_cons, List.not_mem_nil, or_false] at hq
        have hCd' : @LT.lt Nat _ _ d := hCd
        rcases hq with e | e | e | e | e | e | e | e | e <;> rw [e] <;> dsimp only at hCd' ⊢ <;> omega
      exact hh) p hp
    exact Nat.le_of_lt_succ this
  have hCd' : @LT.lt Nat _ _ d := hCd
  dsimp only at hCd'
  have eC : (s1.heap.objs.size + 1, oc2) ∈ led1 := by rw [hled1]; exact setL_self (.tail _ (.tail _ (.tail _ (.tail _ (.tail _ (.tail _ (.tail _ (.tail _ (.head _)))))))))
  have etd : (td, ot) ∈ led1 := by rw [hled1]; exact setL_ne (.head _) (show @Ne Nat _ _ by have : @LT.lt Nat _ pa td := hpatd; dsimp only; omega)
  have epa : (pa, PySem.W.listOf #[] 0) ∈ led1 := by rw [hled1]; exact setL_ne (.tail _ (.head _)) (show @Ne Nat _ _ by dsimp only; omega)
  have eex : (ex, PySem.W.listOf #[] 0) ∈ led1 := by rw [hled1]; exact setL_ne (.tail _ (.tail _ (.head _))) (show @Ne Nat _ _ by dsimp only; omega)
  have evr : (vr, ovr') ∈ led1 := by rw [hled1]; exact setL_ne (.tail _ (.tail _ (.tail _ (.head _)))) (show @Ne Nat _ _ by dsimp only; omega)
  have ecm : (cm, ocm) ∈ led1 := by rw [hled1]; exact setL_ne (.tail _ (.tail _ (.tail _ (.tail _ (.head _))))) (show @Ne Nat _ _ by dsimp only; omega)
  have ech : (ch, och) ∈ led1 := by rw [hled1]; exact setL_ne (.tail _ (.tail _ (.tail _ (.tail _ (.tail _ (.head _)))))) (show @Ne Nat _ _ by dsimp only; omega)
  have exx : (x, instObj 31 d) ∈ led1 := by rw [hled1]; exact setL_ne (.tail _ (.tail _ (.tail _ (.tail _ (.tail _ (.tail _ (.head _))))))) (show @Ne Nat _ _ by dsimp only; omega)
  have edd : (d, dictOf (nsEs w ⟨[], tk1, x, d, ch, cm, vr, ex, pa, ts, .none, [], [], #[], #[], 0, 0⟩) 8) ∈ led1 := by rw [hled1]; exact setL_ne (.tail _ (.tail _ (.tail _ (.tail _ (.tail _ (.tail _ (.tail _ (.head _)))))))) (show @Ne Nat _ _ by dsimp only; omega)
  clear hled1
  k_steps
  rename Fr _ _ _ _ => Fh
  rename News _ _ _ _ => Nh
  rename_i hA h4 ob4 F4 N4 l4 lhA io4 ha h5 oha lha ioha fs5 hi5 fi5 l5
  clear fs5 hi5 fi5
  clear F4 N4
  refine Stop.out ?_
  k_dflt (refine kdn_one Fh Nh (.tail _ (.head _)) io4 ?_)
  intro h6 ohA F6 N6 iohA
  clear Fh Nh
  obtain ⟨ehA, eha, k2, chA⟩ := disp_step (o := ob4) (o' := ohA) (oa := oha) l4 l5.1
  obtain ⟨led2, hled2⟩ : ∃ l, l = setL hA ohA ((ha, oha) :: (hA, ob4) :: led1) := ⟨_, rfl⟩
  rw [← hled2] at N6 ehA eha k2
  clear hled2
  have bhA := l4
  clear l4 l5 io4
  k_steps
  rename Fr _ _ _ _ => Fh
  rename News _ _ _ _ => Nh
  rename_i mA h4 ob4 l4 lmA io4 ma h5 l5
  refine Stop.out ?_
  k_dflt (refine kdn_one Fh Nh (.tail _ (.head _)) io4 ?_)
  intro h6 omA F6 N6 iomA
  clear Fh Nh
  obtain ⟨emA, ema, k3, cmA⟩ := disp_step (o := ob4) (o' := omA) (oa := (PySem.W.listOf #[] 0)) l4 l5.1
  obtain ⟨led3, hled3⟩ : ∃ l, l = setL mA omA ((ma, (PySem.W.listOf #[] 0)) :: (mA, ob4) :: led2) := ⟨_, rfl⟩
  rw [← hled3] at N6 emA ema k3
  clear hled3
  have bmA := l4
  clear l4 l5 io4
  k_steps
  rename Fr _ _ _ _ => Fh
  rename News _ _ _ _ => Nh
  rename_i pA h4 ob4 l4 lpA io4 qa h5 l5
  refine Stop.out ?_
  k_dflt (refine kdn_one Fh Nh (.tail _ (.head _)) io4 ?_)
  intro h6 opA F6 N6 iopA
  clear Fh Nh
  obtain ⟨epA, eqa, k4, cpA⟩ := disp_step (o := ob4) (o' := opA) (oa := (PySem.W.listOf #[] 0)) l4 l5.1
  obtain ⟨led4, hled4⟩ : ∃ l, l = setL pA opA ((qa, (PySem.W.listOf #[] 0)) :: (pA, ob4) :: led3) := ⟨_, rfl⟩
  rw [← hled4] at N6 epA eqa k4
  clear hled4
  have bpA := l4
  clear l4 l5 io4
  k_steps
  rename Fr _ _ _ _ => Fh
  rename News _ _ _ _ => Nh
  rename_i tb bA _ bbA _ _
  obtain ⟨led5, hled5⟩ : ∃ l, l = (bA, PySem.W.listOf #[Value.str (Str.ofString "::") tb] 0) :: led4 := ⟨_, rfl⟩
  rw [← hled5] at Nh
  have k14 : ∀ p ∈ led1, p ∈ led5 := fun p hp => by rw [hled5]; exact .tail _ (k4 p (k3 p (k2 p hp)))
  have k25 : ∀ p ∈ led2, p ∈ led5 := fun p hp => by rw [hled5]; exact .tail _ (k4 p (k3 p hp))
  have k35 : ∀ p ∈ led3, p ∈ led5 := fun p hp => by rw [hled5]; exact .tail _ (k4 p hp)
  have k45 : ∀ p ∈ led4, p ∈ led5 := fun p hp => by rw [hled5]; exact .tail _ hp
  have S0 := init_st (w := w) (led := led5) hCd' o1 o2 o3 o4 o5 o6 hpatd (bhA _ etd) chA (bmA _ eha) cmA (bpA _ ema) cpA (bbA _ eqa) (k14 _ exx) (k14 _ edd) (k14 _ ech) (k14 _ ecm) (k14 _ evr) (k14 _ eex) (k14 _ epa) hi1 hi2 hi3 hs1 hs2 hs3
    (k14 _ eC) hCtd (k14 _ etd) hotd htdlo (k25 _ ehA) iohA lhA (k25 _ eha) ioha lha (k35 _ emA) iomA lmA (k35 _ ema) (k45 _ epA) iopA lpA (k45 _ eqa) (by rw [hled5]; exact .head _) (tb := tb)
  obtain ⟨ns0, bs0, bv0, kb0, S, Ba, Cn⟩ : ∃ ns bs bv kb, St w led5 (s1.heap.objs.size + 1) ns bs x hA mA pA bA td bv kb ∧ Bare ns bs ∧ Cnt 0 ns bs := ⟨_, _, _, _, S0, ⟨by simp, by simp⟩, ⟨by simp, by simp, by simp⟩⟩
  clear hCtd hotd htdlo hpatd m1 hCd' lhA ioha lha chA bhA lmA cmA bmA lpA cpA bpA bbA o1 o2 o3 o4 o5 o6 hi1 hi2 hi3 hs1 hs2 hs3 hlt hCd S0 k14 k25 k35 k45 hled5 k4 k3 k2 eqa epA ema emA eha ehA edd exx ech ecm evr eex epa etd eC iopA iomA iohA
  obtain ⟨rx, rfl⟩ : ∃ rx, rx = x := ⟨_, rfl⟩
  replace Fh : Fr _ _ _ (lawM (some (.ref sl)) (some (.ref rx)) (some (.ref hA)) (some (.ref mA)) (some (.ref pA)) (some (.ref bA)) (none) (none) (none) (none) (none) (none) (none) (none) (none) (none) (none) (none) (none)) := fr_eq Fh (by (try unfold lawM); funext y; simp only [← ovr_set_at]; rfl)
  have his : vs.length ≤ 63 := by have := hints.length; omega
  (refine Stop.out ?_; (rename Fr _ _ _ _ => Ffor); k_dflt (with_unfolding_all refine For_invVF Ffor (by exact rfl) (by exact rfl) ?_))
  k_steps
  refine Stop.out ?_
  k_dflt (with_unfolding_all refine range1_rows Ffor Nh ?_)
  intro h8 tk8 t8 u8 v8 hrg F8 N8 keep8
  k_steps
  refine Stop.out ?_
  clear Fc Ffor Nh keep8
  refine for_range (n := 4) (fun i m nw => ∃ (ns : List Nd) (bs : List Bn) (td : Addr) (bv : Array Value) (kb : Nat), Ex9 fun p1 p2 p3 p4 p5 p6 p7 p8 p9 => m = (lawM (some (.ref sl)) (some (.ref rx)) (some (.ref hA)) (some (.ref mA)) (some (.ref pA)) (some (.ref bA)) (p1) (p2) (p3) (p4) (p5) (p6) (p7) (p8) (p9) (none) (none) (none) (none)) ∧ St w nw (s1.heap.objs.size + 1) ns bs rx hA mA pA bA td bv kb ∧ Bare ns bs ∧ Cnt i ns bs) rfl hrg (by decide) (by decide) F8 N8 ?_ ?_ ?_
  · exact ⟨ns0, bs0, td, bv0, kb0, none, none, none, none, none, none, none, none, none, rfl, S, Ba, Cn⟩
  · clear S Ba Cn
    intro i t m₁ news₁ h tk I ito hin JZ hne F₁ N₁
    (try dsimp only)
    (try k_fold)
    obtain ⟨ns, bs, td, bv, kb, p1, p2, p3, p4, p5, p6, p7, p8, p9, rfl, S, Ba, Cn⟩ := JZ
    clear F8 N8 hrg
    k_steps
    refine Stop.out ?_
    k_dflt (refine spec_number w _ _ _ _ sl vs is hints his _ _ (by omega) (by omega) _ _ _ _ _ _ _ _ _ _ _ _ _ _ _ _ _ (by k_asm) (by k_asm) (by k_asm) (by k_asm) (by k_asm) (by first | exact rfl | assumption) (by ktr_room) (by ktr_units) hsl ?_)
    rintro _ _ h2 tk2 F2 N2 rfl ⟨n, tn, rfl⟩
    clear F₁ N₁
    have hbk := S.own.bk
    have hbks := S.own.bks
    have hbl := hbks.length
    rw [List.length_map, Array.length_toList] at hbl
    have hbn : bs.length = ns.length := by have := congrArg List.length S.same; simpa using this.symm
    have hbp : 0 < bs.length := by obtain ⟨rt, hrt, _⟩ := S.root; rw [hbn]; exact List.length_pos_of_mem hrt
    have hb60 : bs.length ≤ 60 := by rw [hbn]; exact S.few
    have hbv0 : (bv.size : Int) ≠ 0 := by omega
    k_steps
    refine Stop.out ?_
    rename News _ _ _ _ => Nt
    k_dflt (refine call_len_list (isList_of Nt (.tail _ hbk)) (by omega) ?_)
    k_steps
    refine Stop.out ?_
    k_dflt (refine list_itemS Nt (.tail _ hbk) hbks (fm _ _ (by omega)).1 (by rw [List.length_map]; have := (fm (n.fmod 12) (bv.size : Int) (by omega)).2; omega) (by rw [List.length_map]; omega) ?_ (by with_unfolding_all rfl))
    intro hp th hph
    obtain ⟨b, hb, rfl⟩ := book_at hph
    clear hph
    obtain ⟨nb, hnb, hnbp⟩ : ∃ nb ∈ ns, nb.pth = b.pth := by
      have : b.pth ∈ ns.map (·.pth) := by rw [S.same]; exact List.mem_map.mpr ⟨b, hb, rfl⟩
      exact List.mem_map.mp this
    have hbdeep : b.pth.length ≤ 4 * i := by rw [← hnbp]; exact Cn.deep nb hnb
    have hbmenu := S.own.menu b hb
    have hblen : (nmOf b.pth).length ≤ 1000 := by have := nmOf_len b.pth hbmenu; omega
    k_steps
    (refine Stop.out ?_; k_dflt (refine (spec_name w _ _ _ _ _ _) _ _ _ _ _ _ _ _ _ _ _ _ _ _ _ _ _ (by k_asm) (by k_asm) (by k_asm) (by k_asm) (by k_asm) (by first | exact rfl | assumption) (by ktr_room) (by ktr_units) ?_); intro r2 led2 h2 tk2 F2 N2 P2)
    obtain ⟨tu, l, us, ku, txt, tt, ab, ps, rfl, rfl, hus, hnm, hlt1, hltl⟩ := P2
    have NF := hnm.facts
    have hpsz : ps.length ≤ 100 := by have := NF.four; omega
    have hpsl : ∀ x ∈ ps, x.length ≤ 100 := fun x hx => by
      rcases NF.all x hx with h | h
      · exact menu_len h
      · rw [h]; decide
    obtain ⟨q0, hq0⟩ : ∃ q0, q0 = (if ab = true then [] else b.pth) := ⟨_, rfl⟩
    have hst : (if ab = true then Str.ofString "::" else nmOf b.pth) = nmOf q0 := by rw [hq0]; cases ab <;> rfl
    k_steps
    (refine Stop.out ?_; k_dflt (refine (spec_steps w _ _ _ _ (nmOf b.pth) _ ab l us ps ku (by omega) (.tail _ (.head _)) hus hpsz hpsl) _ _ _ _ _ _ _ _ _ _ _ _ _ _ _ _ _ (by k_asm) (by k_asm) (by k_asm) (by k_asm) (by k_asm) (by first | exact rfl | assumption) (by ktr_room) (by ktr_units) ?_); intro r2 led2 h2 tk2 F2 N2 P2)
    obtain ⟨ls, uss, ks, rfl, rfl, huss, hlts⟩ := P2
    rw [hst, stepsS_map] at huss
    obtain ⟨base, hbase⟩ : ∃ base, base = (ls, PySem.W.listOf uss ks) :: (tu, ({ cls := .type "tuple", data := .seq #[.str txt tt, .bool ab, .ref l] } : Obj)) :: (l, PySem.W.listOf us ku) :: (I, ito) :: news₁ := ⟨_, rfl⟩
    have hq0m : ∀ p ∈ q0, p ∈ menu := by rw [hq0]; cases ab; exact hbmenu; exact fun p hp => nomatch hp
    have hsub1 : ∀ p ∈ news₁, p ∈ base := fun p hp => by rw [hbase]; exact .tail _ (.tail _ (.tail _ (.tail _ hp)))
    have hoadlt : ∀ a ∈ oad hA mA pA bA bs, @LT.lt Nat _ a l := fun a ha => by obtain ⟨o, ho⟩ := S.own.mem a ha; exact hltl _ (.tail _ ho)
    have hlsl : @LT.lt Nat _ l ls := hlts _ (.tail _ (.head _))
    have htul : @LT.lt Nat _ l tu := hlt1
    have hlsO : ls ∉ oad hA mA pA bA bs := fun hm => by have := hoadlt _ hm; omega
    k_steps
    (refine Stop.out ?_; (rename Fr _ _ _ _ => Ffor); k_dflt (with_unfolding_all refine For_invVF Ffor (by exact rfl) (by exact rfl) ?_))
    k_steps
    refine Stop.out ?_
    rename Fr _ _ _ _ => Fld
    rename News _ _ _ _ => Nl
    rw [← hbase] at Nl
    have hmls : (ls, PySem.W.listOf uss ks) ∈ base := by rw [hbase]; exact .head _
    refine for_list (l := ls) (vs := uss) (fun j m nw => ∃ (bs1 : List Bn) (bv1 : Array Value) (kb1 : Nat) (pn : Option Value), m = (lawM (some (.ref sl)) (some (.ref rx)) (some (.ref hA)) (some (.ref mA)) (some (.ref pA)) (some (.ref bA)) (some (.int (0 + (i : Int)) t)) (some (.int n tn)) (some (.str (nmOf b.pth) th)) (some (.str txt tt)) (some (.bool ab)) (some (.ref l)) (some (.ref ls)) (pn) (p9) (none) (none) (none) (none)) ∧ Grow w base nw bs bs1 hA mA pA bA bv1 kb1 ((stepsP q0 ps).take j)) rfl (isList_of Nl hmls) (news_ne Nl hmls) Fld Nl ?_ ?_ ?_ ?_
    · exact .inr ⟨_, fun j m nw h => by obtain ⟨_, _, _, _, _, G⟩ := h; exact G.keep _ hmls hlsO⟩
    · exact ⟨bs, bv, kb, _, (by (try unfold lawM); funext y; simp only [← ovr_set_at]; rfl), .start (S.own.keep fun p hp _ => hsub1 p hp)⟩
    · intro j v m₂ nw h3 tk3 I2 it2 hv JZ hne2 F₂ N₂
      (try dsimp only)
      (try k_fold)
      obtain ⟨bs1, bv1, kb1, pn, rfl, G⟩ := JZ
      clear Fld Nl
      obtain ⟨nq, tq, rfl, hnq⟩ := huss.item j v (by simpa using hv)
      rw [List.getElem?_map] at hnq
      obtain ⟨q, hqj, rfl⟩ : ∃ q, (stepsP q0 ps)[j]? = some q ∧ nmOf q = nq := by
        cases hq : (stepsP q0 ps)[j]? with
        | none => rw [hq] at hnq; cases hnq
        | some q => rw [hq] at hnq; exact ⟨q, rfl, Option.some.inj hnq⟩
      have hqm : ∀ p ∈ q, p ∈ menu := stepsP_menu hq0m NF.all q (List.mem_of_getElem? hqj)
      have htake : (stepsP q0 ps).take (j + 1) = (stepsP q0 ps).take j ++ [q] := by rw [List.take_add_one, hqj]; rfl
      obtain ⟨⟨⟨oh, hoh, hih⟩, hhs⟩, _⟩ := G.own.held
      obtain ⟨⟨om, hom, him⟩, hms⟩ := G.own.marks
      obtain ⟨⟨⟨oq, hoq, hiq⟩, hqs⟩, _⟩ := G.own.paths
      have hbk1 := G.own.bk
      have hin1 := G.own.notin hqm
      have hvh : (valueAt (Np.hkv bs1) (nmOf q)).isSome = decide (q ∈ bs1.map (·.pth)) := by rw [← hin1]; have := valueAt_map bs1 (fun b => .ref b.ha) (nmOf q); unfold hkv; rw [this, Option.isSome_map]
      by_cases hq : q ∈ bs1.map (·.pth)
      · rw [decide_eq_true hq] at hvh
        k_steps
        rename Fr _ _ _ _ => Fe
        rename News _ _ _ _ => Nw
        refine LEnd.intro Fe Nw nw (.head _) (fun p hp => .tail _ hp) hne2 ⟨bs1, bv1, kb1, _, (by (try unfold lawM); funext y; simp only [← ovr_set_at]; rfl), ?_⟩
        rw [htake]
        exact G.old (fun _ hp => hp) hq
      · rw [decide_eq_false hq] at hvh
        have hlen1 : bs1.length ≤ 100 := by have h1 := G.len; have h2 := stepsP_len ps q0; have h3 := NF.four; rw [List.length_take] at h1; omega
        have hz1 : (Np.hkv bs1).length ≤ sizeLine := by unfold hkv; rw [sizeLine_eq, List.length_map]; omega
        have hz2 : (Np.mkv bs1).length ≤ sizeLine := by unfold mkv; rw [sizeLine_eq, List.length_map]; omega
        have hz3 : (Np.qkv bs1).length ≤ sizeLine := by unfold qkv; rw [sizeLine_eq, List.length_map]; omega
        k_steps
        rename_i ha h4 oda F4 N4 lha ioda fs4 hi4 fi4 l4 h5 oh2 F5 N5 ioh2
        clear F4 N4 fs4 hi4 fi4
        refine Stop.out ?_
        obtain ⟨la, hla⟩ : ∃ la, la = setL hA oh2 ((ha, oda) :: (I2, it2) :: nw) := ⟨_, rfl⟩
        obtain ⟨ea1, ea2, ka⟩ := put_step (o' := oh2) (oa := oda) (led := (I2, it2) :: nw) (.tail _ hoh) (fresh_lt l4 it2)
        rw [← hla] at N5 ea1 ea2 ka
        clear hla
        have hoN := G.own.adr
        unfold oad at hoN
        simp only [List.nodup_cons, List.mem_cons, not_or] at hoN
        obtain ⟨⟨nhm, nhp, nhb, _⟩, ⟨nmp, nmb, _⟩, ⟨npb, _⟩, _⟩ := hoN
        have hom2 : (mA, om) ∈ la := ka _ (.tail _ hom) (Ne.symm nhm)
        k_steps
        rename_i ma h6 F6 N6 l6 h7 om2 F7 N7 iom2
        clear F6 N6
        refine Stop.out ?_
        obtain ⟨lb, hlb⟩ : ∃ lb, lb = setL mA om2 ((ma, PySem.W.listOf #[] 0) :: la) := ⟨_, rfl⟩
        obtain ⟨eb1, eb2, kb⟩ := put_step (o' := om2) (oa := PySem.W.listOf #[] 0) hom2 l6
        rw [← hlb] at N7 eb1 eb2 kb
        clear hlb
        have hoq2 : (pA, oq) ∈ lb := kb _ (ka _ (.tail _ hoq) (Ne.symm nhp)) (Ne.symm nmp)
        k_steps
        rename_i qa h8 F8 N8 l8 h9 oq2 F9 N9 ioq2
        clear F8 N8
        refine Stop.out ?_
        obtain ⟨lc, hlc⟩ : ∃ lc, lc = setL pA oq2 ((qa, PySem.W.listOf #[] 0) :: lb) := ⟨_, rfl⟩
        obtain ⟨ec1, ec2, kc⟩ := put_step (o' := oq2) (oa := PySem.W.listOf #[] 0) hoq2 l8
        rw [← hlc] at N9 ec1 ec2 kc
        clear hlc
        have hbk3 : (bA, PySem.W.listOf bv1 kb1) ∈ lc := kc _ (kb _ (ka _ (.tail _ hbk1) (Ne.symm nhb)) (Ne.symm nmb)) (Ne.symm npb)
        have hbz1 : bv1.size ≤ sizeLine := by have := G.own.bks.length; rw [List.length_map, Array.length_toList] at this; rw [sizeLine_eq]; omega
        k_steps
        refine Stop.out ?_
        rename Fr _ _ _ _ => Fa
        rename News _ _ _ _ => Na
        k_dflt (refine list_append Fa Na hbk3 ?_ hbz1)
        intro h10 F10 N10
        clear Fa Na
        k_steps
        rename Fr _ _ _ _ => Fe
        rename News _ _ _ _ => Nw
        have lt0 : ∀ p ∈ (I2, it2) :: nw, @LT.lt Nat _ p.1 ha := fresh_lt l4 it2
        have ltm : @LT.lt Nat _ mA ha := lt0 _ (.tail _ hom)
        have ltp : @LT.lt Nat _ pA ha := lt0 _ (.tail _ hoq)
        have ltb : @LT.lt Nat _ bA ha := lt0 _ (.tail _ hbk1)
        have ltI : @LT.lt Nat _ I2 ha := lt0 _ (.head _)
        have lta : @LT.lt Nat _ ha ma := l6 _ ea2
        have ltq : @LT.lt Nat _ ma qa := l8 _ eb2
        have hIh : hA ≠ I2 := hne2 _ hoh
        have hIm : mA ≠ I2 := hne2 _ hom
        have hIp : pA ≠ I2 := hne2 _ hoq
        have hIb : bA ≠ I2 := hne2 _ hbk1
        have kall : ∀ p ∈ (I2, it2) :: nw, p.1 ≠ hA → p.1 ≠ mA → p.1 ≠ pA → p.1 ≠ bA → p ∈ setL bA (PySem.W.listOf (bv1.push (.str (nmOf q) tq)) (kb1 + 1)) lc := fun p hp n1 n2 n3 n4 => setL_ne (kc _ (kb _ (ka _ hp n1) n2) n3) n4
        refine LEnd.intro Fe Nw (rest I2 (setL bA (PySem.W.listOf (bv1.push (.str (nmOf q) tq)) (kb1 + 1)) lc)) (kall _ (.head _) (Ne.symm hIh) (Ne.symm hIm) (Ne.symm hIp) (Ne.symm hIb)) (fun p hp => (rest_in hp).1) (fun p hp => (rest_in hp).2) ⟨bs1 ++ [⟨q, ha, ma, qa, [], [], #[], 0, [], #[], 0⟩], bv1.push (.str (nmOf q) tq), kb1 + 1, some (.str (nmOf q) tq), (by (try unfold lawM); funext y; simp only [← ovr_set_at]; rfl), ?_⟩
        rw [htake]
        have e1 : valueAt (Np.hkv bs1) (nmOf q) = none := by cases hc : valueAt (Np.hkv bs1) (nmOf q) with | none => rfl | some v => rw [hc] at hvh; cases hvh
        have hno : atNm bs1 (nmOf q) = none := by cases hc : atNm bs1 (nmOf q) with | none => rfl | some v => rw [hc, decide_eq_false hq] at hin1; cases hin1
        have e2 : valueAt (Np.mkv bs1) (nmOf q) = none := by have := valueAt_map bs1 (fun b => .ref b.ma) (nmOf q); rw [hno] at this; exact this
        have e3 : valueAt (Np.qkv bs1) (nmOf q) = none := by have := valueAt_map bs1 (fun b => .ref b.qa) (nmOf q); rw [hno] at this; exact this
        rw [stored_new e1] at ioh2
        rw [stored_new e2] at iom2
        rw [stored_new e3] at ioq2
        have zz : ∀ {a b : Nat}, a < b → (a : Addr) ≠ b := fun h => Nat.ne_of_lt h
        have zy : ∀ {a b : Nat}, b < a → (a : Addr) ≠ b := fun h => (Nat.ne_of_lt h).symm
        refine G.new hq (G.own.add (t := tq) hqm hq (fun p hp => lt0 p (.tail _ hp)) lta ltq ?_ ioh2 ?_ iom2 ?_ ioq2 ?_ ?_ ioda lha ?_ ?_ (fun p hp n1 n2 n3 n4 => mem_rest (kall p (.tail _ hp) n1 n2 n3 n4) (hne2 p hp))) (fun p hp n1 n2 n3 n4 => mem_rest (kall p (.tail _ hp) n1 n2 n3 n4) (hne2 p hp)) (fun p hp => ?_)
        · exact mem_rest (setL_ne (kc _ (kb _ ea1 nhm) nhp) nhb) hIh
        · exact mem_rest (setL_ne (kc _ eb1 nmp) nmb) hIm
        · exact mem_rest (setL_ne ec1 npb) hIp
        · exact mem_rest (setL_self hbk3) hIb
        · exact mem_rest (setL_ne (kc _ (kb _ ea2 (zy ltm)) (zy ltp)) (zy ltb)) (zy ltI)
        · exact mem_rest (setL_ne (kc _ eb2 (zy (Nat.lt_trans ltp lta))) (zy (Nat.lt_trans ltb lta))) (zy (Nat.lt_trans ltI lta))
        · exact mem_rest (setL_ne ec2 (zy (Nat.lt_trans ltb (Nat.lt_trans lta ltq)))) (zy (Nat.lt_trans ltI (Nat.lt_trans lta ltq)))
        · have h1 : @LT.lt Nat _ p.1 ha := G.below (fun p hp => lt0 p (.tail _ hp)) p hp
          exact ⟨h1, Nat.lt_trans h1 lta, Nat.lt_trans h1 (Nat.lt_trans lta ltq)⟩
    · intro m₂ nw h3 tk3 JZ F₂ N₂
      (try dsimp only)
      (try k_fold)
      obtain ⟨bs1, bv1, kb1, pn, rfl, G⟩ := JZ
      clear Fld Nl
      have hll := huss.length
      rw [List.length_map, Array.length_toList] at hll
      rw [hll, List.take_length] at G
      obtain ⟨oc, hoc, hocd⟩ := S.cell
      have hSa := S.adr
      simp only [List.nodup_cons, List.mem_cons, List.mem_append, not_or] at hSa
      obtain ⟨⟨htC, htO, htN⟩, ⟨hCO, hCN⟩, hSd⟩ := hSa
      have hdis := (List.nodup_append.mp hSd).2.2
      have hocw := G.keep _ (hsub1 _ hoc) hCO
      obtain ⟨⟨ot, D, hot, hotd, hDn, hDa⟩, htdl⟩ := S.tree
      have hotw := G.keep _ (hsub1 _ hot) htO
      have hbD : nb.pth ∈ D := (hDa _).mpr (has_iff.mpr ⟨nb, hnb, rfl⟩)
      have hval : valueAt (tkv ns D) (nmOf b.pth) = some (.ref nb.x) := by rw [← hnbp, valueAt_tkv S.rep.tree (fun q hq => (hDa q).mp hq) (S.rep.tree.part nb hnb), if_pos hbD, S.rep.tree.xAt hnb]
      have hsome : (valueAt (tkv ns D) (nmOf b.pth)).isSome = true := by rw [hval]; rfl
      have Rw : Rep w nw ns := S.rep.keep fun p hp hm => G.keep p (hsub1 p hp) fun ho => hdis _ ho _ hm rfl
      obtain ⟨rt, hrt, hrt0, hrx⟩ := S.root
      obtain ⟨n₀, hn50, hrun⟩ := NF.run
      have hq0e : (if (Txt.find txt (Str.ofString "::") == 0) = true then [] else nb.pth) = q0 := by rw [NF.abs, hnbp, hq0]
      have hq0len : q0.length ≤ 4 * i := by rw [hq0]; cases ab; exact hbdeep; exact Nat.zero_le _
      have hfewS := Cn.few
      have h4 := NF.four
      have h30 := NF.len
      have sp := fun mean mg mb => spec_make_space w mean mg mb nw ns Rw rt nb hrt hrt0 hnb txt tt (by omega) ps n₀ hrun hn50 (fun p hp hne => (NF.all p hp).resolve_right hne) (by omega) (fun nd hnd => by have := Cn.deep nd hnd; omega)
      rw [hrx, hq0e] at sp
      k_steps
      rename_i dv hdv
      obtain rfl := Option.some.inj (hdv.symm.trans hval)
      refine Stop.out ?_
      k_steps
      (refine Stop.out ?_; k_dflt (refine (sp _ _ _) _ _ _ _ _ _ _ _ _ _ _ _ _ _ _ _ _ (by k_asm) (by k_asm) (by k_asm) (by k_asm) (by k_asm) (by first | exact rfl | assumption) (by ktr_room) (by ktr_units) ?_); intro r2 led2 h2 tk2 F2 N2 P2)
      clear sp
      obtain ⟨ns', nd', Rp', Gr, hnd', rfl, hgr, hkp⟩ := P2
      have hq0in : q0 ∈ ns.map (·.pth) := by
        rw [hq0]
        cases ab
        · exact List.mem_map.mpr ⟨nb, hnb, hnbp⟩
        · exact List.mem_map.mpr ⟨rt, hrt, hrt0⟩
      obtain ⟨hpg, hndg⟩ := Prod.mk.inj (hgr.trans (growP_eq ps _ q0 hq0in))
      have M := Mid.make S Ba Cn G hsub1 Rp' Gr hpg hkp h4 hq0len
      have hmk := G.mks Cn
      obtain ⟨b1, hb1, hb1p⟩ : ∃ b1 ∈ bs1, b1.pth = nd'.pth := by
        have : nd'.pth ∈ bs1.map (·.pth) := by rw [← M.same]; exact List.mem_map.mpr ⟨nd', hnd', rfl⟩
        exact List.mem_map.mp this
      have hM1 := M.mat b1 hb1 nd' hnd' hb1p.symm
      have hM2 := (M.own.mm b1 hb1)
      have hb1k := hmk b1 hb1
      have hez : nd'.exps.size ≤ sizeLine := by have := hM1.length; rw [Array.length_toList] at this; rw [sizeLine_eq, this]; omega
      have hmz : b1.mv.size ≤ sizeLine := by have := hM2.2.length; rw [Array.length_toList] at this; rw [sizeLine_eq, this]; omega
      have hNd := M.rep.node nd' hnd'
      have hnx := hNd.hx
      have hndd := hNd.hd
      have hnex := hNd.hex
      have hMa := (List.nodup_cons.mp M.adr)
      have hMd := (List.nodup_append.mp hMa.2).2.2
      have hexm : nd'.ex ∈ ns'.flatMap Nd.addrs := List.mem_flatMap.mpr ⟨nd', hnd', by first | exact Nd.mx _ | exact Nd.md _ | exact Nd.mch _ | exact Nd.mcm _ | exact Nd.mvr _ | exact Nd.mex _ | exact Nd.mpa _⟩
      have hmaO : b1.ma ∈ oad hA mA pA bA bs1 := (oad_line hb1).2.1
      have hexma : nd'.ex ≠ b1.ma := fun e => hMd _ hmaO _ hexm e.symm
      have hls2 : (ls, PySem.W.listOf uss ks) ∈ led2 ∧ ls ∉ ns'.flatMap Nd.addrs := hkp _ (G.keep _ hmls hlsO) (fun hm => by
        obtain ⟨o, ho⟩ := S.rep.addr_mem _ hm
        exact absurd (hlts _ (.tail _ (.tail _ (.tail _ ho)))) (Nat.lt_irrefl _))
      obtain ⟨⟨om1, hom1, him1⟩, hms1⟩ := M.own.marks
      have hmA : mA ∈ oad hA mA pA bA bs1 := by unfold oad; simp
      k_steps
      refine Stop.out ?_
      rename Fr _ _ _ _ => Fa
      rename News _ _ _ _ => Na
      k_dflt (refine list_append Fa Na hnex ?_ hez)
      intro h4' F4 N4
      clear Fa Na
      obtain ⟨la, hla⟩ : ∃ la, la = setL nd'.ex (PySem.W.listOf (nd'.exps.push (.str txt tt)) (nd'.ke + 1)) led2 := ⟨_, rfl⟩
      rw [← hla] at N4
      have ela : (nd'.ex, PySem.W.listOf (nd'.exps.push (.str txt tt)) (nd'.ke + 1)) ∈ la := by rw [hla]; exact setL_self hnex
      have kla : ∀ p ∈ led2, p.1 ≠ nd'.ex → p ∈ la := fun p hp hn => by rw [hla]; exact setL_ne hp hn
      clear hla
      have hls3 := kla _ hls2.1 (fun e => hls2.2 (by rw [show ls = nd'.ex from e]; exact hexm))
      have hom3 := kla _ hom1 (fun e => hMd _ hmA _ hexm e)
      have hvm : valueAt (Np.mkv bs1) (nmOf b1.pth) = some (.ref b1.ma) := by have := valueAt_map bs1 (fun b => .ref b.ma) (nmOf b1.pth); rw [M.own.self hb1] at this; exact this
      k_steps
      refine Stop.out ?_
      have hlast : ((stepsP q0 ps).map nmOf).getLastD (Str.ofString "") = nmOf b1.pth := by rw [List.getLastD_eq_getLast?, List.getLast?_map, stepsP_last, hb1p, hndg]; rfl
      have hsne : (stepsP q0 ps).map nmOf ≠ [] := by intro e; have h1 := stepsP_last ps q0; rw [List.map_eq_nil_iff.mp e] at h1; exact nomatch h1
      have hvm2 : (valueAt (Np.mkv bs1) (nmOf b1.pth)).isSome = true := by rw [hvm]; rfl
      have hma3 := kla _ hM2.1 hexma.symm
      k_dflt (refine list_lastS N4 hls3 huss hsne ?_ (by with_unfolding_all rfl))
      intro t9
      rw [hlast]
      k_steps
      rename_i dv hdv
      obtain rfl := Option.some.inj (hdv.symm.trans hvm)
      refine Stop.out ?_
      k_steps
      refine Stop.out ?_
      rename Fr _ _ _ _ => Fa
      rename News _ _ _ _ => Na
      k_dflt (refine list_append Fa Na hma3 ?_ hmz)
      intro h5' F5 N5
      clear Fa Na
      obtain ⟨lb, hlb⟩ : ∃ lb, lb = setL b1.ma (PySem.W.listOf (b1.mv.push (.str txt tt)) (b1.km + 1)) la := ⟨_, rfl⟩
      rw [← hlb] at N5
      have elb : (b1.ma, PySem.W.listOf (b1.mv.push (.str txt tt)) (b1.km + 1)) ∈ lb := by rw [hlb]; exact setL_self hma3
      have klb : ∀ p ∈ la, p.1 ≠ b1.ma → p ∈ lb := fun p hp hn => by rw [hlb]; exact setL_ne hp hn
      clear hlb
      have M2 := M.put hnd' hb1 hb1p NF.ok (klb _ ela hexma) elb (fun p hp n1 n2 => klb p (kla p hp n1) n2)
      have hmk2 := mks_put (mv := b1.mv.push (.str txt tt)) (km := b1.km + 1) (x := txt) hmk hb1
      obtain ⟨ns2, hns2⟩ : ∃ ns2, ns2 = updN ns' { nd' with exps := nd'.exps.push (.str txt tt), ke := nd'.ke + 1 } := ⟨_, rfl⟩
      obtain ⟨bs2, hbs2⟩ : ∃ bs2, bs2 = updB bs1 { b1 with mv := b1.mv.push (.str txt tt), km := b1.km + 1, mks := b1.mks ++ [txt] } := ⟨_, rfl⟩
      rw [← hns2, ← hbs2] at M2
      rw [← hbs2] at hmk2
      obtain ⟨rt2, hrt2, hrt20, hrx2⟩ := M2.root
      obtain ⟨oc2', v2', hoc2', hocd2'⟩ := M2.cell
      have st := fun mean mg mb => spec_tree w mean mg mb lb ns2 M2.rep rt2 hrt2 hrt20
      rw [hrx2] at st
      k_steps
      (refine Stop.out ?_; k_dflt (refine (st _ _ _) _ _ _ _ _ _ _ _ _ _ _ _ _ _ _ _ _ (by k_asm) (by k_asm) (by k_asm) (by k_asm) (by k_asm) (by first | exact rfl | assumption) (by ktr_room) (by ktr_units) ?_); intro r2 led2 h2 tk2 F2 N2 P2)
      clear st
      obtain ⟨td2, o2', D2, rfl, rfl, hod2, hts2, hltd2, hDn2, hDa2⟩ := P2
      k_steps
      rename_i oc3 Fc3 Nc3 hocd3
      refine Stop.out ?_
      obtain ⟨lc, hlc⟩ : ∃ lc, lc = setL (s1.heap.objs.size + 1) oc3 ((td2, o2') :: lb) := ⟨_, rfl⟩
      rw [← hlc] at Nc3
      have hC3 : (s1.heap.objs.size + 1, oc3) ∈ lc := by rw [hlc]; exact setL_self (.tail _ hoc2')
      have htd3 : (td2, o2') ∈ lc := by rw [hlc]; exact setL_ne (.head _) (Nat.ne_of_lt (hltd2 _ hoc2')).symm
      have klc : ∀ p ∈ lb, p.1 ≠ s1.heap.objs.size + 1 → p ∈ lc := fun p hp hn => by rw [hlc]; exact setL_ne (.tail _ hp) hn
      clear hlc
      have S2 := M2.tree hin hC3 hocd3 htd3 hod2 hts2 hDn2 hDa2 klc hltd2
      have Cn2 := M2.cnt hmk2
      k_steps
      (refine Stop.out ?_; k_dflt (refine (spec_same w _ _ _ _ ns2 S2.rep bs2 hA mA pA S2.book td2 S2.tree S2.few S2.okk) _ _ _ _ _ _ _ _ _ _ _ _ _ _ _ _ _ (by k_asm) (by k_asm) (by k_asm) (by k_asm) (by k_asm) (by first | exact rfl | assumption) (by ktr_room) (by ktr_units) ?_); intro r2 led2 h2 tk2 F2 N2 P2)
      obtain ⟨rfl, rfl⟩ := P2
      k_steps
      rename Fr _ _ _ _ => Fe
      have hIO : I ∉ oad hA mA pA bA bs1 := fun hm => by
        rcases G.fresh _ hm with h | h
        · obtain ⟨o, ho⟩ := S.own.mem _ h
          exact hne _ ho rfl
        · exact absurd (h (I, ito) (by rw [hbase]; exact .tail _ (.tail _ (.tail _ (.head _))))) (Nat.lt_irrefl _)
      have hIb : I ∉ oad hA mA pA bA bs := fun hm => by
        obtain ⟨o, ho⟩ := S.own.mem _ hm
        exact hne _ ho rfl
      have hIn : I ∉ ns.flatMap Nd.addrs := fun hm => by
        obtain ⟨o, ho⟩ := S.rep.addr_mem _ hm
        exact hne _ ho rfl
      have hIk := hkp (I, ito) (G.keep _ (by rw [hbase]; exact .tail _ (.tail _ (.tail _ (.head _)))) hIb) hIn
      have hIC : I ≠ s1.heap.objs.size + 1 := fun e => hne _ hoc e.symm
      have hIx : I ≠ nd'.ex := fun e => hIk.2 (by rw [e]; exact hexm)
      have hIm : I ≠ b1.ma := fun e => hIO (by rw [e]; exact hmaO)
      have hIlb := klb _ (kla _ hIk.1 hIx) hIm
      have hI2 := klc _ hIlb hIC
      have hoad2 : oad hA mA pA bA bs2 = oad hA mA pA bA bs1 := by rw [hbs2]; exact G.own.updOad hb1 rfl ⟨rfl, rfl, rfl⟩
      have hadr2 : ns2.flatMap Nd.addrs = ns'.flatMap Nd.addrs := by rw [hns2]; exact updN_addrs Rp'.tree hnd' rfl rfl
      have S3 := S2.restBare M2.bare (I := I) (by
        rw [hoad2, hadr2]
        intro hm
        rcases List.mem_cons.mp hm with e | hm
        · exact Nat.lt_irrefl _ (show @LT.lt Nat _ td2 td2 by have := hltd2 _ hIlb; rw [e] at this; exact this)
        · rcases List.mem_cons.mp hm with e | hm
          · exact hIC e
          · rcases List.mem_append.mp hm with hm | hm
            · exact hIO hm
            · exact hIk.2 hm)
      refine LEnd.intro Fe N2 (rest I led2) hI2 (fun p hp => (rest_in hp).1) (fun p hp => (rest_in hp).2) ⟨ns2, bs2, td2, bv1, kb1, _, _, _, _, _, _, _, _, _, (by (try unfold lawM); funext y; simp only [← ovr_set_at]; rfl), S3, M2.bare, Cn2⟩
  clear S Ba Cn
  intro m₁ news₁ h tk JZ F₁ N₁
  (try dsimp only)
  (try k_fold)
  obtain ⟨ns1, bs1, td, bv, kb, p1, p2, p3, p4, p5, p6, p7, p8, p9, rfl, S, _, _⟩ := JZ
  clear F8 N8 hrg
  k_steps
  (refine Stop.out ?_; (rename Fr _ _ _ _ => Ffor); k_dflt (with_unfolding_all refine For_invVF Ffor (by exact rfl) (by exact rfl) ?_))
  k_steps
  refine Stop.out ?_
  rename Fr _ _ _ _ => Ffor
  rename News _ _ _ _ => Nh
  k_dflt (with_unfolding_all refine range1_rows Ffor Nh ?_)
  intro h8 tk8 t8 u8 v8 hrg F8 N8 keep8
  k_steps
  refine Stop.out ?_
  clear Ffor Nh keep8
  refine for_range (n := 6) (fun i m nw => ∃ (ns : List Nd) (bs : List Bn), Ex10 fun p1 p2 p3 p4 p5 p6 p7 p8 p9 p10 => m = (lawM (some (.ref sl)) (some (.ref rx)) (some (.ref hA)) (some (.ref mA)) (some (.ref pA)) (some (.ref bA)) (p1) (p2) (p3) (p4) (p5) (p6) (p7) (p8) (p9) (p10) (none) (none) (none)) ∧ St w nw (s1.heap.objs.size + 1) ns bs rx hA mA pA bA td bv kb) rfl hrg (by decide) (by decide) F8 N8 ?_ ?_ ?_
  · exact ⟨ns1, bs1, _, _, _, _, _, _, _, _, _, none, rfl, S⟩
  · clear S
    intro i t m₁ news₁ h tk I ito hin JZ hne F₁ N₁
    (try dsimp only)
    (try k_fold)
    obtain ⟨ns, bs, p1, p2, p3, p4, p5, p6, p7, p8, p9, p10, rfl, S⟩ := JZ
    clear F8 N8 hrg
    k_steps
    refine Stop.out ?_
    k_dflt (refine spec_number w _ _ _ _ sl vs is hints his _ _ (by omega) (by omega) _ _ _ _ _ _ _ _ _ _ _ _ _ _ _ _ _ (by k_asm) (by k_asm) (by k_asm) (by k_asm) (by k_asm) (by first | exact rfl | assumption) (by ktr_room) (by ktr_units) hsl ?_)
    rintro _ _ h2 tk2 F2 N2 rfl ⟨n, tn, rfl⟩
    clear F₁ N₁
    have hbk := S.own.bk
    have hbks := S.own.bks
    have hbl := hbks.length
    rw [List.length_map, Array.length_toList] at hbl
    have hbn : bs.length = ns.length := by have := congrArg List.length S.same; simpa using this.symm
    have hbp : 0 < bs.length := by obtain ⟨rt, hrt, _⟩ := S.root; rw [hbn]; exact List.length_pos_of_mem hrt
    have hb60 : bs.length ≤ 60 := by rw [hbn]; exact S.few
    have hbv0 : (bv.size : Int) ≠ 0 := by omega
    k_steps
    refine Stop.out ?_
    rename News _ _ _ _ => Nt
    k_dflt (refine call_len_list (isList_of Nt (.tail _ hbk)) (by omega) ?_)
    k_steps
    refine Stop.out ?_
    k_dflt (refine list_itemS Nt (.tail _ hbk) hbks (fm _ _ (by omega)).1 (by rw [List.length_map]; have := (fm (n.fmod 12) (bv.size : Int) (by omega)).2; omega) (by rw [List.length_map]; omega) ?_ (by with_unfolding_all rfl))
    intro hp th hph
    obtain ⟨b, hb, rfl⟩ := book_at hph
    clear hph
    k_steps
    refine Stop.out ?_
    rename News _ _ _ _ => Nt
    have hk40 := (fm (n.fdiv 12) 4 (by decide)).1
    have hk44 := (fm (n.fdiv 12) 4 (by decide)).2
    k_dflt (refine list_itemS (R := [Str.ofString "x", Str.ofString "a", Str.ofString "c:d", Str.ofString ""]) Nt (.head _) (.cons _ _ (.cons _ _ (.cons _ _ (.cons _ _ .nil)))) hk40 (by simp only [List.length_cons, List.length_nil]; omega) (by decide) ?_ (by with_unfolding_all rfl))
    intro last tlast hlast
    have hlm := List.mem_of_getElem? hlast
    clear hlast
    obtain ⟨oc, hoc, hocd⟩ := S.cell
    obtain ⟨⟨ot, D, hot, hotd, hDn, hDa⟩, htdl⟩ := S.tree
    obtain ⟨nb, hnb, hnbp⟩ : ∃ nb ∈ ns, nb.pth = b.pth := by
      have : b.pth ∈ ns.map (·.pth) := by rw [S.same]; exact List.mem_map.mpr ⟨b, hb, rfl⟩
      exact List.mem_map.mp this
    have hbD : nb.pth ∈ D := (hDa _).mpr (has_iff.mpr ⟨nb, hnb, rfl⟩)
    have hval : valueAt (tkv ns D) (nmOf b.pth) = some (.ref nb.x) := by rw [← hnbp, valueAt_tkv S.rep.tree (fun q hq => (hDa q).mp hq) (S.rep.tree.part nb hnb), if_pos hbD, S.rep.tree.xAt hnb]
    have hsome : (valueAt (tkv ns D) (nmOf b.pth)).isSome = true := by rw [hval]; rfl
    obtain ⟨hnx, hndd, _, ⟨⟨ocm, hocm, hicm⟩, hcms⟩, _, _, _⟩ := S.rep.node nb hnb
    obtain ⟨⟨⟨oi, hoi, hii⟩, his2⟩, hint⟩ := S.own.held.inn b hb
    obtain ⟨⟨oh, hoh, hih⟩, hhs⟩ := S.own.held.out
    obtain ⟨Mex, Mpr, Mcm⟩ := S.mat b hb nb hnb hnbp
    have hfour := S.four b hb
    have hcml : nb.cmds.length = b.kv.length := by have := congrArg List.length Mcm.keys; simpa using this
    have hz1 : nb.cmds.length ≤ sizeLine := by rw [sizeLine_eq]; omega
    have hz2 : b.kv.length ≤ sizeLine := by rw [sizeLine_eq]; omega
    have hvh : valueAt (Np.hkv bs) (nmOf b.pth) = some (.ref b.ha) := by have := valueAt_map bs (fun b => .ref b.ha) (nmOf b.pth); rw [S.own.self hb] at this; exact this
    have hvh2 : (valueAt (Np.hkv bs) (nmOf b.pth)).isSome = true := by rw [hvh]; rfl
    k_steps
    rename_i dv hdv
    obtain rfl := Option.some.inj (hdv.symm.trans hval)
    refine Stop.out ?_
    k_steps
    (refine Stop.out ?_; k_dflt (refine (spec_cmd w _ _ _ _ last tlast nb.x (Str.ofString "act") _ _ _) _ _ _ _ _ _ _ _ _ _ _ _ _ _ _ _ _ (by k_asm) (by k_asm) (by k_asm) (by k_asm) (by k_asm) (by first | exact rfl | assumption) (by ktr_room) (by ktr_units) ?_); intro r2 led2 h2 tk2 F2 N2 P2)
    obtain ⟨cx, cd, ctr, cts, rfl, rfl, hcl, hcl1, hcl2⟩ := P2
    k_steps
    rename_i dv hdv
    obtain rfl := Option.some.inj (hdv.symm.trans hval)
    refine Stop.out ?_
    k_steps
    rename_i _ ocm2 _ Ns hocm2
    refine Stop.out ?_
    have hSa := S.adr
    simp only [List.nodup_cons, List.mem_cons, List.mem_append, not_or] at hSa
    obtain ⟨⟨htC, htO, htN⟩, ⟨hCO, hCN⟩, hSd⟩ := hSa
    have hdis := (List.nodup_append.mp hSd).2.2
    have hcmm : nb.cm ∈ ns.flatMap Nd.addrs := List.mem_flatMap.mpr ⟨nb, hnb, by first | exact Nd.mx _ | exact Nd.md _ | exact Nd.mch _ | exact Nd.mcm _ | exact Nd.mvr _ | exact Nd.mex _ | exact Nd.mpa _⟩
    have hhaO : b.ha ∈ oad hA mA pA bA bs := (oad_line hb).1
    have hhacm : b.ha ≠ nb.cm := fun e => hdis _ hhaO _ hcmm e
    have hhAcm : hA ≠ nb.cm := fun e => hdis hA (by unfold oad; simp) _ hcmm e
    obtain ⟨L5, ta5, tdd5, Ns5, hcl5, k5⟩ : ∃ (L5 : Led) (ta5 tdd5 : Tok), News _ _ _ (setL nb.cm ocm2 ((ctr, PySem.W.listOf #[] 0) :: (cx, instObj 53 cd) :: (cd, dictOf (cmdEs w last tlast nb.x (Str.ofString "act") ta5 (100 + (0 + (i : Int))) tdd5 ctr cts) 9) :: L5)) ∧ (∀ p ∈ L5, p.1 < cd) ∧ ∀ p ∈ (I, ito) :: news₁, p ∈ L5 := ⟨_, _, _, Ns, hcl, fun p hp => .tail _ hp⟩
    clear Ns hcl
    obtain ⟨la, hla⟩ : ∃ la, la = setL nb.cm ocm2 ((ctr, PySem.W.listOf #[] 0) :: (cx, instObj 53 cd) :: (cd, dictOf (cmdEs w last tlast nb.x (Str.ofString "act") ta5 (100 + (0 + (i : Int))) tdd5 ctr cts) 9) :: L5) := ⟨_, rfl⟩
    rw [← hla] at Ns5
    have k5n : ∀ p ∈ news₁, p ∈ L5 := fun p hp => k5 p (.tail _ hp)
    have kla : ∀ p ∈ L5, p.1 ≠ nb.cm → p ∈ la := fun p hp hn => by rw [hla]; exact setL_ne (.tail _ (.tail _ (.tail _ hp))) hn
    have lcm : @LT.lt Nat _ nb.cm cd := hcl5 _ (k5n _ hocm)
    have elcm : (nb.cm, ocm2) ∈ la := by rw [hla]; exact setL_self (.tail _ (.tail _ (.tail _ (k5n _ hocm))))
    have ela1 : (ctr, PySem.W.listOf #[] 0) ∈ la := by rw [hla]; exact setL_ne (.head _) (Nat.ne_of_lt (Nat.lt_trans lcm (Nat.lt_trans hcl1 hcl2))).symm
    have ela2 : (cx, instObj 53 cd) ∈ la := by rw [hla]; exact setL_ne (.tail _ (.head _)) (Nat.ne_of_lt (Nat.lt_trans lcm hcl1)).symm
    have ela3 : (cd, dictOf (cmdEs w last tlast nb.x (Str.ofString "act") ta5 (100 + (0 + (i : Int))) tdd5 ctr cts) 9) ∈ la := by rw [hla]; exact setL_ne (.tail _ (.tail _ (.head _))) (Nat.ne_of_lt lcm).symm
    clear hla
    have hoi3 := kla _ (k5n _ hoi) hhacm
    have hoh3 := kla _ (k5n _ hoh) hhAcm
    k_steps
    rename_i dv hdv
    obtain rfl := Option.some.inj (hdv.symm.trans hvh)
    refine Stop.out ?_
    k_steps
    rename_i _ oi2 Fi2 Ni2 hoi2
    refine Stop.out ?_
    obtain ⟨lb, hlb⟩ : ∃ lb, lb = setL b.ha oi2 la := ⟨_, rfl⟩
    rw [← hlb] at Ni2
    have klb : ∀ p ∈ la, p.1 ≠ b.ha → p ∈ lb := fun p hp hn => by rw [hlb]; exact setL_ne hp hn
    have elb : (b.ha, oi2) ∈ lb := by rw [hlb]; exact setL_self hoi3
    clear hlb
    have ltI : @LT.lt Nat _ I cd := hcl5 _ (k5 _ (.head _))
    have lha : @LT.lt Nat _ b.ha cd := hcl5 _ (k5n _ hoi)
    have lcx : @LT.lt Nat _ cd ctr := Nat.lt_trans hcl1 hcl2
    have zy : ∀ {a b : Nat}, b < a → (a : Addr) ≠ b := fun h => (Nat.ne_of_lt h).symm
    have hfr : ∀ a : Addr, @LE.le Nat _ cd a → a ∉ adrs td (s1.heap.objs.size + 1) hA mA pA bA bs ns := fun a h hm => by
      obtain ⟨o, ho⟩ := S.mem a hm
      exact absurd (hcl5 _ (k5n _ ho)) (Nat.not_lt.mpr h)
    have hIcm : I ≠ nb.cm := fun e => hne _ hocm e.symm
    have hIha : I ≠ b.ha := fun e => hne _ hoi e.symm
    have S2 := S.cmd (led' := rest I lb) hnb hb hnbp hlm (mem_rest (klb _ elcm hhacm.symm) hIcm.symm) hocm2 (mem_rest elb hIha.symm) hoi2
      ⟨⟨cd, ctr, tlast, ta5, tdd5, cts, 0, aside_in.mpr ⟨mem_rest (klb _ ela2 (zy (Nat.lt_trans lha hcl1))) (zy (Nat.lt_trans ltI hcl1)), hfr _ (Nat.le_of_lt hcl1)⟩, aside_in.mpr ⟨mem_rest (klb _ ela3 (zy lha)) (zy ltI), hfr _ (Nat.le_refl _)⟩, aside_in.mpr ⟨mem_rest (klb _ ela1 (zy (Nat.lt_trans lha lcx))) (zy (Nat.lt_trans ltI lcx)), hfr _ (Nat.le_of_lt lcx)⟩⟩⟩
      (fun p hp n1 n2 => mem_rest (klb _ (kla _ (k5n _ hp) n1) n2) (hne p hp))
    have hIlb : (I, ito) ∈ lb := klb _ (kla _ (k5 _ (.head _)) hIcm) hIha
    k_steps
    rename Fr _ _ _ _ => Fe
    rename News _ _ _ _ => Nw
    exact LEnd.intro Fe Nw (rest I lb) hIlb (fun p hp => (rest_in hp).1) (fun p hp => (rest_in hp).2) ⟨_, _, _, _, _, _, _, _, _, _, _, _, (by (try unfold lawM); funext y; simp only [← ovr_set_at]; rfl), S2⟩
  clear S
  intro m₁ news₁ h tk JZ F₁ N₁
  (try dsimp only)
  (try k_fold)
  obtain ⟨ns2, bs2, p1, p2, p3, p4, p5, p6, p7, p8, p9, p10, rfl, S⟩ := JZ
  clear F8 N8 hrg
  k_steps
  (refine Stop.out ?_; (rename Fr _ _ _ _ => Ffor); k_dflt (with_unfolding_all refine For_invVF Ffor (by exact rfl) (by exact rfl) ?_))
  k_steps
  refine Stop.out ?_
  rename Fr _ _ _ _ => Ffor
  rename News _ _ _ _ => Nh
  k_dflt (with_unfolding_all refine range1_rows Ffor Nh ?_)
  intro h8 tk8 t8 u8 v8 hrg F8 N8 keep8
  k_steps
  refine Stop.out ?_
  clear Ffor Nh keep8
  refine for_range (n := 3) (fun i m nw => ∃ (ns : List Nd) (bs : List Bn), Ex11 fun p1 p2 p3 p4 p5 p6 p7 p8 p9 p10 p11 => m = (lawM (some (.ref sl)) (some (.ref rx)) (some (.ref hA)) (some (.ref mA)) (some (.ref pA)) (some (.ref bA)) (p1) (p2) (p3) (p4) (p5) (p6) (p7) (p8) (p9) (p10) (p11) (none) (none)) ∧ St w nw (s1.heap.objs.size + 1) ns bs rx hA mA pA bA td bv kb) rfl hrg (by decide) (by decide) F8 N8 ?_ ?_ ?_
  · exact ⟨ns2, bs2, _, _, _, _, _, _, _, _, _, _, none, rfl, S⟩
  · clear S
    intro i t m₁ news₁ h tk I ito hin JZ hne F₁ N₁
    (try dsimp only)
    (try k_fold)
    obtain ⟨ns, bs, p1, p2, p3, p4, p5, p6, p7, p8, p9, p10, p11, rfl, S⟩ := JZ
    clear F8 N8 hrg
    k_steps
    refine Stop.out ?_
    k_dflt (refine spec_number w _ _ _ _ sl vs is hints his _ _ (by omega) (by omega) _ _ _ _ _ _ _ _ _ _ _ _ _ _ _ _ _ (by k_asm) (by k_asm) (by k_asm) (by k_asm) (by k_asm) (by first | exact rfl | assumption) (by ktr_room) (by ktr_units) hsl ?_)
    rintro _ _ h2 tk2 F2 N2 rfl ⟨n, tn, rfl⟩
    clear F₁ N₁
    have hbk := S.own.bk
    have hbks := S.own.bks
    have hbl := hbks.length
    rw [List.length_map, Array.length_toList] at hbl
    have hbn : bs.length = ns.length := by have := congrArg List.length S.same; simpa using this.symm
    have hbp : 0 < bs.length := by obtain ⟨rt, hrt, _⟩ := S.root; rw [hbn]; exact List.length_pos_of_mem hrt
    have hb60 : bs.length ≤ 60 := by rw [hbn]; exact S.few
    have hbv0 : (bv.size : Int) ≠ 0 := by omega
    k_steps
    refine Stop.out ?_
    rename News _ _ _ _ => Nt
    k_dflt (refine call_len_list (isList_of Nt (.tail _ hbk)) (by omega) ?_)
    k_steps
    refine Stop.out ?_
    k_dflt (refine list_itemS Nt (.tail _ hbk) hbks (fm _ _ (by omega)).1 (by rw [List.length_map]; have := (fm (n.fmod 12) (bv.size : Int) (by omega)).2; omega) (by rw [List.length_map]; omega) ?_ (by with_unfolding_all rfl))
    intro hp th hph
    obtain ⟨b, hb, rfl⟩ := book_at hph
    clear hph
    k_steps
    refine Stop.out ?_
    rename News _ _ _ _ => Nt
    k_dflt (refine call_len_list (isList_of Nt (.tail _ hbk)) (by omega) ?_)
    k_steps
    refine Stop.out ?_
    k_dflt (refine list_itemS Nt (.tail _ hbk) hbks (fm _ _ (by omega)).1 (by rw [List.length_map]; have := (fm (((n.fdiv 36).fmod 12)) (bv.size : Int) (by omega)).2; omega) (by rw [List.length_map]; omega) ?_ (by with_unfolding_all rfl))
    intro hp2 th2 hph
    obtain ⟨b2, hb2, rfl⟩ := book_at hph
    clear hph
    k_steps
    refine Stop.out ?_
    rename News _ _ _ _ => Nt
    k_dflt (refine call_len_list (isList_of Nt (.tail _ hbk)) (by omega) ?_)
    k_steps
    refine Stop.out ?_
    k_dflt (refine list_itemS Nt (.tail _ hbk) hbks (fm _ _ (by omega)).1 (by rw [List.length_map]; have := (fm (((n.fdiv 432).fmod 12)) (bv.size : Int) (by omega)).2; omega) (by rw [List.length_map]; omega) ?_ (by with_unfolding_all rfl))
    intro hp3 th3 hph
    obtain ⟨b3, hb3, rfl⟩ := book_at hph
    clear hph
    k_steps
    refine Stop.out ?_
    rename Fr _ _ _ _ => Fa
    rename News _ _ _ _ => Na
    rename_i dr _ ldr _ _
    have hk30 := (fm (n.fdiv 12) 3 (by decide)).1
    have hk33 := (fm (n.fdiv 12) 3 (by decide)).2
    obtain ⟨e3, he3⟩ : ∃ e3, e3 = (n.fdiv 12).fmod 3 := ⟨_, rfl⟩
    k_dflt (refine slice_upto Fa Na (.head _) (by rw [sizeLine_eq]; simp) hk30 ?_ (by with_unfolding_all rfl) (by kmk_pure))
    intro slA h4 F4 N4 l4
    clear Fa Na
    rw [← he3] at N4 hk33
    clear he3 hk30 ldr
    obtain ⟨itA, hitA⟩ : ∃ itA, itA = (List.take e3.toNat #[Value.str (nmOf b2.pth) th2, Value.str (nmOf b3.pth) th3].toList).toArray := ⟨_, rfl⟩
    rw [← hitA] at N4
    obtain ⟨qs, hqs⟩ : ∃ qs, qs = [b2.pth, b3.pth].take e3.toNat := ⟨_, rfl⟩
    have hsA : StrsAre itA.toList (qs.map nmOf) := by
      rw [hitA, hqs, List.map_take]
      have h0 : StrsAre [Value.str (nmOf b2.pth) th2, Value.str (nmOf b3.pth) th3] [nmOf b2.pth, nmOf b3.pth] := .cons _ _ (.cons _ _ .nil)
      exact h0.take' e3.toNat
    have hqs2 : qs.length ≤ 2 := by rw [hqs, List.length_take]; exact Nat.min_le_right _ _
    have hqsb : ∀ q ∈ qs, ∃ c ∈ bs, c.pth = q := by
      intro q hq
      rw [hqs] at hq
      have hq := List.mem_of_mem_take hq
      simp only [List.mem_cons, List.not_mem_nil, or_false] at hq
      rcases hq with e | e
      · exact ⟨b2, hb2, e.symm⟩
      · exact ⟨b3, hb3, e.symm⟩
    clear hitA hqs hk33
    obtain ⟨oc, hoc, hocd⟩ := S.cell
    obtain ⟨⟨ot, D, hot, hotd, hDn, hDa⟩, htdl⟩ := S.tree
    have hvalD : ∀ nd ∈ ns, valueAt (tkv ns D) (nmOf nd.pth) = some (.ref nd.x) := fun nd hnd => by rw [valueAt_tkv S.rep.tree (fun q hq => (hDa q).mp hq) (S.rep.tree.part nd hnd), if_pos ((hDa _).mpr (has_iff.mpr ⟨nd, hnd, rfl⟩)), S.rep.tree.xAt hnd]
    obtain ⟨nb, hnb, hnbp⟩ : ∃ nb ∈ ns, nb.pth = b.pth := by
      have : b.pth ∈ ns.map (·.pth) := by rw [S.same]; exact List.mem_map.mpr ⟨b, hb, rfl⟩
      exact List.mem_map.mp this
    have hval : valueAt (tkv ns D) (nmOf b.pth) = some (.ref nb.x) := by rw [← hnbp]; exact hvalD nb hnb
    have hsome : (valueAt (tkv ns D) (nmOf b.pth)).isSome = true := by rw [hval]; rfl
    obtain ⟨⟨oq, hoq, hiq⟩, hqqs⟩ := S.own.paths.out
    have hz3 : (Np.qkv bs).length ≤ sizeLine := by unfold qkv; rw [sizeLine_eq, List.length_map]; omega
    have hSa := S.adr
    simp only [List.nodup_cons, List.mem_cons, List.mem_append, not_or] at hSa
    obtain ⟨⟨htC, htO, htN⟩, ⟨hCO, hCN⟩, hSd⟩ := hSa
    have hdis := (List.nodup_append.mp hSd).2.2
    have hpAO : pA ∈ oad hA mA pA bA bs := by unfold oad; simp
    k_steps
    rename_i _ oq2 F5 N5 hoq2
    refine Stop.out ?_
    obtain ⟨L5, N6, l5, k5⟩ : ∃ L5 : Led, News _ _ _ (setL pA oq2 ((slA, PySem.W.listOf itA 0) :: L5)) ∧ (∀ p ∈ L5, p.1 < slA) ∧ ∀ p ∈ (I, ito) :: news₁, p ∈ L5 := ⟨_, N5, l4, fun p hp => .tail _ hp⟩
    clear N5 l4
    have k5n : ∀ p ∈ news₁, p ∈ L5 := fun p hp => k5 p (.tail _ hp)
    obtain ⟨la, hla⟩ : ∃ la, la = setL pA oq2 ((slA, PySem.W.listOf itA 0) :: L5) := ⟨_, rfl⟩
    rw [← hla] at N6
    have lpA : @LT.lt Nat _ pA slA := l5 _ (k5n _ hoq)
    have epA : (pA, oq2) ∈ la := by rw [hla]; exact setL_self (.tail _ (k5n _ hoq))
    have esA : (slA, PySem.W.listOf itA 0) ∈ la := by rw [hla]; exact setL_ne (.head _) (Nat.ne_of_lt lpA).symm
    have kla : ∀ p ∈ L5, p.1 ≠ pA → p ∈ la := fun p hp hn => by rw [hla]; exact setL_ne (.tail _ hp) hn
    clear hla
    have hoc3 := kla _ (k5n _ hoc) (fun e => hCO (by rw [show (s1.heap.objs.size + 1) = pA from e]; exact hpAO))
    have hot3 := kla _ (k5n _ hot) (fun e => htO (by rw [show td = pA from e]; exact hpAO))
    have hvq : valueAt (stored (Np.qkv bs) (nmOf b.pth) (.ref slA)) (nmOf b.pth) = some (.ref slA) := by rw [valueAt_stored', if_pos rfl]
    have hvq2 : (valueAt (stored (Np.qkv bs) (nmOf b.pth) (.ref slA)) (nmOf b.pth)).isSome = true := by rw [hvq]; rfl
    k_steps
    refine Stop.out ?_
    k_dflt (refine LCg.ListComp_U (F₀ := by k_asm) (by with_unfolding_all rfl) (by decide) (by rfl) (by decide) (by rfl) ?_)
    k_steps
    rename_i dv hdv
    obtain rfl := Option.some.inj (hdv.symm.trans hvq)
    refine Stop.out ?_
    k_steps
    refine Stop.out ?_
    rename Fr _ _ _ _ => Fc
    have hlA := hsA.length
    rw [List.length_map, Array.length_toList] at hlA
    k_dflt (refine LCg.CompSrc.ledger rfl Fc N6 esA (by rw [sizeLine_eq]; omega) ?_)
    intro g'
    refine comp_ind (fun i ys nw => nw = la ∧ RefsAre ns ys (qs.take i)) ⟨rfl, .nil⟩ ?_ ?_
    · rintro i ys nw hi ⟨rfl, hys⟩ v I2 oI C2 oC2 D2 m₂ h tk E' hP hC' hx' F' N' off ne
      (try dsimp only)
      (try k_fold)
      obtain ⟨nq, tq, rfl, hnq⟩ := hsA.item i v (by simpa using hP)
      rw [List.getElem?_map] at hnq
      obtain ⟨q, hqj, rfl⟩ : ∃ q, qs[i]? = some q ∧ nmOf q = nq := by
        cases hq : qs[i]? with
        | none => rw [hq] at hnq; cases hnq
        | some q => rw [hq] at hnq; exact ⟨q, rfl, Option.some.inj hnq⟩
      obtain ⟨c0, hc0, rfl⟩ := hqsb q (List.mem_of_getElem? hqj)
      obtain ⟨c, hc, hcp⟩ : ∃ c ∈ ns, c.pth = c0.pth := by
        have : c0.pth ∈ ns.map (·.pth) := by rw [S.same]; exact List.mem_map.mpr ⟨c0, hc0, rfl⟩
        exact List.mem_map.mp this
      have hvc : valueAt (tkv ns D) (nmOf c0.pth) = some (.ref c.x) := by rw [← hcp]; exact hvalD c hc
      have hvc2 : (valueAt (tkv ns D) (nmOf c0.pth)).isSome = true := by rw [hvc]; rfl
      k_steps
      rename_i dv hdv
      obtain rfl := Option.some.inj (hdv.symm.trans hvc)
      refine Stop.out ?_
      k_steps
      rename Fr _ _ _ _ => Fe
      rename News _ _ _ _ => Nw
      refine LCg.CompEnd.intro Fe Nw nw (fun q hq => by rcases List.mem_cons.mp hq with rfl | hq; exact .head _; rcases List.mem_cons.mp hq with rfl | hq; exact .tail _ (.head _); rcases List.mem_cons.mp hq with rfl | hq; exact .tail _ (.tail _ (.head _)); exact .tail _ (.tail _ (.tail _ hq))) off (.inr ⟨_, esA, rfl, _, rfl⟩) ⟨rfl, ?_⟩
      rw [List.take_add_one, hqj]
      refine hys.append ?_
      rw [← hcp]
      exact .cons hc .nil
    · rintro ys nw ⟨rfl, hys⟩
      rw [List.take_of_length_le (by omega)] at hys
      obtain ⟨hnx, hndd, _⟩ := S.rep.node nb hnb
      have hdm : nb.d ∈ ns.flatMap Nd.addrs := List.mem_flatMap.mpr ⟨nb, hnb, by first | exact Nd.mx _ | exact Nd.md _ | exact Nd.mch _ | exact Nd.mcm _ | exact Nd.mvr _ | exact Nd.mex _ | exact Nd.mpa _⟩
      have hxm : nb.x ∈ ns.flatMap Nd.addrs := List.mem_flatMap.mpr ⟨nb, hnb, by first | exact Nd.mx _ | exact Nd.md _ | exact Nd.mch _ | exact Nd.mcm _ | exact Nd.mvr _ | exact Nd.mex _ | exact Nd.mpa _⟩
      have hnx3 := kla _ (k5n _ hnx) (fun e => hdis _ hpAO _ hxm e.symm)
      have hndd3 := kla _ (k5n _ hndd) (fun e => hdis _ hpAO _ hdm e.symm)
      k_steps
      rename_i plA h7 tk7 F7 N7 o17 dv hdv
      obtain rfl := Option.some.inj (hdv.symm.trans hval)
      refine Stop.out ?_
      rename Frag.In _ _ => hKX
      k_dflt (refine attr_set (es := nsEs w nb) (n := 8) (es' := nsEs w { nb with pa := plA, path := ys.toArray, kp := ys.length }) (n' := 8) F7 hKX N7 (InstAt.of_news N7 (.tail _ hnx3) (.tail _ hndd3)) rfl (.tail _ hndd3) (by k_is) (by k_is) (by k_is) (by k_is) (by rfl) (by rfl) (Nat.le_of_ble_eq_true rfl) ?_)
      intro h8 F8 N8
      have hoff := off1_mem o17
      have hIpA : I ≠ pA := fun e => hne _ hoq e.symm
      have hInd : I ≠ nb.d := fun e => hne _ hndd e.symm
      have hInw := kla _ (k5 _ (.head _)) hIpA
      have hpAd : pA ≠ nb.d := fun e => hdis _ hpAO _ hdm e
      have lnd : @LT.lt Nat _ nb.d slA := l5 _ (k5n _ hndd)
      have lI : @LT.lt Nat _ I slA := l5 _ (k5 _ (.head _))
      have S2 := S.path (led' := rest I (setL nb.d (dictOf (nsEs w { nb with pa := plA, path := ys.toArray, kp := ys.length }) 8) ((plA, LCg.lst ys) :: nw))) hnb hb hnbp (sl := slA) (pl := plA) (qs := qs) (pv := itA) (ys := ys.toArray) (kq := 0) (kp := ys.length) (oq' := oq2)
        (mem_rest (setL_self (.tail _ hndd3)) hInd.symm) (mem_rest (setL_ne (.head _) (fun e => hoff _ hndd3 e.symm)) (fun e => hoff _ hInw e.symm)) (by simpa using hys)
        (mem_rest (setL_ne (.tail _ epA) hpAd) hIpA.symm) hoq2 (mem_rest (setL_ne (.tail _ esA) (Nat.ne_of_lt lnd).symm) (Nat.ne_of_lt lI).symm) hsA (by omega)
        (fun p hp n1 n2 => mem_rest (setL_ne (.tail _ (kla _ (k5n _ hp) n2)) n1) (hne p hp)) (fun p hp => l5 _ (k5n _ hp))
        (fun p hp => by
          by_cases e : p.1 = pA
          · rw [e]; exact hoff _ epA
          · exact hoff _ (kla _ (k5n _ hp) e)) (hoff _ esA)
      clear F7 N7
      k_steps
      rename Fr _ _ _ _ => Fe
      rename News _ _ _ _ => Nw
      exact LEnd.intro Fe Nw (rest I (setL nb.d (dictOf (nsEs w { nb with pa := plA, path := ys.toArray, kp := ys.length }) 8) ((plA, LCg.lst ys) :: nw))) (setL_ne (.tail _ hInw) hInd) (fun p hp => (rest_in hp).1) (fun p hp => (rest_in hp).2) ⟨_, _, _, _, _, _, _, _, _, _, _, _, _, (by (try unfold lawM); funext y; simp only [← ovr_set_at]; rfl), S2⟩
  clear S
  intro m₁ led4 h tk JZ F₁ N₁
  (try dsimp only)
  (try k_fold)
  obtain ⟨ns, bs, p1, p2, p3, p4, p5, p6, p7, p8, p9, p10, p11, rfl, S⟩ := JZ
  clear F8 N8 hrg
  k_steps
  (refine Stop.out ?_; (rename Fr _ _ _ _ => Ffor); k_dflt (with_unfolding_all refine For_invVF Ffor (by exact rfl) (by exact rfl) ?_))
  k_steps
  refine Stop.out ?_
  rename Fr _ _ _ _ => Ffor
  rename News _ _ _ _ => Nh
  k_dflt (with_unfolding_all refine range1_rows Ffor Nh ?_)
  intro h8 tk8 t8 u8 v8 hrg F8 N8 keep8
  k_steps
  refine Stop.out ?_
  clear Ffor Nh keep8
  have hbk := S.own.bk
  have hbks := S.own.bks
  have hbl := hbks.length
  rw [List.length_map, Array.length_toList] at hbl
  have hbn : bs.length = ns.length := by have := congrArg List.length S.same; simpa using this.symm
  have hbp : 0 < bs.length := by obtain ⟨rt, hrt, _⟩ := S.root; rw [hbn]; exact List.length_pos_of_mem hrt
  have hb60 : bs.length ≤ 60 := by rw [hbn]; exact S.few
  have hbv0 : (bv.size : Int) ≠ 0 := by omega
  obtain ⟨oc, hoc, hocd⟩ := S.cell
  obtain ⟨⟨ot, D, hot, hotd, hDn, hDa⟩, htdl⟩ := S.tree
  obtain ⟨rt, hrt, hrt0, hrx⟩ := S.root
  obtain ⟨⟨oh, hoh, hih⟩, hhs⟩ := S.own.held.out
  have Bk := S.book
  refine for_range (n := 12) (fun i m nw => Ex13 fun p1 p2 p3 p4 p5 p6 p7 p8 p9 p10 p11 p12 p13 => m = (lawM (some (.ref sl)) (some (.ref rx)) (some (.ref hA)) (some (.ref mA)) (some (.ref pA)) (some (.ref bA)) (p1) (p2) (p3) (p4) (p5) (p6) (p7) (p8) (p9) (p10) (p11) (p12) (p13)) ∧ nw = led4) rfl hrg (by decide) (by decide) F8 N8 ?_ ?_ ?_
  · exact ⟨_, _, _, _, _, _, _, _, _, _, _, none, none, rfl, rfl⟩
  · intro i t m₁ news₁ h tk I ito hin JZ hne F₁ N₁
    (try dsimp only)
    (try k_fold)
    obtain ⟨p1, p2, p3, p4, p5, p6, p7, p8, p9, p10, p11, p12, p13, rfl, rfl⟩ := JZ
    clear F8 N8 hrg
    have hys : YesStop := trivial
    k_steps
    refine Stop.out ?_
    k_dflt (refine spec_number w _ _ _ _ sl vs is hints his _ _ (by omega) (by omega) _ _ _ _ _ _ _ _ _ _ _ _ _ _ _ _ _ (by k_asm) (by k_asm) (by k_asm) (by k_asm) (by k_asm) (by first | exact rfl | assumption) (by ktr_room) (by ktr_units) hsl ?_)
    rintro _ _ h2 tk2 F2 N2 rfl ⟨n, tn, rfl⟩
    clear F₁ N₁
    k_steps
    refine Stop.out ?_
    rename News _ _ _ _ => Nt
    k_dflt (refine call_len_list (isList_of Nt (.tail _ hbk)) (by omega) ?_)
    k_steps
    refine Stop.out ?_
    k_dflt (refine list_itemS Nt (.tail _ hbk) hbks (fm _ _ (by omega)).1 (by rw [List.length_map]; have := (fm (n.fmod 12) (bv.size : Int) (by omega)).2; omega) (by rw [List.length_map]; omega) ?_ (by with_unfolding_all rfl))
    intro hp th hph
    obtain ⟨b, hb, rfl⟩ := book_at hph
    clear hph
    obtain ⟨nb, hnb, hnbp⟩ : ∃ nb ∈ ns, nb.pth = b.pth := by
      have : b.pth ∈ ns.map (·.pth) := by rw [S.same]; exact List.mem_map.mpr ⟨b, hb, rfl⟩
      exact List.mem_map.mp this
    have hbdeep : b.pth.length ≤ 50 := by rw [← hnbp]; exact S.rep.tree.deep nb hnb
    have hbmenu := S.own.menu b hb
    have hblen : (nmOf b.pth).length ≤ 1000 := by have := nmOf_len b.pth hbmenu; omega
    k_steps
    (refine Stop.out ?_; k_dflt (refine (spec_name w _ _ _ _ _ _) _ _ _ _ _ _ _ _ _ _ _ _ _ _ _ _ _ (by k_asm) (by k_asm) (by k_asm) (by k_asm) (by k_asm) (by first | exact rfl | assumption) (by ktr_room) (by ktr_units) ?_); intro r2 led2 h2 tk2 F2 N2 P2)
    obtain ⟨tu, l, us, ku, txt, tt, ab, ps, rfl, rfl, hus, hnm, hlt1, hltl⟩ := P2
    have NF := hnm.facts
    have hpsz : ps.length ≤ 100 := by have := NF.four; omega
    have hpsl : ∀ x ∈ ps, x.length ≤ 100 := fun x hx => by
      rcases NF.all x hx with h | h
      · exact menu_len h
      · rw [h]; decide
    obtain ⟨q0, hq0⟩ : ∃ q0, q0 = (if ab = true then [] else b.pth) := ⟨_, rfl⟩
    have hst : (if ab = true then Str.ofString "::" else nmOf b.pth) = nmOf q0 := by rw [hq0]; cases ab <;> rfl
    have hq0m : ∀ p ∈ q0, p ∈ menu := by rw [hq0]; cases ab; exact hbmenu; exact fun p hp => nomatch hp
    have hq0has : has ns q0 = true := by
      rw [hq0]; cases ab
      · exact has_iff.mpr ⟨nb, hnb, hnbp⟩
      · exact has_iff.mpr ⟨rt, hrt, hrt0⟩
    have hval : valueAt (tkv ns D) (nmOf b.pth) = some (.ref nb.x) := by rw [← hnbp, valueAt_tkv S.rep.tree (fun q hq => (hDa q).mp hq) (S.rep.tree.part nb hnb), if_pos ((hDa _).mpr (has_iff.mpr ⟨nb, hnb, rfl⟩)), S.rep.tree.xAt hnb]
    have hsome : (valueAt (tkv ns D) (nmOf b.pth)).isSome = true := by rw [hval]; rfl
    obtain ⟨n₀, hn50, hrun⟩ := NF.run
    have hq0e : (if (Txt.find txt (Str.ofString "::") == 0) = true then [] else nb.pth) = q0 := by rw [NF.abs, hnbp, hq0]
    have h30 := NF.len
    k_steps
    rename_i dv hdv
    obtain rfl := Option.some.inj (hdv.symm.trans hval)
    refine Stop.out ?_
    have hl1000 : txt.length ≤ 1000 := Nat.le_trans h30 (by decide)
    have sf := fun mean mg mb news (R : Rep w news ns) => spec_find_space w mean mg mb news ns R rt nb hrt hrt0 hnb txt tt hl1000 ps n₀ hrun hn50
    rw [hrx, hq0e, goS_eq S.rep.tree ps q0 hq0has] at sf
    k_steps
    (refine Stop.out ?_; k_dflt (refine (sf _ _ _ _ (S.rep.mono fun p hp => .tail _ (.tail _ (.tail _ hp)))) _ _ _ _ _ _ _ _ _ _ _ _ _ _ _ _ _ (by k_asm) (by k_asm) (by k_asm) (by k_asm) (by k_asm) (by first | exact rfl | assumption) (by ktr_room) (by ktr_units) ?_); intro r2 led2 h2 tk2 F2 N2 P2)
    clear sf
    obtain ⟨rfl, hfa⟩ := P2
    k_steps
    (refine Stop.out ?_; k_dflt (refine (spec_steps w _ _ _ _ (nmOf b.pth) _ ab l us ps ku (by omega) (.tail _ (.head _)) hus hpsz hpsl) _ _ _ _ _ _ _ _ _ _ _ _ _ _ _ _ _ (by k_asm) (by k_asm) (by k_asm) (by k_asm) (by k_asm) (by first | exact rfl | assumption) (by ktr_room) (by ktr_units) ?_); intro r2 led2 h2 tk2 F2 N2 P2)
    obtain ⟨ls, uss, ks, rfl, rfl, huss, hlts⟩ := P2
    rw [hst, stepsS_map] at huss
    k_steps
    refine Stop.out ?_
    rename News _ _ _ _ => Na
    k_dflt (refine list_lastS Na (.head _) huss (steps_ne _ _) ?_ (by with_unfolding_all rfl))
    intro t9
    rw [lastS_eq]
    k_steps
    refine Stop.out ?_
    rename Fr _ _ _ _ => Fi
    rename News _ _ _ _ => Ni
    have hg1m := goP_menu hq0m NF.all
    have hg1v : (valueAt (Np.hkv bs) (nmOf (goP q0 ps))).isSome = has ns (goP q0 ps) := by rw [← atNm_has S.rep.tree S.same hg1m]; have := valueAt_map bs (fun b => .ref b.ha) (nmOf (goP q0 ps)); unfold hkv; rw [this, Option.isSome_map]
    k_dflt (refine if_cut Fi Ni ?_ ?_)
    · rename YesStop => hys
      clear hys
      cases hg : has ns (goP q0 ps) with
      | false =>
        rw [hg] at hfa hg1v
        rw [if_neg Bool.false_ne_true] at hfa
        obtain rfl : r2 = .none := hfa
        k_steps
        exact CutEnd.intro (by assumption) (by assumption)
      | true =>
        rw [hg] at hfa hg1v
        rw [if_pos rfl] at hfa
        obtain ⟨nd, hnd, hndp, rfl⟩ := hfa
        obtain ⟨hnx, hndd, _⟩ := S.rep.node nd hnd
        rw [← hndp] at hg1v Fi ⊢
        have hse : (nmOf nd.pth != nmOf nd.pth) = false := by simp
        k_steps
        exact CutEnd.intro (by assumption) (by assumption)
    intro h3 tk3 F3 N3
    clear Fi Ni hg1v hg1m hfa
    replace N3 := news_sub (l' := (l, PySem.W.listOf us ku) :: (I, ito) :: news₁) N3 (fun q hq => .tail _ (.tail _ hq))
    clear huss hlts
    have sh := fun mean mg mb news (R : Rep w news ns) => spec_home_of w mean mg mb news ns R rt nb hrt hrt0 hnb txt tt hl1000 ps n₀ hrun hn50 NF.ne (fun p hp => menu_ne (NF.mid p hp)) (by have := NF.four; omega)
    rw [hrx, hq0e, goS_eq S.rep.tree ps.dropLast q0 hq0has] at sh
    have hlok := last_part NF.ne NF.all
    have hulen := hus.length
    rw [Array.length_toList] at hulen
    have huz : us.size ≤ sizeLine := by rw [sizeLine_eq, hulen]; omega
    have hmidall : ∀ p ∈ ps.dropLast, p ∈ menu ∨ p = Str.ofString "" := fun p hp => .inl (NF.mid p hp)
    k_steps
    rename_i dv hdv
    obtain rfl := Option.some.inj (hdv.symm.trans hval)
    refine Stop.out ?_
    k_steps
    (refine Stop.out ?_; k_dflt (refine (sh _ _ _ _ (S.rep.mono fun p hp => .tail _ (.tail _ hp))) _ _ _ _ _ _ _ _ _ _ _ _ _ _ _ _ _ (by k_asm) (by k_asm) (by k_asm) (by k_asm) (by k_asm) (by first | exact rfl | assumption) (by ktr_room) (by ktr_units) ?_); intro r2 led2 h2 tk2 F2 N2 P2)
    clear sh
    obtain ⟨t5, v5, k5, ts5, rfl, rfl, hfr5, hfa⟩ := P2
    k_steps
    refine Stop.out ?_
    rename Fr _ _ _ _ => Fa
    rename News _ _ _ _ => Na
    k_dflt (refine slice_butlast Fa Na (.tail _ (.head _)) huz .none (.int _ _) ?_ (by with_unfolding_all rfl) (by kmk_pure))
    intro slB h6 F6 N6 l6
    clear Fa Na
    have hsB : StrsAre (us.toList.take (us.size - 1)).toArray.toList ps.dropLast := by
      have := hus.take' (us.size - 1)
      rw [List.dropLast_eq_take]
      rw [hulen] at this ⊢
      exact this
    have hdl : ps.dropLast.length ≤ 100 := by rw [List.length_dropLast]; omega
    have hdz : ∀ x ∈ ps.dropLast, x.length ≤ 100 := fun x hx => hpsl x (List.dropLast_subset _ hx)
    k_steps
    (refine Stop.out ?_; k_dflt (refine (spec_steps w _ _ _ _ (nmOf b.pth) _ ab slB (us.toList.take (us.size - 1)).toArray ps.dropLast 0 (by omega) (.head _) hsB hdl hdz) _ _ _ _ _ _ _ _ _ _ _ _ _ _ _ _ _ (by k_asm) (by k_asm) (by k_asm) (by k_asm) (by k_asm) (by first | exact rfl | assumption) (by ktr_room) (by ktr_units) ?_); intro r2 led2 h2 tk2 F2 N2 P2)
    obtain ⟨ls, uss, ks, rfl, rfl, huss, hlts⟩ := P2
    rw [hst, stepsS_map] at huss
    k_steps
    refine Stop.out ?_
    rename News _ _ _ _ => Na
    k_dflt (refine list_lastS Na (.head _) huss (steps_ne _ _) ?_ (by with_unfolding_all rfl))
    intro t9
    rw [lastS_eq]
    k_steps
    refine Stop.out ?_
    rename Fr _ _ _ _ => Fi
    rename News _ _ _ _ => Ni
    have hg1m := goP_menu hq0m hmidall
    have hg1v : (valueAt (Np.hkv bs) (nmOf (goP q0 ps.dropLast))).isSome = has ns (goP q0 ps.dropLast) := by rw [← atNm_has S.rep.tree S.same hg1m]; have := valueAt_map bs (fun b => .ref b.ha) (nmOf (goP q0 ps.dropLast)); unfold hkv; rw [this, Option.isSome_map]
    replace Ni := news_sub (l' := (l, PySem.W.listOf us ku) :: (I, ito) :: news₁) Ni (fun q hq => .tail _ (.tail _ (.tail _ hq)))
    k_dflt (refine if_cut Fi Ni ?_ ?_)
    · rename YesStop => hys
      clear hys
      cases hg : has ns (goP q0 ps.dropLast) with
      | false =>
        rw [hg] at hfa hg1v
        rw [if_neg Bool.false_ne_true] at hfa
        obtain rfl : v5 = .none := hfa
        k_steps
        refine Stop.out ?_
        rename News _ _ _ _ => Na
        k_dflt (refine list_lastS Na (.tail _ (.head _)) hus NF.ne ?_ (by with_unfolding_all rfl))
        intro t9
        k_steps
        refine Stop.out ?_
        rename News _ _ _ _ => Na
        k_dflt (refine ne_same (D := .tuple [.none, .str (ps.getLastD (Str.ofString ""))]) Na (.tup (.tail _ (.head _)) (.cons .none (.cons (.str _ _) .nil))) (.tup (.head _) (.cons .none (.cons (.str _ _) .nil))) (shaped_n2 hlok) (by ktr_units) ?_)
        k_steps
        rename News _ _ _ _ => Na
        exact CutEnd.intro (by assumption) (news_sub Na (fun q hq => .tail _ (.tail _ hq)))
      | true =>
        rw [hg] at hfa hg1v
        rw [if_pos rfl] at hfa
        obtain ⟨nd, hnd, hndp, rfl⟩ := hfa
        obtain ⟨hnx, hndd, _⟩ := S.rep.node nd hnd
        rw [← hndp] at hg1v Fi ⊢
        k_steps
        refine Stop.out ?_
        rename News _ _ _ _ => Na
        k_dflt (refine list_lastS Na (.tail _ (.head _)) hus NF.ne ?_ (by with_unfolding_all rfl))
        intro t9
        k_steps
        refine Stop.out ?_
        rename News _ _ _ _ => Na
        k_dflt (refine ne_same (D := .tuple [.str (nmOf nd.pth), .str (ps.getLastD (Str.ofString ""))]) Na (.tup (.tail _ (.head _)) (.cons (.str _ _) (.cons (.str _ _) .nil))) (.tup (.head _) (.cons (.str _ _) (.cons (.str _ _) .nil))) (shaped_s2 (strOk_nmOf (S.rep.tree.part nd hnd)) hlok) (by ktr_units) ?_)
        k_steps
        rename News _ _ _ _ => Na
        exact CutEnd.intro (by assumption) (news_sub Na (fun q hq => .tail _ (.tail _ hq)))
    intro h3 tk3 F3 N3
    clear Fi Ni hg1v hg1m hfa huss hlts hsB l6 hfr5
    obtain ⟨Mex, Mpr, Mcm⟩ := S.mat b hb nb hnb hnbp
    have hself := S.own.self hb
    have hbok := strOk_nmOf hbmenu
    k_steps
    refine Stop.out ?_
    rename Fr _ _ _ _ => Fi
    rename News _ _ _ _ => Ni
    k_dflt (refine if_cut Fi Ni ?_ ?_)
    · rename YesStop => hys
      clear hys
      have hdue : dueOf bs (nmOf b.pth) (ps.getLastD (Str.ofString "")) = (valueAt b.kv (ps.getLastD (Str.ofString ""))).map datOf := by unfold dueOf; rw [hself]; rfl
      k_steps
      rename_i dv hdv
      obtain rfl := Option.some.inj (hdv.symm.trans hval)
      refine Stop.out ?_
      k_steps
      refine Stop.out ?_
      rename News _ _ _ _ => Na
      k_dflt (refine list_lastS Na (.head _) hus NF.ne ?_ (by with_unfolding_all rfl))
      intro t9
      k_steps
      (refine Stop.out ?_; k_dflt (refine (spec_command_in w _ _ _ _ nb ((S.rep.node nb hnb).mono fun p hp _ => .tail _ (.tail _ hp)) (ps.getLastD (Str.ofString "")) _) _ _ _ _ _ _ _ _ _ _ _ _ _ _ _ _ _ (by k_asm) (by k_asm) (by k_asm) (by k_asm) (by k_asm) (by first | exact rfl | assumption) (by ktr_room) (by ktr_units) ?_); intro r2 led2 h2 tk2 F2 N2 P2)
      obtain ⟨rfl, rfl⟩ := P2
      rcases Mcm.at (ps.getLastD (Str.ofString "")) with ⟨e1, e2⟩ | ⟨cx, dat, tdat, e1, e2, hcmd⟩
      · rw [e1, Option.getD_none]
        rw [e2] at hdue
        replace hdue : dueOf bs (nmOf b.pth) (ps.getLastD (Str.ofString "")) = none := hdue
        k_steps
        (refine Stop.out ?_; k_dflt (refine (spec_told_none w _ _ _ _) _ _ _ _ _ _ _ _ _ _ _ _ _ _ _ _ _ (by k_asm) (by k_asm) (by k_asm) (by k_asm) (by k_asm) (by first | exact rfl | assumption) (by ktr_room) (by ktr_units) ?_); intro r2 led2 h2 tk2 F2 N2 P2)
        obtain ⟨rfl, rfl⟩ := P2
        k_steps
        refine Stop.out ?_
        rename News _ _ _ _ => Na
        k_dflt (refine list_lastS Na (.head _) hus NF.ne ?_ (by with_unfolding_all rfl))
        intro t9
        k_steps
        (refine Stop.out ?_; k_dflt (refine (spec_due w _ _ _ _ hA bs (S.own.held.mono fun p hp => .tail _ (.tail _ hp)) (nmOf b.pth) _ (ps.getLastD (Str.ofString "")) _) _ _ _ _ _ _ _ _ _ _ _ _ _ _ _ _ _ (by k_asm) (by k_asm) (by k_asm) (by k_asm) (by k_asm) (by first | exact rfl | assumption) (by ktr_room) (by ktr_units) ?_); intro r2 led2 h2 tk2 F2 N2 P2)
        obtain ⟨hsub, hd⟩ := P2
        rw [hdue] at hd
        obtain rfl : r2 = .none := hd
        k_steps
        rename News _ _ _ _ => Na
        exact CutEnd.intro (by assumption) (news_sub Na hsub)
      · rw [e1, Option.getD_some]
        rw [e2] at hdue
        replace hdue : dueOf bs (nmOf b.pth) (ps.getLastD (Str.ofString "")) = some dat := hdue
        k_steps
        (refine Stop.out ?_; k_dflt (refine (spec_told w _ _ _ _ nb ((S.rep.node nb hnb).mono fun p hp _ => .tail _ (.tail _ hp)) cx (ps.getLastD (Str.ofString "")) dat (hcmd.mono fun p hp => .tail _ (.tail _ (aside_in.mp hp).1))) _ _ _ _ _ _ _ _ _ _ _ _ _ _ _ _ _ (by k_asm) (by k_asm) (by k_asm) (by k_asm) (by k_asm) (by first | exact rfl | assumption) (by ktr_room) (by ktr_units) ?_); intro r2 led2 h2 tk2 F2 N2 P2)
        obtain ⟨hsub, hLR⟩ := P2
        rw [hnbp] at hLR
        obtain ⟨a2, rfl⟩ := LR.tupRef N2 hLR
        k_steps
        refine Stop.out ?_
        rename News _ _ _ _ => Na
        k_dflt (refine list_lastS Na (hsub _ (.head _)) hus NF.ne ?_ (by with_unfolding_all rfl))
        intro t9
        k_steps
        (refine Stop.out ?_; k_dflt (refine (spec_due w _ _ _ _ hA bs (S.own.held.mono fun p hp => hsub p (.tail _ (.tail _ hp))) (nmOf b.pth) _ (ps.getLastD (Str.ofString "")) _) _ _ _ _ _ _ _ _ _ _ _ _ _ _ _ _ _ (by k_asm) (by k_asm) (by k_asm) (by k_asm) (by k_asm) (by first | exact rfl | assumption) (by ktr_room) (by ktr_units) ?_); intro r2 led2 h2 tk2 F2 N2 P2)
        obtain ⟨hsub2, hd⟩ := P2
        rw [hdue] at hd
        obtain ⟨⟨a3, rfl⟩, hd2⟩ := hd
        k_steps
        refine Stop.out ?_
        rename News _ _ _ _ => Na
        k_dflt (refine ne_same Na (hLR.mono hsub2) hd2 (shaped_toldD hbok hlok) (by ktr_units) ?_)
        k_steps
        rename News _ _ _ _ => Na
        exact CutEnd.intro (by assumption) (news_sub Na (fun q hq => hsub2 q (hsub q hq)))
    intro h3 tk3 F3 N3
    clear Fi Ni
    have fc := fun mean mg mb news (R : Rep w news ns) => spec_find_command w mean mg mb news ns R S.pathsOk rt nb hrt hrt0 hnb b.pq Mpr txt tt hl1000 ps n₀ hrun hn50 NF.ne (fun p hp => menu_ne (NF.mid p hp)) (by have := NF.four; omega) NF.sw NF.nc
    rw [hrx] at fc
    have hqh : ∀ q ∈ (if ab = true then [[]] else nb.pth :: b.pq ++ [[]]), has ns (if ab = true then [] else q) = true := by
      intro q hq
      cases ab
      · rcases List.mem_append.mp hq with hq | hq
        · rcases List.mem_cons.mp hq with rfl | hq
          · exact has_iff.mpr ⟨nb, hnb, rfl⟩
          · exact Mpr.has q hq
        · rw [List.mem_singleton.mp hq]; exact S.rep.tree.root
      · exact S.rep.tree.root
    have hff := find_found S.rep.tree Bk (ab := ab) (ps := ps) NF.mid (if ab = true then [[]] else nb.pth :: b.pq ++ [[]]) hqh
    rw [found_starts, hnbp] at hff
    have sfd := fun mean mg mb news (hs : ∀ p ∈ (l, PySem.W.listOf us ku) :: (I, ito) :: news₁, p ∈ news) => spec_found w mean mg mb news hA pA bs (S.own.held.mono fun p hp => hs p (.tail _ (.tail _ hp))) (S.own.paths.mono fun p hp => hs p (.tail _ (.tail _ hp))) b th hself ab l us ku ps (hs _ (.head _)) hus NF.ne (by have := NF.four; omega) hpsl S.lens.1 S.lens.2
    k_steps
    refine Stop.out ?_
    rename Fr _ _ _ _ => Fi
    rename News _ _ _ _ => Ni
    k_dflt (refine if_cut Fi Ni ?_ ?_)
    · rename YesStop => hys
      clear hys
      k_steps
      rename_i dv hdv
      obtain rfl := Option.some.inj (hdv.symm.trans hval)
      refine Stop.out ?_
      k_steps
      (refine Stop.out ?_; k_dflt (refine (fc _ _ _ _ (S.rep.mono fun p hp => .tail _ (.tail _ hp))) _ _ _ _ _ _ _ _ _ _ _ _ _ _ _ _ _ (by k_asm) (by k_asm) (by k_asm) (by k_asm) (by k_asm) (by first | exact rfl | assumption) (by ktr_room) (by ktr_units) ?_); intro r2 led2 h2 tk2 F2 N2 P2)
      clear fc
      obtain ⟨rfl, rfl⟩ := P2
      rw [NF.abs, hnbp]
      cases hfc : findC ns ab ps (if ab = true then [[]] else b.pth :: b.pq ++ [[]]) with
      | none =>
        rw [hfc] at hff
        dsimp only at hff
        rw [Option.getD_none]
        k_steps
        (refine Stop.out ?_; k_dflt (refine (spec_told_none w _ _ _ _) _ _ _ _ _ _ _ _ _ _ _ _ _ _ _ _ _ (by k_asm) (by k_asm) (by k_asm) (by k_asm) (by k_asm) (by first | exact rfl | assumption) (by ktr_room) (by ktr_units) ?_); intro r2 led2 h2 tk2 F2 N2 P2)
        obtain ⟨rfl, rfl⟩ := P2
        k_steps
        (refine Stop.out ?_; k_dflt (refine (sfd _ _ _ _ (fun p hp => hp)) _ _ _ _ _ _ _ _ _ _ _ _ _ _ _ _ _ (by k_asm) (by k_asm) (by k_asm) (by k_asm) (by k_asm) (by first | exact rfl | assumption) (by ktr_room) (by ktr_units) ?_); intro r2 led2 h2 tk2 F2 N2 P2)
        obtain ⟨hsub, hd⟩ := P2
        rw [hff] at hd
        obtain rfl : r2 = .none := hd
        k_steps
        rename News _ _ _ _ => Na
        exact CutEnd.intro (by assumption) (news_sub Na hsub)
      | some v =>
        rw [hfc] at hff
        dsimp only at hff
        obtain ⟨nd, hnd, cx, dat, rfl, hcmd, hff⟩ := hff
        rw [Option.getD_some]
        k_steps
        (refine Stop.out ?_; k_dflt (refine (spec_told w _ _ _ _ nd ((S.rep.node nd hnd).mono fun p hp _ => .tail _ (.tail _ hp)) cx (ps.getLastD (Str.ofString "")) dat (hcmd.mono fun p hp => .tail _ (.tail _ hp))) _ _ _ _ _ _ _ _ _ _ _ _ _ _ _ _ _ (by k_asm) (by k_asm) (by k_asm) (by k_asm) (by k_asm) (by first | exact rfl | assumption) (by ktr_room) (by ktr_units) ?_); intro r2 led2 h2 tk2 F2 N2 P2)
        obtain ⟨hsub, hLR⟩ := P2
        obtain ⟨a2, rfl⟩ := LR.tupRef N2 hLR
        k_steps
        (refine Stop.out ?_; k_dflt (refine (sfd _ _ _ _ hsub) _ _ _ _ _ _ _ _ _ _ _ _ _ _ _ _ _ (by k_asm) (by k_asm) (by k_asm) (by k_asm) (by k_asm) (by first | exact rfl | assumption) (by ktr_room) (by ktr_units) ?_); intro r2 led2 h2 tk2 F2 N2 P2)
        obtain ⟨hsub2, hd⟩ := P2
        rw [hff] at hd
        replace hd : LR _ r2 (toldD (nmOf nd.pth) (ps.getLastD (Str.ofString "")) dat) := hd
        obtain ⟨a3, rfl⟩ := LR.tupRef N2 hd
        k_steps
        refine Stop.out ?_
        rename News _ _ _ _ => Na
        k_dflt (refine ne_same Na (hLR.mono hsub2) hd (shaped_toldD (strOk_nmOf (S.rep.tree.part nd hnd)) hlok) (by ktr_units) ?_)
        k_steps
        rename News _ _ _ _ => Na
        exact CutEnd.intro (by assumption) (news_sub Na (fun q hq => hsub2 q (hsub q hq)))
    intro h3 tk3 F3 N3
    clear Fi Ni fc sfd hff
    k_steps
    rename Fr _ _ _ _ => Fe
    rename News _ _ _ _ => Nw
    exact LEnd.intro Fe Nw news₁ (.tail _ (.head _)) (fun p hp => .tail _ (.tail _ hp)) hne ⟨_, _, _, _, _, _, _, _, _, _, _, _, _, (by (try unfold lawM); funext y; simp only [← ovr_set_at]; rfl), rfl⟩
  intro m₁ led5 h tk JZ F₁ N₁
  (try dsimp only)
  (try k_fold)
  obtain ⟨p1, p2, p3, p4, p5, p6, p7, p8, p9, p10, p11, p12, p13, rfl, rfl⟩ := JZ
  clear F8 N8 hrg
  have st := fun mean mg mb => spec_tree w mean mg mb led5 ns S.rep rt hrt hrt0
  rw [hrx] at st
  k_steps
  (refine Stop.out ?_; k_dflt (refine (st _ _ _) _ _ _ _ _ _ _ _ _ _ _ _ _ _ _ _ _ (by k_asm) (by k_asm) (by k_asm) (by k_asm) (by k_asm) (by first | exact rfl | assumption) (by ktr_room) (by ktr_units) ?_); intro r2 led2 h2 tk2 F2 N2 P2)
  clear st
  obtain ⟨td2, o2', D2, rfl, rfl, hod2, hts2, hltd2, hDn2, hDa2⟩ := P2
  k_steps
  (refine Stop.out ?_; k_dflt (refine (spec_same w _ _ _ _ ns (S.rep.mono fun p hp => .tail _ hp) bs hA mA pA (Bk.mono fun p hp => .tail _ hp) td2 ⟨⟨o2', D2, .head _, hod2, hDn2, hDa2⟩, hts2⟩ S.few S.okk) _ _ _ _ _ _ _ _ _ _ _ _ _ _ _ _ _ (by k_asm) (by k_asm) (by k_asm) (by k_asm) (by k_asm) (by first | exact rfl | assumption) (by ktr_room) (by ktr_units) ?_); intro r2 led2 h2 tk2 F2 N2 P2)
  obtain ⟨rfl, rfl⟩ := P2
  k_steps
  rw [← hgeZ, ← hdrZ, ← hosZ]
  k_steps)
end
end Np
open PySem PySem.W PyProof.Rows
set_option Elab.async false
set_option maxRecDepth 100000 in
set_option maxHeartbeats 8000000 in
theorem PySem.Challenge.cw_np0129_01_holds : PySem.Challenge.rw_np0129_01.Holds := by
  exact Np.tt
