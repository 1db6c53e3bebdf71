import PyProof.Rows.All
import Wide.All
import OpenK.AllK
import Wide.FinOn
import PySem.Challenge.RW_pq1394_01
open PySem PySem.W PyProof.Rows
set_option Elab.async false
set_option maxRecDepth 100000
set_option maxHeartbeats 8000000
namespace Mine
set_option synthInstance.maxSize 1 in
open_top hd for PySem.Challenge.rw_pq1394_01
-- the head leaves the walk's mark set: the walks below want it unset
theorem hd_off : True := by
  w_top off
  trivial
end Mine
namespace Mine
abbrev Led := List (Addr × Obj)

/-- a contract of a def: from ledger news, args vs, what comes back -/
def Ctr (w : World) (p : Program) (loose : List Str) (mean : ExcName → Option Value) (mg mb : Str → Option Value) (f : Addr) (sz : Nat) (vs : List Value) (news : Led) (R : Value → Led → Prop) : Prop :=
  ∀ (dp un : Nat) (gd : Option (List PySem.Code)) (cn : Str) (cs : Scope) (a : Addr) (ccd : Value) (cl : List (Str × Addr)) (outer : List Env) (A₀ : Around) (base h₀ : Heap) (L : Addr) (m : Str → Option Value) (s : Shared)
    (Q E : Value → Shared → Prop),
    Below A₀ base outer h₀ → Fr h₀ L s.heap m → (Mine.hd.heap_39 w.params).In h₀ → News h₀ L s.heap news → Top p loose mean mg mb h₀ → cs.kind = .function → dp + sz < recursionLimit → un + 8 * sz < cLine →
    (∀ r news' h' tk', Fr h₀ L h' m → News h₀ L h' news' → R r news' → Q r { s with heap := h', toks := tk' }) →
    wpAny (model PySem.Challenge.rw_pq1394_01.row.prog w) (ktrTop dp un gd cn cs L a ccd cl outer) (call (.ref f) vs) Q E s

theorem Ctr.use {w : World} {p : Program} {loose : List Str} {mean : ExcName → Option Value} {mg mb : Str → Option Value} {f : Addr} {sz : Nat} {vs : List Value} {news : Led} {R : Value → Led → Prop}
    {dp un : Nat} {gd : Option (List PySem.Code)} {cn : Str} {cs : Scope} {a : Addr} {ccd : Value} {cl : List (Str × Addr)} {outer : List Env} {A₀ : Around} {base h₀ : Heap} {L : Addr} {m : Str → Option Value} {s : Shared}
    {Q E : Value → Shared → Prop} (B : Below A₀ base outer h₀) (F : Fr h₀ L s.heap m) (X : (Mine.hd.heap_39 w.params).In h₀) (N : News h₀ L s.heap news) (T : Top p loose mean mg mb h₀) (hk : cs.kind = .function)
    (C : Ctr w p loose mean mg mb f sz vs news R) (hd : dp + sz < recursionLimit) (hu : un + 8 * sz < cLine)
    (ret : ∀ r news' h' tk', Fr h₀ L h' m → News h₀ L h' news' → R r news' → Q r { s with heap := h', toks := tk' }) :
    wpAny (model PySem.Challenge.rw_pq1394_01.row.prog w) (ktrTop dp un gd cn cs L a ccd cl outer) (call (.ref f) vs) Q E s :=
  C _ _ _ _ _ _ _ _ _ _ _ _ _ _ _ _ _ B F X N T hk hd hu ret

def Stop (p : Prop) : Prop := p
theorem Stop.out {p : Prop} (h : Stop p) : p := h
theorem Stop.mk {p : Prop} (h : p) : Stop p := h

theorem nsub {h₀ h : Heap} {L : Addr} {l l' : Led} (N : News h₀ L h l) (s : ∀ p ∈ l', p ∈ l) : News h₀ L h l' := fun p hp => N p (s p hp)

/-- no address of the one is an address of the other -/
def Apart (tl base : Led) : Prop := ∀ p ∈ tl, ∀ q ∈ base, p.1 ≠ q.1
theorem Apart.nil {b : Led} : Apart [] b := fun _ h => nomatch h
theorem Apart.cons {a : Addr} {o : Obj} {t b : Led} (h : ∀ q ∈ b, q.1 < a) (k : Apart t b) : Apart ((a, o) :: t) b := by
  intro p hp q hq
  rcases List.mem_cons.mp hp with rfl | hp
  · exact (Nat.ne_of_lt (h q hq)).symm
  · exact k p hp q hq
theorem Apart.append {t t' b : Led} (h : Apart t b) (k : Apart t' b) : Apart (t ++ t') b := by
  intro p hp q hq
  rcases List.mem_append.mp hp with hp | hp
  · exact h p hp q hq
  · exact k p hp q hq
theorem Apart.sub {t b b' : Led} (h : Apart t b) (s : ∀ p ∈ b', p ∈ b) : Apart t b' := fun p hp q hq => h p hp q (s q hq)
theorem Apart.ne {t b : Led} {q : Addr × Obj} (h : Apart t b) (hq : q ∈ b) : ∀ p ∈ t, p.1 ≠ q.1 := fun p hp => h p hp q hq
theorem ne_of_lt_all {t : Led} {a : Addr} (h : ∀ p ∈ t, p.1 < a) : ∀ p ∈ t, p.1 ≠ a := fun p hp => Nat.ne_of_lt (h p hp)
theorem ne_of_allLt : ∀ {t : Led} {a : Addr}, AllLt a t → ∀ p ∈ t, p.1 ≠ a
  | [], _, _, _, hp => nomatch hp
  | q :: r, a, h, p, hp => by
    rcases List.mem_cons.mp hp with rfl | hp
    · exact Nat.ne_of_lt h.1
    · exact ne_of_allLt h.2 p hp
theorem lt_of_allLt : ∀ {t : Led} {a : Addr}, AllLt a t → ∀ p ∈ t, p.1 < a
  | [], _, _, _, hp => nomatch hp
  | q :: r, a, h, p, hp => by
    rcases List.mem_cons.mp hp with rfl | hp
    · exact h.1
    · exact lt_of_allLt h.2 p hp
theorem ne_append {t t' : Led} {a : Addr} (h : ∀ p ∈ t, p.1 ≠ a) (k : ∀ p ∈ t', p.1 ≠ a) : ∀ p ∈ t ++ t', p.1 ≠ a := fun p hp => (List.mem_append.mp hp).elim (h p) (k p)
theorem allLt_append : ∀ {t t' : Led} {a : Addr}, AllLt a (t ++ t') → AllLt a t ∧ AllLt a t'
  | [], _, _, h => ⟨trivial, h⟩
  | _ :: _, _, _, h => ⟨⟨h.1, (allLt_append h.2).1⟩, (allLt_append h.2).2⟩

/-- the trees of the law -/
inductive Tr where
  | sym (n : Str)
  | leaf (s : Str)
  | num (k : Int)
  | call (ts : List Tr) (tags : List (Option Str))

abbrev sKind : Str := Str.ofString "kind"
def Zip {α β : Type} (R : α → β → Prop) (as : List α) (bs : List β) : Prop := as.length = bs.length ∧ ∀ (i : Nat) a b, as[i]? = some a → bs[i]? = some b → R a b
theorem Zip.nil {α β : Type} {R : α → β → Prop} : Zip R [] [] := ⟨rfl, fun i a b h => by simp at h⟩
theorem Zip.snoc {α β : Type} {R : α → β → Prop} {as : List α} {bs : List β} {a : α} {b : β} (h : Zip R as bs) (k : R a b) : Zip R (as ++ [a]) (bs ++ [b]) := by
  refine ⟨by simp [h.1], fun i x y hx hy => ?_⟩
  rcases Nat.lt_trichotomy i as.length with hi | hi | hi
  · rw [List.getElem?_append_left hi] at hx
    rw [List.getElem?_append_left (h.1 ▸ hi)] at hy
    exact h.2 i x y hx hy
  · subst hi
    rw [List.getElem?_append_right (Nat.le_refl _)] at hx
    rw [h.1, List.getElem?_append_right (Nat.le_refl _)] at hy
    simp at hx hy
    subst hx; subst hy; exact k
  · rw [List.getElem?_eq_none (by simp; omega)] at hx
    cases hx
theorem Zip.mono {α β : Type} {R R' : α → β → Prop} {as : List α} {bs : List β} (h : Zip R as bs) (k : ∀ a b, R a b → R' a b) : Zip R' as bs := ⟨h.1, fun i a b ha hb => k a b (h.2 i a b ha hb)⟩
theorem Zip.at {α β : Type} {R : α → β → Prop} {as : List α} {bs : List β} (h : Zip R as bs) {i : Nat} (hi : i < bs.length) : ∃ a b, as[i]? = some a ∧ bs[i]? = some b ∧ R a b := by
  have h1 : i < as.length := h.1 ▸ hi
  exact ⟨as[i], bs[i], List.getElem?_eq_getElem h1, List.getElem?_eq_getElem hi, h.2 i _ _ (List.getElem?_eq_getElem h1) (List.getElem?_eq_getElem hi)⟩

inductive SymAt (Z : Led) (n : Str) : Value → Prop
  | mk (x : Addr) {dx : Addr} {k : Nat} {h1 h2 h3 : Int} {t1 t2 t3 t4 t5 : Tok} (hx : (x, instObj 67 dx) ∈ Z)
    (hdx : (dx, dictOf [⟨h1, .str (Str.ofString "kind") t1, .str (Str.ofString "symbol") t4⟩, ⟨h2, .str (Str.ofString "name") t2, .str n t5⟩, ⟨h3, .str (Str.ofString "attrs") t3, .none⟩] k) ∈ Z) : SymAt Z n (.ref x)
def vecEs (h1 h2 h3 h4 h5 : Int) (t1 t2 t3 t4 t5 t6 : Tok) (kd : Str) (l : Addr) (at' : Value) (b : Bool) : List DictEntry :=
  [⟨h1, .str (Str.ofString "kind") t1, .str kd t6⟩, ⟨h2, .str (Str.ofString "items") t2, .ref l⟩, ⟨h3, .str (Str.ofString "attrs") t3, at'⟩, ⟨h4, .str (Str.ofString "shared") t4, .bool b⟩, ⟨h5, .str (Str.ofString "loose") t5, .bool false⟩]
inductive LeafAt (b : Bool) (Z : Led) (c : Str) : Value → Prop
  | mk (x : Addr) {dx l : Addr} {k k' : Nat} {h1 h2 h3 h4 h5 : Int} {t1 t2 t3 t4 t5 t6 t7 : Tok} (ok : PyData.strOk c = true) (hx : (x, instObj 46 dx) ∈ Z)
    (hdx : (dx, dictOf (vecEs h1 h2 h3 h4 h5 t1 t2 t3 t4 t5 t6 (Str.ofString "character") l .none b) k) ∈ Z) (hl : (l, listOf #[.str c t7] k') ∈ Z) : LeafAt b Z c (.ref x)
inductive NumAt (Z : Led) (c : Int) : Value → Prop
  | mk (x : Addr) {dx l tp : Addr} {k k' k'' : Nat} {b : Bool} {h1 h2 h3 h4 h5 : Int} {t1 t2 t3 t4 t5 t6 t7 t8 : Tok} (hx : (x, instObj 46 dx) ∈ Z)
    (hdx : (dx, dictOf (vecEs h1 h2 h3 h4 h5 t1 t2 t3 t4 t5 t6 (Str.ofString "double") l .none b) k) ∈ Z) (hl : (l, listOf #[.ref tp] k') ∈ Z) (htp : (tp, ({ cls := .type "tuple", data := .seq #[.int c t7, .int 1 t8] k'' } : Obj)) ∈ Z) : NumAt Z c (.ref x)
inductive CallAt (Z : Led) (vs gs : List Value) : Value → Prop
  | mk (x l g : Addr) {dx : Addr} {k k' k'' : Nat} {h1 h2 h3 h4 h5 : Int} {t1 t2 t3 t4 t5 t6 : Tok} (hx : (x, instObj 89 dx) ∈ Z)
    (hdx : (dx, dictOf [⟨h1, .str (Str.ofString "kind") t1, .str (Str.ofString "language") t6⟩, ⟨h2, .str (Str.ofString "items") t2, .ref l⟩, ⟨h3, .str (Str.ofString "tags") t3, .ref g⟩, ⟨h4, .str (Str.ofString "attrs") t4, .none⟩, ⟨h5, .str (Str.ofString "code") t5, .none⟩] k) ∈ Z)
    (hl : (l, listOf vs.toArray k') ∈ Z) (hg : (g, listOf gs.toArray k'') ∈ Z) : CallAt Z vs gs (.ref x)
def TagIs (o : Option Str) (v : Value) : Prop := match o with
  | none => v = .none
  | some c => PyData.strOk c = true ∧ ∃ t, v = .str c t
def TIn (Z : Led) : Nat → Tr → Value → Prop
  | _, .sym n, v => SymAt Z n v
  | _, .leaf c, v => ∃ b, LeafAt b Z c v
  | _, .num c, v => NumAt Z c v
  | 0, .call _ _, _ => False
  | d + 1, .call ts tags, v => ∃ vs gs, CallAt Z vs gs v ∧ ts.length ≤ 20 ∧ ts.length = tags.length ∧ Zip TagIs tags gs ∧ Zip (TIn Z d) ts vs
end Mine
namespace Mine
def Good (n : Str) : Prop := n ∈ [Str.ofString "f", Str.ofString "a", Str.ofString "b", Str.ofString "g"]
def GoodT : Nat → Tr → Prop
  | _, .sym n => Good n
  | _, .leaf _ => True
  | _, .num _ => False
  | 0, .call _ _ => False
  | d + 1, .call ts _ => ∀ t ∈ ts, GoodT d t
def Bd : Nat → Int
  | 0 => 6
  | d + 1 => 4 * Bd d + 8
theorem Bd_succ (d : Nat) : Bd (d + 1) = 4 * Bd d + 8 := rfl
theorem Bd_pos : ∀ d, 6 ≤ Bd d
  | 0 => by decide
  | d + 1 => by have := Bd_pos d; rw [Bd_succ]; omega
theorem TIn_sym {Z : Led} {d : Nat} {n : Str} {v : Value} : TIn Z d (.sym n) v = SymAt Z n v := by cases d <;> rfl
theorem TIn_leaf {Z : Led} {d : Nat} {n : Str} {v : Value} : TIn Z d (.leaf n) v = ∃ b, LeafAt b Z n v := by cases d <;> rfl
theorem TIn_num {Z : Led} {d : Nat} {n : Int} {v : Value} : TIn Z d (.num n) v = NumAt Z n v := by cases d <;> rfl
theorem GoodT_sym {d : Nat} {n : Str} : GoodT d (.sym n) = Good n := by cases d <;> rfl
theorem GoodT_leaf {d : Nat} {n : Str} : GoodT d (.leaf n) = True := by cases d <;> rfl
end Mine
namespace Mine
theorem SymAt.mono {Z Z' : Led} {n : Str} {v : Value} (h : SymAt Z n v) (s : ∀ p ∈ Z, p ∈ Z') : SymAt Z' n v := by
  cases h with
  | mk x a b => exact .mk x (s _ a) (s _ b)
theorem LeafAt.mono {b : Bool} {Z Z' : Led} {n : Str} {v : Value} (h : LeafAt b Z n v) (s : ∀ p ∈ Z, p ∈ Z') : LeafAt b Z' n v := by
  cases h with
  | mk x o a b c => exact .mk x o (s _ a) (s _ b) (s _ c)
theorem NumAt.mono {Z Z' : Led} {n : Int} {v : Value} (h : NumAt Z n v) (s : ∀ p ∈ Z, p ∈ Z') : NumAt Z' n v := by
  cases h with
  | mk x a b c d => exact .mk x (s _ a) (s _ b) (s _ c) (s _ d)
theorem CallAt.mono {Z Z' : Led} {vs gs : List Value} {v : Value} (h : CallAt Z vs gs v) (s : ∀ p ∈ Z, p ∈ Z') : CallAt Z' vs gs v := by
  cases h with
  | mk x l g a b c d => exact .mk x l g (s _ a) (s _ b) (s _ c) (s _ d)
theorem TIn_call {Z : Led} {d : Nat} {ts : List Tr} {tags : List (Option Str)} {v : Value} : TIn Z (d + 1) (.call ts tags) v = ∃ vs gs, CallAt Z vs gs v ∧ ts.length ≤ 20 ∧ ts.length = tags.length ∧ Zip TagIs tags gs ∧ Zip (TIn Z d) ts vs := rfl
theorem TIn.mono {Z Z' : Led} (s : ∀ p ∈ Z, p ∈ Z') : ∀ {d : Nat} {t : Tr} {v : Value}, TIn Z d t v → TIn Z' d t v
  | d, .sym n, v, h => by rw [TIn_sym] at h ⊢; exact h.mono s
  | d, .leaf n, v, h => by rw [TIn_leaf] at h ⊢; obtain ⟨b, h⟩ := h; exact ⟨b, h.mono s⟩
  | d, .num n, v, h => by rw [TIn_num] at h ⊢; exact h.mono s
  | 0, .call _ _, v, h => h.elim
  | d + 1, .call ts tags, v, h => by
    rw [TIn_call] at h ⊢
    obtain ⟨vs, gs, hc, h1, h2, h3, h4⟩ := h
    exact ⟨vs, gs, hc.mono s, h1, h2, h3, h4.mono fun _ _ h => TIn.mono s h⟩
theorem TIn.up {Z : Led} : ∀ {d : Nat} {t : Tr} {v : Value}, TIn Z d t v → TIn Z (d + 1) t v
  | d, .sym n, v, h => by rw [TIn_sym] at h ⊢; exact h
  | d, .leaf n, v, h => by rw [TIn_leaf] at h ⊢; exact h
  | d, .num n, v, h => by rw [TIn_num] at h ⊢; exact h
  | 0, .call _ _, v, h => h.elim
  | d + 1, .call ts tags, v, h => by
    rw [TIn_call] at h ⊢
    obtain ⟨vs, gs, hc, h1, h2, h3, h4⟩ := h
    exact ⟨vs, gs, hc, h1, h2, h3, h4.mono fun _ _ h => TIn.up h⟩
theorem TIn.mk_leaf {d : Nat} {x dx l : Addr} {k k' : Nat} {b : Bool} {c : Str} {h1 h2 h3 h4 h5 : Int} {t1 t2 t3 t4 t5 t6 t7 : Tok} (ok : PyData.strOk c = true) :
    TIn [(x, instObj 46 dx), (dx, dictOf (vecEs h1 h2 h3 h4 h5 t1 t2 t3 t4 t5 t6 (Str.ofString "character") l .none b) k), (l, listOf #[.str c t7] k')] d (.leaf c) (.ref x) := by
  rw [TIn_leaf]
  exact ⟨b, .mk x ok (.head _) (.tail _ (.head _)) (.tail _ (.tail _ (.head _)))⟩
theorem TIn.mk_call {Z : Led} {d : Nat} {x dx l g : Addr} {k k' k'' : Nat} {h1 h2 h3 h4 h5 : Int} {t1 t2 t3 t4 t5 t6 : Tok} {vs gs : List Value} {ts : List Tr} {tags : List (Option Str)}
    (a : ts.length ≤ 20) (b : ts.length = tags.length) (c : Zip TagIs tags gs) (e : Zip (TIn Z d) ts vs) :
    TIn ((x, instObj 89 dx) :: (dx, dictOf [⟨h1, .str (Str.ofString "kind") t1, .str (Str.ofString "language") t6⟩, ⟨h2, .str (Str.ofString "items") t2, .ref l⟩, ⟨h3, .str (Str.ofString "tags") t3, .ref g⟩, ⟨h4, .str (Str.ofString "attrs") t4, .none⟩, ⟨h5, .str (Str.ofString "code") t5, .none⟩] k) ::
      (l, listOf vs.toArray k') :: (g, listOf gs.toArray k'') :: Z) (d + 1) (.call ts tags) (.ref x) := by
  rw [TIn_call]
  exact ⟨vs, gs, .mk x l g (.head _) (.tail _ (.head _)) (.tail _ (.tail _ (.head _))) (.tail _ (.tail _ (.tail _ (.head _)))), a, b, c,
    e.mono fun _ _ h => TIn.mono (fun _ hp => .tail _ (.tail _ (.tail _ (.tail _ hp)))) h⟩
theorem Zip.tag_nil : Zip TagIs [] [] := Zip.nil
end Mine
namespace Mine
theorem TIn.of_sym {Z : Led} {d : Nat} {n : Str} {v : Value} (h : SymAt Z n v) : TIn Z d (.sym n) v := by rw [TIn_sym]; exact h
theorem GoodT.of_sym {d : Nat} {n : Str} (h : Good n) : GoodT d (.sym n) := by rw [GoodT_sym]; exact h
theorem GoodT.mk_leaf {d : Nat} {n : Str} : GoodT d (.leaf n) := by rw [GoodT_leaf]; trivial
theorem Apart.of_fst {t b b' : Led} (h : Apart t b) (s : ∀ q ∈ b', ∃ q' ∈ b, q'.1 = q.1) : Apart t b' := fun p hp q hq => by
  obtain ⟨q', hq', e⟩ := s q hq
  rw [← e]; exact h p hp q' hq'
theorem Apart.head {t r : Led} {a : Addr} {o o' : Obj} (h : Apart t ((a, o) :: r)) : Apart t ((a, o') :: r) := h.of_fst fun q hq => by
  rcases List.mem_cons.mp hq with rfl | hq
  · exact ⟨_, .head _, rfl⟩
  · exact ⟨q, .tail _ hq, rfl⟩
end Mine
namespace Mine
/-- the names of l have their values, the others whatever u says -/
def over (l : List (Str × Value)) (u : Str → Option Value) : Str → Option Value := fun y => match l.lookup y with
  | some v => some v
  | none => u y
theorem lookup_mem {y : Str} {v : Value} : ∀ {l : List (Str × Value)}, l.lookup y = some v → (y, v) ∈ l
  | [], h => by cases h
  | (z, u) :: r, h => by
    rw [List.lookup_cons] at h
    cases e : (y == z) with
    | true => rw [e] at h; simp only [Option.some.injEq] at h; rw [beq_iff_eq.mp e, h]; exact .head _
    | false => rw [e] at h; exact .tail _ (lookup_mem h)
def Has (m : Str → Option Value) (l : List (Str × Value)) : Prop := ∀ p ∈ l, m p.1 = some p.2
theorem over_self {l : List (Str × Value)} {m : Str → Option Value} (h : Has m l) : m = over l m := by
  funext y
  unfold over
  cases e : l.lookup y with
  | none => rfl
  | some v => exact h _ (lookup_mem e)
theorem over_nil {m : Str → Option Value} : Has m [] := fun _ h => nomatch h
theorem over_cons {l : List (Str × Value)} {m : Str → Option Value} {x : Str} {v : Value} (h : m x = some v) (k : Has m l) : Has m ((x, v) :: l) := List.forall_mem_cons.mpr ⟨h, k⟩
end Mine
namespace Mine
theorem strOk_ofString (x : String) : PyData.strOk (Str.ofString x) = true := by
  rw [Str.ofString_eq_toList]
  unfold PyData.strOk
  rw [← Array.all_toList, List.all_eq_true]
  intro n hn
  obtain ⟨c, _, rfl⟩ := List.mem_map.mp hn
  have := c.valid
  simp only [UInt32.isValidChar, Nat.isValidChar] at this
  show decide (c.toNat < 0x110000) = true
  rw [decide_eq_true_eq]
  show c.val.toNat < 0x110000
  omega
theorem strOk_append {x y : Str} (hx : PyData.strOk x = true) (hy : PyData.strOk y = true) : PyData.strOk (x ++ y) = true := by
  unfold PyData.strOk at *
  rw [Str.cps_append, Array.all_append, hx, hy]; rfl
end Mine
namespace Mine
/-- a vector of no call's kind (a leaf or a number) -/
inductive VecAt (Z : Led) (kd : Str) : Value → Prop
  | mk (x : Addr) {dx l : Addr} {k : Nat} {b : Bool} {h1 h2 h3 h4 h5 : Int} {t1 t2 t3 t4 t5 t6 : Tok} (hx : (x, instObj 46 dx) ∈ Z)
    (hdx : (dx, dictOf (vecEs h1 h2 h3 h4 h5 t1 t2 t3 t4 t5 t6 kd l .none b) k) ∈ Z) : VecAt Z kd (.ref x)
theorem VecAt.mono {Z Z' : Led} {kd : Str} {v : Value} (h : VecAt Z kd v) (s : ∀ p ∈ Z, p ∈ Z') : VecAt Z' kd v := by
  cases h with
  | mk x a b => exact .mk x (s _ a) (s _ b)
theorem LeafAt.vec {b : Bool} {Z : Led} {c : Str} {v : Value} (h : LeafAt b Z c v) : VecAt Z (Str.ofString "character") v := by
  cases h with
  | mk x a b c d => exact .mk x b c
theorem NumAt.vec {Z : Led} {c : Int} {v : Value} (h : NumAt Z c v) : VecAt Z (Str.ofString "double") v := by
  cases h with
  | mk x a b c d => exact .mk x a b
theorem Tr_cases (t : Tr) : (∃ ts tags, t = .call ts tags) ∨ ∀ ts tags, t ≠ .call ts tags := by
  cases t with
  | call ts tags => exact .inl ⟨ts, tags, rfl⟩
  | _ => exact .inr nofun
/-- what is no call: a symbol, or a vector of a kind of its own -/
theorem TIn_atom {Z : Led} {d : Nat} {t : Tr} {v : Value} (h : TIn Z d t v) (hc : ∀ ts tags, t ≠ .call ts tags) : (∃ n, t = .sym n ∧ SymAt Z n v) ∨ ∃ kd, VecAt Z kd v ∧ kd ≠ Str.ofString "language" ∧ kd ≠ Str.ofString "symbol" ∧ (∀ n, t ≠ .sym n) ∧ ∀ Z', (∀ p ∈ Z, p ∈ Z') → ∀ d', TIn Z' d' t v := by
  cases t with
  | sym n => rw [TIn_sym] at h; exact .inl ⟨n, rfl, h⟩
  | leaf c =>
    rw [TIn_leaf] at h
    obtain ⟨b, h⟩ := h
    exact .inr ⟨_, h.vec, by decide +kernel, by decide +kernel, nofun, fun Z' s d' => by rw [TIn_leaf]; exact ⟨b, h.mono s⟩⟩
  | num c =>
    rw [TIn_num] at h
    exact .inr ⟨_, h.vec, by decide +kernel, by decide +kernel, nofun, fun Z' s d' => by rw [TIn_num]; exact h.mono s⟩
  | call ts tags => exact absurd rfl (hc ts tags)
end Mine
namespace Mine
theorem Ctr.le {w : World} {p : Program} {loose : List Str} {mean : ExcName → Option Value} {mg mb : Str → Option Value} {f : Addr} {sz sz' : Nat} {vs : List Value} {news : Led} {R : Value → Led → Prop} (C : Ctr w p loose mean mg mb f sz vs news R) (h : sz ≤ sz') :
    Ctr w p loose mean mg mb f sz' vs news R := fun dp un gd cn cs a ccd cl outer A₀ base h₀ L m s Q E B F X N T hk hd hu hret => C dp un gd cn cs a ccd cl outer A₀ base h₀ L m s Q E B F X N T hk (by omega) (by omega) hret
theorem Ctr.wk {w : World} {p : Program} {loose : List Str} {mean : ExcName → Option Value} {mg mb : Str → Option Value} {f : Addr} {sz : Nat} {vs : List Value} {news : Led} {R R' : Value → Led → Prop} (C : Ctr w p loose mean mg mb f sz vs news R) (h : ∀ r n, R r n → R' r n) :
    Ctr w p loose mean mg mb f sz vs news R' := fun dp un gd cn cs a ccd cl outer A₀ base h₀ L m s Q E B F X N T hk hd hu hret => C dp un gd cn cs a ccd cl outer A₀ base h₀ L m s Q E B F X N T hk hd hu fun r n h' tk F N hr => hret r n h' tk F N (h r n hr)
end Mine
namespace Mine
theorem TIn.mk_call2 {Z tl : Led} {d : Nat} {x dx l g : Addr} {k k' k'' : Nat} {h1 h2 h3 h4 h5 : Int} {t1 t2 t3 t4 t5 t6 : Tok} {vs gs : List Value} {ts : List Tr} {tags : List (Option Str)}
    (a : ts.length ≤ 20) (b : ts.length = tags.length) (c : Zip TagIs tags gs) (e : Zip (TIn (Z ++ tl) d) ts vs) :
    TIn (Z ++ ((x, instObj 89 dx) :: (dx, dictOf [⟨h1, .str (Str.ofString "kind") t1, .str (Str.ofString "language") t6⟩, ⟨h2, .str (Str.ofString "items") t2, .ref l⟩, ⟨h3, .str (Str.ofString "tags") t3, .ref g⟩, ⟨h4, .str (Str.ofString "attrs") t4, .none⟩, ⟨h5, .str (Str.ofString "code") t5, .none⟩] k) ::
      (l, listOf vs.toArray k') :: (g, listOf gs.toArray k'') :: tl)) (d + 1) (.call ts tags) (.ref x) := by
  refine (TIn.mk_call (Z := Z ++ tl) (x := x) (dx := dx) (l := l) (g := g) (k := k) (k' := k') (k'' := k'') (h1 := h1) (h2 := h2) (h3 := h3) (h4 := h4) (h5 := h5) (t1 := t1) (t2 := t2) (t3 := t3) (t4 := t4) (t5 := t5) (t6 := t6) a b c e).mono fun p hp => ?_
  simp only [List.mem_cons, List.mem_append] at hp ⊢
  rcases hp with h | h | h | h | h | h <;> simp only [h, true_or, or_true]
theorem mk_sym {x dx : Addr} {n : Str} {k : Nat} {h1 h2 h3 : Int} {t1 t2 t3 t4 t5 : Tok} :
    SymAt [(x, instObj 67 dx), (dx, dictOf [⟨h1, .str (Str.ofString "kind") t1, .str (Str.ofString "symbol") t4⟩, ⟨h2, .str (Str.ofString "name") t2, .str n t5⟩, ⟨h3, .str (Str.ofString "attrs") t3, .none⟩] k)] n (.ref x) :=
  .mk x (.head _) (.tail _ (.head _))
end Mine
namespace Mine
def holed : Nat → Tr → Tr
  | _, .sym n => .call [.sym (Str.ofString "."), .sym n] [none, none]
  | d + 1, .call ts tags => .call (ts.map (holed d)) tags
  | _, t => t
theorem holed_sym {d : Nat} {n : Str} : holed d (.sym n) = .call [.sym (Str.ofString "."), .sym n] [none, none] := by cases d <;> rfl
theorem holed_leaf {d : Nat} {n : Str} : holed d (.leaf n) = .leaf n := by cases d <;> rfl
theorem holed_num {d : Nat} {n : Int} : holed d (.num n) = .num n := by cases d <;> rfl
abbrev symD (h1 h2 h3 : Int) (t1 t2 t3 t4 t5 : Tok) (n : Str) (k : Nat) : Obj := dictOf [⟨h1, .str (Str.ofString "kind") t1, .str (Str.ofString "symbol") t4⟩, ⟨h2, .str (Str.ofString "name") t2, .str n t5⟩, ⟨h3, .str (Str.ofString "attrs") t3, .none⟩] k
theorem tag_none : TagIs none .none := rfl
theorem tags_nn : Zip TagIs [none, none] [.none, .none] := (Zip.nil.snoc tag_none).snoc tag_none
theorem mk_hole {d : Nat} {x dx l g y1 d1 y2 d2 : Addr} {n n' : Str} {k k' k'' kk kk' : Nat} {h1 h2 h3 h4 h5 a1 a2 a3 b1 b2 b3 : Int} {t1 t2 t3 t4 t5 t6 u1 u2 u3 u4 u5 v1 v2 v3 v4 v5 : Tok} :
    TIn [(x, instObj 89 dx), (dx, dictOf [⟨h1, .str (Str.ofString "kind") t1, .str (Str.ofString "language") t6⟩, ⟨h2, .str (Str.ofString "items") t2, .ref l⟩, ⟨h3, .str (Str.ofString "tags") t3, .ref g⟩, ⟨h4, .str (Str.ofString "attrs") t4, .none⟩, ⟨h5, .str (Str.ofString "code") t5, .none⟩] k),
      (l, listOf #[.ref y1, .ref y2] k'), (g, listOf #[.none, .none] k''), (y1, instObj 67 d1), (d1, symD a1 a2 a3 u1 u2 u3 u4 u5 n' kk), (y2, instObj 67 d2), (d2, symD b1 b2 b3 v1 v2 v3 v4 v5 n kk')] (d + 1) (.call [.sym n', .sym n] [none, none]) (.ref x) :=
  TIn.mk_call (vs := [.ref y1, .ref y2]) (gs := [.none, .none]) (by simp) rfl tags_nn
    (Zip.snoc (Zip.snoc Zip.nil (TIn.of_sym (.mk y1 (.head _) (.tail _ (.head _))))) (TIn.of_sym (.mk y2 (.tail _ (.tail _ (.head _))) (.tail _ (.tail _ (.tail _ (.head _)))))))
theorem Zip.map_left {α β γ : Type} {R : β → γ → Prop} {f : α → β} {as : List α} {cs : List γ} (h : Zip (fun a c => R (f a) c) as cs) : Zip R (as.map f) cs := by
  refine ⟨by simpa using h.1, fun i b c hb hc => ?_⟩
  rw [List.getElem?_map] at hb
  cases ha : as[i]? with
  | none => rw [ha] at hb; cases hb
  | some a => rw [ha] at hb; cases hb; exact h.2 i a c ha hc
end Mine
namespace Mine
theorem and2 {a b c : Prop} (h : a ∧ b ∧ c) : c := h.2.2
theorem and3 {a b c d : Prop} (h : a ∧ b ∧ c ∧ d) : d := h.2.2.2
theorem and4 {a b c d e : Prop} (h : a ∧ b ∧ c ∧ d ∧ e) : e := h.2.2.2.2
theorem and5 {a b c d e f : Prop} (h : a ∧ b ∧ c ∧ d ∧ e ∧ f) : f := h.2.2.2.2.2
theorem and6 {a b c d e f g : Prop} (h : a ∧ b ∧ c ∧ d ∧ e ∧ f ∧ g) : g := h.2.2.2.2.2.2
theorem and7 {a b c d e f g i : Prop} (h : a ∧ b ∧ c ∧ d ∧ e ∧ f ∧ g ∧ i) : i := h.2.2.2.2.2.2.2
theorem and8 {x1 x2 x3 x4 x5 x6 x7 x8 x9 : Prop} (h : x1 ∧ x2 ∧ x3 ∧ x4 ∧ x5 ∧ x6 ∧ x7 ∧ x8 ∧ x9) : x9 := h.2.2.2.2.2.2.2.2
theorem and9 {x1 x2 x3 x4 x5 x6 x7 x8 x9 x10 : Prop} (h : x1 ∧ x2 ∧ x3 ∧ x4 ∧ x5 ∧ x6 ∧ x7 ∧ x8 ∧ x9 ∧ x10) : x10 := h.2.2.2.2.2.2.2.2.2
theorem and10 {x1 x2 x3 x4 x5 x6 x7 x8 x9 x10 x11 : Prop} (h : x1 ∧ x2 ∧ x3 ∧ x4 ∧ x5 ∧ x6 ∧ x7 ∧ x8 ∧ x9 ∧ x10 ∧ x11) : x11 := h.2.2.2.2.2.2.2.2.2.2
theorem and11 {x1 x2 x3 x4 x5 x6 x7 x8 x9 x10 x11 x12 : Prop} (h : x1 ∧ x2 ∧ x3 ∧ x4 ∧ x5 ∧ x6 ∧ x7 ∧ x8 ∧ x9 ∧ x10 ∧ x11 ∧ x12) : x12 := h.2.2.2.2.2.2.2.2.2.2.2
theorem and12 {x1 x2 x3 x4 x5 x6 x7 x8 x9 x10 x11 x12 x13 : Prop} (h : x1 ∧ x2 ∧ x3 ∧ x4 ∧ x5 ∧ x6 ∧ x7 ∧ x8 ∧ x9 ∧ x10 ∧ x11 ∧ x12 ∧ x13) : x13 := h.2.2.2.2.2.2.2.2.2.2.2.2
theorem and13 {x1 x2 x3 x4 x5 x6 x7 x8 x9 x10 x11 x12 x13 x14 : Prop} (h : x1 ∧ x2 ∧ x3 ∧ x4 ∧ x5 ∧ x6 ∧ x7 ∧ x8 ∧ x9 ∧ x10 ∧ x11 ∧ x12 ∧ x13 ∧ x14) : x14 := h.2.2.2.2.2.2.2.2.2.2.2.2.2
theorem and14 {x1 x2 x3 x4 x5 x6 x7 x8 x9 x10 x11 x12 x13 x14 x15 : Prop} (h : x1 ∧ x2 ∧ x3 ∧ x4 ∧ x5 ∧ x6 ∧ x7 ∧ x8 ∧ x9 ∧ x10 ∧ x11 ∧ x12 ∧ x13 ∧ x14 ∧ x15) : x15 := h.2.2.2.2.2.2.2.2.2.2.2.2.2.2

theorem len_led {w : World} {prog : Program} {A : Around} {E : Value → Shared → Prop} {s : Shared} {h₀ : Heap} {L l : Addr} {news : Led} {its : List Value} {n : Nat} {Q : Value → Shared → Prop} (N : News h₀ L s.heap news) (hm : (l, listOf its.toArray n) ∈ news)
    (hfit : its.length ≤ 1000000) (h : Q (.int its.length (s.toks + 1)) { s with toks := s.toks + 1 + 1 }) : wpAny (model prog w) A (call (.builtin "len") [.ref l]) Q E s :=
  PySem.Calls.call_len_list (items := its.toArray) ⟨_, (N _ hm).1, rfl, n, rfl⟩ (by rw [List.size_toArray]; omega) (by rw [List.size_toArray]; exact h)

theorem item_led {w : World} {prog : Program} {A : Around} {E : Value → Shared → Prop} {s : Shared} {h₀ : Heap} {L l : Addr} {news : Led} {its : List Value} {n : Nat} {k : Int} {u : Tok} {x : Value} {value slice : PySem.Expr} {Q : Value → Shared → Prop} (N : News h₀ L s.heap news) (hm : (l, listOf its.toArray n) ∈ news)
    (h0 : 0 ≤ k) (hfit : k < 2 ^ 63) (hx : its[k.toNat]? = some x) (h : Q x s)
    (hs : subscripted slice false (.ref l) (.int k u) = operate [.ref l, .int k u] (getItem (.ref l) (.int k u)) := by with_unfolding_all rfl) (hg : ∀ r, letTemporaryGo value (.ref l) r = pure () := by intro _; with_unfolding_all rfl) :
    wpAny (model prog w) A (subscriptTail value slice (.ref l) (.int k u)) Q E s := item_listL ⟨_, (N _ hm).1, rfl, n, rfl⟩ h0 hfit hx h hs hg

theorem item_ints_led {w : World} {prog : Program} {A : Around} {E : Value → Shared → Prop} {s : Shared} {h₀ : Heap} {L l : Addr} {news : Led} {its : List Value} {ns : List Int} {n : Nat} {k : Int} {u : Tok} {value slice : PySem.Expr} {Q : Value → Shared → Prop} (N : News h₀ L s.heap news) (hm : (l, listOf its.toArray n) ∈ news)
    (hI : IntsAre its ns) (h0 : 0 ≤ k) (hlt : k < (its.length : Int)) (hfit : k < 2 ^ 63) (h : ∀ y t, Q (.int y t) s)
    (hs : subscripted slice false (.ref l) (.int k u) = operate [.ref l, .int k u] (getItem (.ref l) (.int k u)) := by with_unfolding_all rfl) (hg : ∀ r, letTemporaryGo value (.ref l) r = pure () := by intro _; with_unfolding_all rfl) :
    wpAny (model prog w) A (subscriptTail value slice (.ref l) (.int k u)) Q E s := by
  have hk : k.toNat < its.length := by omega
  obtain ⟨y, t, e, _⟩ := hI.at k.toNat its[k.toNat] (List.getElem?_eq_getElem hk)
  exact item_led N hm h0 hfit (by rw [List.getElem?_eq_getElem hk, e]) (h y t) hs hg
end Mine
namespace Mine
theorem upd_rest {sp : Addr} {o : Obj} {news : Led} {g : Obj → Led} (U : UpdF sp o news g) : ∃ rest : Led, (∀ o' : Obj, ∀ p ∈ g o', p ∈ (sp, o') :: rest) ∧ (∀ o' : Obj, ∀ p ∈ (sp, o') :: rest, p ∈ g o') ∧ (∀ p ∈ rest, p.1 ≠ sp) ∧
    (∀ p ∈ (sp, o) :: rest, p ∈ news) ∧ ∀ p ∈ news, p ∈ (sp, o) :: rest := by
  obtain ⟨pre, post, rfl, hg, ha, hb⟩ := U.split
  refine ⟨pre ++ post, fun o' p hp => ?_, fun o' p hp => ?_, fun p hp => (List.mem_append.mp hp).elim (ha p) (hb p), fun p hp => ?_, fun p hp => ?_⟩
  · rw [hg] at hp
    rcases List.mem_append.mp hp with h | h
    · exact .tail _ (List.mem_append.mpr (.inl h))
    · rcases List.mem_cons.mp h with rfl | h
      · exact .head _
      · exact .tail _ (List.mem_append.mpr (.inr h))
  · rw [hg]
    rcases List.mem_cons.mp hp with rfl | h
    · exact List.mem_append.mpr (.inr (.head _))
    · rcases List.mem_append.mp h with h | h
      · exact List.mem_append.mpr (.inl h)
      · exact List.mem_append.mpr (.inr (.tail _ h))
  · rcases List.mem_cons.mp hp with rfl | h
    · exact List.mem_append.mpr (.inr (.head _))
    · rcases List.mem_append.mp h with h | h
      · exact List.mem_append.mpr (.inl h)
      · exact List.mem_append.mpr (.inr (.tail _ h))
  · rcases List.mem_append.mp hp with h | h
    · exact .tail _ (List.mem_append.mpr (.inl h))
    · rcases List.mem_cons.mp h with rfl | h
      · exact .head _
      · exact .tail _ (List.mem_append.mpr (.inr h))
theorem mem_rest {sp l : Addr} {o o' : Obj} {rest : Led} (h : (l, o') ∈ (sp, o) :: rest) (hne : sp ≠ l) : (l, o') ∈ rest := by
  rcases List.mem_cons.mp h with h | h
  · exact absurd (congrArg Prod.fst h).symm hne
  · exact h
theorem sub_cons {a b : Led} {x : Addr × Obj} (h : ∀ p ∈ a, p ∈ b) : ∀ p ∈ a, p ∈ x :: b := fun p hp => .tail _ (h p hp)
theorem sub_appL {a b c : Led} (h : ∀ p ∈ a, p ∈ c) (k : ∀ p ∈ b, p ∈ c) : ∀ p ∈ a ++ b, p ∈ c := fun p hp => (List.mem_append.mp hp).elim (h p) (k p)
theorem sub_appR1 {a b c : Led} (h : ∀ p ∈ a, p ∈ b) : ∀ p ∈ a, p ∈ b ++ c := fun p hp => List.mem_append.mpr (.inl (h p hp))
theorem sub_appR2 {a b c : Led} (h : ∀ p ∈ a, p ∈ c) : ∀ p ∈ a, p ∈ b ++ c := fun p hp => List.mem_append.mpr (.inr (h p hp))
theorem sub_trans {a b c : Led} (h : ∀ p ∈ a, p ∈ b) (k : ∀ p ∈ b, p ∈ c) : ∀ p ∈ a, p ∈ c := fun p hp => k p (h p hp)
theorem sub_consL {b : Led} {x : Addr × Obj} {a : Led} (h : x ∈ b) (k : ∀ p ∈ a, p ∈ b) : ∀ p ∈ x :: a, p ∈ b := List.forall_mem_cons.mpr ⟨h, k⟩
theorem lt_consL {b : Addr} {x : Addr × Obj} {a : Led} (h : @LT.lt Nat _ x.1 b) (k : ∀ p ∈ a, p.1 < b) : ∀ p ∈ x :: a, p.1 < b := List.forall_mem_cons.mpr ⟨h, k⟩
theorem lt_appL {b : Addr} {a c : Led} (h : ∀ p ∈ a, p.1 < b) (k : ∀ p ∈ c, p.1 < b) : ∀ p ∈ a ++ c, p.1 < b := fun p hp => (List.mem_append.mp hp).elim (h p) (k p)
theorem lt_all_trans {t : Led} {a b : Addr} (h : ∀ p ∈ t, p.1 < a) (k : @LT.lt Nat _ a b) : ∀ p ∈ t, p.1 < b := fun p hp => Nat.lt_trans (h p hp) k
end Mine
namespace Mine
theorem item_led_all {w : World} {prog : Program} {A : Around} {E : Value → Shared → Prop} {s : Shared} {h₀ : Heap} {L l : Addr} {news : Led} {its : List Value} {n : Nat} {k : Int} {u : Tok} {value slice : PySem.Expr} {Q : Value → Shared → Prop} (P : Value → Prop) (N : News h₀ L s.heap news) (hm : (l, listOf its.toArray n) ∈ news)
    (hP : ∀ x ∈ its, P x) (h0 : 0 ≤ k) (hlt : k < (its.length : Int)) (hfit : k < 2 ^ 63) (h : ∀ x, P x → Q x s)
    (hs : subscripted slice false (.ref l) (.int k u) = operate [.ref l, .int k u] (getItem (.ref l) (.int k u)) := by with_unfolding_all rfl) (hg : ∀ r, letTemporaryGo value (.ref l) r = pure () := by intro _; with_unfolding_all rfl) :
    wpAny (model prog w) A (subscriptTail value slice (.ref l) (.int k u)) Q E s := by
  have hk : k.toNat < its.length := by omega
  exact item_led N hm h0 hfit (List.getElem?_eq_getElem hk) (h _ (hP _ (List.getElem_mem hk))) hs hg
end Mine
namespace Mine
theorem sub_nil {b : Led} : ∀ p ∈ ([] : Led), p ∈ b := fun _ h => nomatch h
theorem lt_nil {b : Addr} : ∀ p ∈ ([] : Led), p.1 < b := fun _ h => nomatch h
end Mine
namespace Mine
theorem Apart.ne2 {t b : Led} {a : Addr} {o : Obj} (h : Apart t b) (hq : (a, o) ∈ b) : ∀ p ∈ t, p.1 ≠ a := fun p hp => h p hp (a, o) hq
end Mine
namespace Mine
theorem rloop {prog : Program} {w : World} {A : Around} {E : Value → Shared → Prop} {s : Shared} {env : Env} {h₀ : Heap} {x : Str} {body : List Stmt} {Q : Flow → Shared → Prop} {r : Addr} {b₀ : Int} {t₀ u₀ v₀ : Tok} {m₀ : Str → Option Value} {news : Led} (n : Nat)
    (J : Nat → (Str → Option Value) → Led → Prop)
    (hh : A.handled = none) (hr : IsRange s.heap r 0 b₀ 1 t₀ u₀ v₀) (hb0 : b₀ = (n : Int)) (hb1 : n < 1000000) (F : Fr h₀ env.locals s.heap m₀) (N : News h₀ env.locals s.heap news) (hj : J 0 m₀ news)
    (turn : ∀ (i : Nat) t m₁ nx h tk own, i < n → Apart own nx → J i m₁ nx → Fr h₀ env.locals h (fun y => if y = x then some (.int (i : Int) t) else m₁ y) → News h₀ env.locals h (nx ++ own) →
      wpAny (model prog w) A (execs body env) (TbPost h₀ env.locals (J (i + 1)) own { s with heap := h, toks := tk } Q) E { s with heap := h, toks := tk })
    (done : ∀ m₁ nx h tk, J n m₁ nx → Fr h₀ env.locals h m₁ → News h₀ env.locals h nx → Q .next { s with heap := h, toks := tk }) :
    wpAny (model prog w) A (pyIter (.ref r)) (fun it s₂ => LoopAtV prog w A h₀ env x body Q E it s₂) E s := by
  subst hb0
  refine tbr_invG (n := n) J hh hr (small_one (by omega) (by omega) (by omega) (by omega)) (by rw [rangeSize_nat]; omega) F N hj ?_ done
  intro i k t m₁ nx h tk own hk hoff hJ F₁ N₁
  have hlt : i < n := by
    have := (List.getElem?_eq_some_iff.mp hk).1
    rwa [rangeKs_length] at this
  have e : k = (i : Int) := by
    have q : (rangeKs 0 n)[i]? = some (0 + (i : Int)) := by simp [rangeKs, hlt]
    rw [q] at hk
    have := Option.some.inj hk
    omega
  subst e
  exact turn i t m₁ nx h tk own hlt hoff hJ F₁ N₁

theorem turn_end {h₀ : Heap} {L : Addr} {J : (Str → Option Value) → Led → Prop} {own : Led} {s₁ : Shared} {h' : Heap} {tk : Nat} {m' : Str → Option Value} {news' nx : Led} (F : Fr h₀ L h' m') (N : News h₀ L h' news') (h1 : ∀ p ∈ nx, p ∈ news') (h2 : ∀ p ∈ own, p ∈ news') (h3 : Apart own nx) (h4 : J m' nx) :
    TbEnd h₀ L J own s₁ { s₁ with heap := h', toks := tk } := ⟨h', tk, m', news', nx, rfl, F, N, h1, h2, h3, h4⟩
theorem Apart.symm {a b : Led} (h : Apart a b) : Apart b a := fun p hp q hq e => h q hq p hp e.symm
theorem Apart.nilR {b : Led} : Apart b [] := fun _ _ _ h => nomatch h
theorem Apart.consR {a : Addr} {o : Obj} {t b : Led} (h : ∀ p ∈ b, p.1 ≠ a) (k : Apart b t) : Apart b ((a, o) :: t) := fun p hp q hq => by
  rcases List.mem_cons.mp hq with rfl | hq
  · exact h p hp
  · exact k p hp q hq
theorem Apart.appR {t t' b : Led} (h : Apart b t) (k : Apart b t') : Apart b (t ++ t') := fun p hp q hq => (List.mem_append.mp hq).elim (h p hp q) (k p hp q)
end Mine
namespace Mine
theorem lt_left {t t' : Led} {a : Addr} (h : AllLt a (t ++ t')) : ∀ p ∈ t, p.1 < a := lt_of_allLt (allLt_append h).1
theorem lt_right {t t' : Led} {a : Addr} (h : AllLt a (t ++ t')) : ∀ p ∈ t', p.1 < a := lt_of_allLt (allLt_append h).2
end Mine
namespace Mine
theorem off1_all {D : Addr} : ∀ {l : Led}, LCg.Off1 D l → ∀ p ∈ l, p.1 ≠ D
  | [], _, _, h => nomatch h
  | _ :: _, x, p, h => by
    rcases List.mem_cons.mp h with rfl | h
    · exact x.1
    · exact off1_all x.2 p h
theorem all_left {t t' : Led} {a : Addr} (h : ∀ p ∈ t ++ t', p.1 ≠ a) : ∀ p ∈ t, p.1 ≠ a := fun p hp => h p (List.mem_append.mpr (.inl hp))
theorem all_right {t t' : Led} {a : Addr} (h : ∀ p ∈ t ++ t', p.1 ≠ a) : ∀ p ∈ t', p.1 ≠ a := fun p hp => h p (List.mem_append.mpr (.inr hp))
theorem Apart.consNe {a : Addr} {o : Obj} {t b : Led} (h : ∀ q ∈ b, q.1 ≠ a) (k : Apart t b) : Apart ((a, o) :: t) b := by
  intro p hp q hq
  rcases List.mem_cons.mp hp with rfl | hp
  · exact (h q hq).symm
  · exact k p hp q hq
end Mine
namespace Mine
theorem and2' {a b c : Prop} (h : a ∧ b ∧ c) : c := h.2.2
end Mine
namespace Mine
theorem ne_nil {a : Addr} : ∀ p ∈ ([] : Led), p.1 ≠ a := fun _ h => nomatch h
theorem ne_cons {a : Addr} {x : Addr × Obj} {t : Led} (h : @Ne Nat x.1 a) (k : ∀ p ∈ t, p.1 ≠ a) : ∀ p ∈ x :: t, p.1 ≠ a := List.forall_mem_cons.mpr ⟨h, k⟩
end Mine
namespace Mine
theorem lt_sub {Z W : Led} {a : Addr} (h : AllLt a W) (s : ∀ p ∈ Z, p ∈ W) : ∀ p ∈ Z, p.1 < a := fun p hp => lt_of_allLt h p (s p hp)
end Mine
namespace Mine
theorem ne_str_t {prog : Program} {w : World} {A : Around} {E : Value → Shared → Prop} {s : Shared} {x y : Str} {t u : Tok} {Q : Value → Shared → Prop} (hne : x ≠ y) (h : Q (.bool true) s) : wpAny (model prog w) A (compareOp .NotEq (.str x t) (.str y u)) Q E s :=
  PyProof.Rows.ne_str (by rw [show (x != y) = true from bne_iff_ne.mpr hne]; exact h)
theorem eq_str_f {prog : Program} {w : World} {A : Around} {E : Value → Shared → Prop} {s : Shared} {x y : Str} {t u : Tok} {Q : Value → Shared → Prop} (hne : x ≠ y) (h : Q (.bool false) s) : wpAny (model prog w) A (compareOp .Eq (.str x t) (.str y u)) Q E s :=
  PyProof.Rows.eq_str (by rw [show (x == y) = false from beq_eq_false_iff_ne.mpr hne]; exact h)
end Mine
local macro_rules | `(tactic| walk_at $s:str) => `(tactic| k_extra $s)
local macro_rules | `(tactic| k_all) => `(tactic| k_extra "k_all")
local macro_rules | `(tactic| k_mem) => `(tactic| k_extra "k_mem")
local macro_rules | `(tactic| k_ne) => `(tactic| k_extra "k_ne")
-- lines of my own for the walk: kept by k_with, newest first
namespace Mine
theorem kw : True := by
  k_with "my_ne" =>
    refine neN ?_; (try dsimp only); first | exact Nat.ne_of_gt (by k_extra "my_at") | exact Nat.ne_of_lt (by k_extra "my_at") | assumption | exact Ne.symm (by assumption) | omega
  k_with "k_ne" =>
    k_extra "my_ne"
  k_with "my_at" =>
    with_reducible first | assumption | exact And.left (by assumption) | exact And.left (And.right (by assumption)) | exact And.left (And.right (And.right (by assumption))) | exact And.left (Mine.and2' (And.right (by assumption))) | exact And.left (Mine.and2' (And.right (And.right (by assumption)))) | exact And.left (Mine.and2' (Mine.and2' (And.right (by assumption))))
  k_with "my_allLt" =>
    with_reducible first | assumption | exact And.right (by assumption) | exact Mine.and2 (by assumption) | exact Mine.and3 (by assumption) | exact Mine.and4 (by assumption) | exact Mine.and5 (by assumption) | exact Mine.and6 (by assumption) | exact Mine.and7 (by assumption) | exact Mine.and8 (by assumption) | exact Mine.and9 (by assumption) | exact Mine.and10 (by assumption) | exact Mine.and11 (by assumption) | exact Mine.and12 (by assumption) | exact Mine.and13 (by assumption) | exact Mine.and14 (by assumption) | exact Mine.and15 (by assumption) | exact Mine.and16 (by assumption) | exact Mine.and17 (by assumption) | exact Mine.and18 (by assumption) | exact Mine.and19 (by assumption) | exact Mine.and20 (by assumption) | exact Mine.and21 (by assumption) | exact Mine.and22 (by assumption) | exact Mine.and23 (by assumption)
  k_with "my_lt" =>
    first | with_reducible assumption | with_reducible exact Mine.lt_nil | ((with_reducible refine Mine.lt_consL ?_ ?_); (try dsimp only); omega; k_extra "my_lt") | ((with_reducible refine Mine.lt_appL ?_ ?_) <;> k_extra "my_lt") | exact Mine.lt_sub (by k_extra "my_allLt") (by k_extra "my_sub1")
  k_with "my_mem" =>
    first | with_reducible exact List.mem_cons_self | ((with_reducible refine List.mem_cons_of_mem _ ?_); k_extra "my_mem") | ((with_reducible refine List.mem_append_left _ ?_); k_extra "my_mem") | ((with_reducible refine List.mem_append_right _ ?_); k_extra "my_mem")
  k_with "my_memA" =>
    first | with_reducible assumption | with_reducible exact List.mem_cons_self | ((with_reducible refine List.mem_cons_of_mem _ ?_); k_extra "my_memA") | ((with_reducible refine List.mem_append_left _ ?_); k_extra "my_memA") | ((with_reducible refine List.mem_append_right _ ?_); k_extra "my_memA")
  k_with "my_sub" =>
    first | with_reducible exact (fun _ h => h) | with_reducible assumption | with_reducible exact Mine.sub_nil | ((with_reducible refine Mine.sub_consL ?_ ?_); (first | k_extra "my_memA" | k_mem); k_extra "my_sub") | ((with_reducible refine Mine.sub_appL ?_ ?_) <;> k_extra "my_sub") | ((fail_if_success with_reducible refine Mine.sub_consL ?_ ?_); (fail_if_success with_reducible refine Mine.sub_appL ?_ ?_); k_extra "my_sub1")
  k_with "my_sub1" =>
    first | with_reducible exact (fun _ h => h) | with_reducible assumption | ((with_reducible refine Mine.sub_cons ?_); k_extra "my_sub1") | ((with_reducible refine Mine.sub_appR1 ?_); k_extra "my_sub1") | ((with_reducible refine Mine.sub_appR2 ?_); k_extra "my_sub1")
  k_with "my_apart" =>
    first | with_reducible assumption | with_reducible exact Mine.Apart.nil | ((with_reducible refine Mine.Apart.consNe ?_ ?_); (first | (refine Mine.ne_of_lt_all ?_; k_extra "my_lt") | k_extra "my_all"); k_extra "my_apart") | ((with_reducible refine Mine.Apart.append ?_ ?_) <;> k_extra "my_apart") | ((fail_if_success with_reducible refine Mine.Apart.consNe ?_ ?_); (fail_if_success with_reducible refine Mine.Apart.append ?_ ?_); k_extra "my_apart1")
  k_with "my_apart1" =>
    first | with_reducible assumption | with_reducible exact Mine.Apart.nilR | ((with_reducible refine Mine.Apart.consR ?_ ?_); k_extra "my_all"; k_extra "my_apart1") | ((with_reducible refine Mine.Apart.appR ?_ ?_) <;> k_extra "my_apart1") | exact Mine.Apart.sub (by with_reducible assumption) (by k_extra "my_sub1") | exact Mine.Apart.symm (by with_reducible assumption) | exact Mine.Apart.symm (Mine.Apart.sub (by with_reducible assumption) (by k_extra "my_sub1"))
  k_with "my_all" =>
    first | with_reducible assumption | with_reducible exact Mine.ne_nil | ((with_reducible refine Mine.ne_cons ?_ ?_); k_extra "my_ne"; k_extra "my_all") | ((with_reducible refine Mine.ne_append ?_ ?_) <;> k_extra "my_all") | ((fail_if_success with_reducible refine Mine.ne_cons ?_ ?_); (fail_if_success with_reducible refine Mine.ne_append ?_ ?_); first | with_reducible exact Mine.ne_of_lt_all (by assumption) | exact Mine.ne_of_lt_all (Mine.lt_sub (by k_extra "my_allLt") (by k_extra "my_sub1")) | exact Mine.Apart.ne2 (by with_reducible assumption) (by k_extra "my_mem") | with_reducible exact Mine.all_left (by assumption) | with_reducible exact Mine.all_right (by assumption))
  k_with "k_all" =>
    k_extra "my_all"
  k_with "k_mem" =>
    assumption
  k_with "k_mem" =>
    ((first | (with_reducible show List.Mem _ (_ ++ _)) | (with_reducible show _ ∈ (_ ++ _))); first | (refine List.mem_append.mpr (Or.inl ?_); k_mem) | (refine List.mem_append.mpr (Or.inr ?_); k_mem))
  k_with "k_mem" =>
    first | with_reducible assumption | with_reducible exact List.Mem.head _ | (with_reducible exact List.mem_cons_self)
  k_with "my_enter" =>
    first
      | (refine' code_def ?k1 ?k2 ?k3 ?k4 ?k5 ?kA ?kF ?kK ?k6 ?k7 ?k8 ?k9 ?kB ?_ ?c2 ?c3 ?c4 ?c5; (case kA => exact rfl); (case kF => exact rfl); (case kK => first | exact rfl | assumption); (case k1 => k_asm); (case k2 => k_asm); (case k3 => k_asm); (case k4 => k_asm); (case k5 => k_asm); (case k6 => k_is); (case k7 => k_is); (case k8 => ktr_room); (case k9 => first | exact BindsTo.of_eq rfl | exact binds_K (by k_in) rfl (by k_is) rfl rfl rfl | fail "my_enter: no rule for these arguments"); (case c5 => decide); (case kB => exact locs rfl); (case c2 => exact rfl); (case c3 => exact rfl); (case c4 => exact rfl); k_whole; intro g' L' h' FG' F' N' B' X' T'; (try dsimp only); (try k_lift B'); (try k_fold))
      | (refine' code_defC ?k1 ?k2 ?k3 ?k4 ?k5 ?kA ?kF ?kK ?k6 ?k7 ?k8 ?k9 ?kB ?kD ?_ ?c2 ?c3 ?c4; (case kA => exact rfl); (case kF => exact rfl); (case kK => first | exact rfl | assumption); (case k1 => k_asm); (case k2 => k_asm); (case k3 => k_asm); (case k4 => k_asm); (case k5 => k_asm); (case k6 => k_is); (case k7 => k_is); (case k8 => ktr_room); (case k9 => first | exact BindsTo.of_eq rfl | exact binds_K (by k_in) rfl (by k_is) rfl rfl rfl | fail "my_enter: no rule for these arguments"); (case kB => exact rfl); (case kD => decide +kernel); (case c2 => exact rfl); (case c3 => exact rfl); (case c4 => exact rfl); k_whole; intro g' L' h' tk' cells' FG' F' N' Y' B' X' T' l1; (try k_lt l1); k_cells Y'; (try simp only [List.cons_append, List.nil_append] at N'); (try dsimp only); (try k_lift B'); (try k_fold))
  k_with "call ref" =>
    (k_here; k_dflt (refine' call_cls ?k1 ?k2 ?k3 ?k4 ?k5 ?k6 ?_; (case k1 => k_asm); (case k2 => k_asm); (case k3 => k_asm); (case k4 => k_is); (case k5 => k_is); (case k6 => k_is); k_whole; intro x' d' h' F' N' l1 l2; (have l3 := Mine.lt_all_trans l1 l2); (try k_lt l1); (try k_lt l3); (try k_lt2 l2); (try k_sweep); k_extra "my_enter"))
  k_with "call ref" =>
    (k_here; k_dflt (refine wpAny_call ?_; k_extra "my_enter"))
  k_with "call builtin:len" =>
    (k_here; (with_reducible show wpAny _ _ (call (Value.builtin "len") [Value.ref _]) _ _ _); k_dflt (refine' Mine.len_led ?k1 ?k2 ?k3 ?_; (case k1 => k_asm); (case k2 => k_mem); (case k3 => first | omega | (simp; omega)); k_whole))
  k_with "subscriptTail" =>
    (k_here; (with_reducible show wpAny _ _ (subscriptTail _ _ (Value.ref _) (Value.int _ _)) _ _ _); k_dflt (first
      | (refine' Mine.item_ints_led ?k1 ?k2 ?k3 ?k4 ?k5 ?k6 ?_; (case k1 => k_asm); (case k2 => k_mem); (case k3 => assumption); (case k4 => omega); (case k5 => omega); (case k6 => omega); k_whole; intro y' t')
      | (refine' Mine.item_led ?k1 ?k2 ?k3 ?k4 ?k5 ?_; (case k1 => k_asm); (case k2 => k_mem); (case k5 => assumption); (case k3 => omega); (case k4 => omega); k_whole)))
  k_with "my_over" =>
    first | exact Mine.over_nil | (refine' Mine.over_cons ?mov1 ?mov2; (case mov1 => first | exact rfl | with_unfolding_all rfl); (case mov2 => k_extra "my_over"))
  k_with "exec For Name Call cons nil" =>
    (k_here; (rename Fr _ _ _ _ => lF'); (with_unfolding_all refine' For_invVF lF' ?k1 ?k2 ?_; (case k1 => exact rfl); (case k2 => exact rfl); k_whole))
  k_with "call type:range" =>
    (k_here; (rename Fr _ _ _ _ => F'); (rename News _ _ _ _ => N'); (with_unfolding_all refine range1_rows F' N' ?_; intro h' tk' t1' u1' v1' rg' F' N' kp'))
  k_with "pyIter ref" =>
    (k_here; (with_reducible show wpAny _ _ (pyIter (Value.ref _)) (fun it s₂ => LoopAtV _ _ _ _ _ _ _ _ _ it s₂) _ _); refine Mine.Stop.out ?_)
  k_with "my_strok" =>
    first | assumption | exact Mine.strOk_ofString _ | (refine Mine.strOk_append ?_ ?_ <;> k_extra "my_strok")
  k_with "FinE" =>
    ((unfold LCg.FinE); intro D' h' tk' F' N' o1'; (have o2' := Mine.off1_all o1'); (try simp only [List.nil_append, List.cons_append, List.append_assoc] at N'); (try dsimp only))
  k_with "call ref" =>
    (k_here; (with_reducible show wpAny _ _ (call (Value.ref 67) _) _ _ _); k_dflt (refine' Mine.Ctr.use ?k1 ?k2 ?k3 ?k4 ?k5 ?k6 Mine.sym_new ?k7 ?k8 ?_; (case k1 => k_asm); (case k2 => k_asm); (case k3 => k_asm); (case k4 => k_asm); (case k5 => k_asm); (case k6 => first | exact rfl | assumption); (case k7 => ktr_room); (case k8 => ktr_units); intro r9 n9 h' tk9 F' N' ho9; obtain ⟨x', d', l1, l2⟩ := ho9; (have l3 := Mine.lt_all_trans l1 l2); (try k_lt l1); (try k_lt l3); (try k_lt2 l2); (try dsimp only); (try k_sweep); (try k_fold)))
  k_with "call ref" =>
    (k_here; (with_reducible show wpAny _ _ (call (Value.ref 89) _) _ _ _); k_dflt (refine' Mine.Ctr.use ?k1 ?k2 ?k3 ?k4 ?k5 ?k6 Mine.call_new ?k7 ?k8 ?_; (case k1 => k_asm); (case k2 => k_asm); (case k3 => k_asm); (case k4 => k_asm); (case k5 => k_asm); (case k6 => first | exact rfl | assumption); (case k7 => ktr_room); (case k8 => ktr_units); intro r9 n9 h' tk9 F' N' ho9; obtain ⟨x', d', l1, l2⟩ := ho9; (have l3 := Mine.lt_all_trans l1 l2); (try k_lt l1); (try k_lt l3); (try k_lt2 l2); (try dsimp only); (try k_sweep); (try k_fold)))
  k_with "call ref" =>
    (k_here; (with_reducible show wpAny _ _ (call (Value.ref 46) _) _ _ _); k_dflt (refine' Mine.Ctr.use ?k1 ?k2 ?k3 ?k4 ?k5 ?k6 Mine.vec_new ?k7 ?k8 ?_; (case k1 => k_asm); (case k2 => k_asm); (case k3 => k_asm); (case k4 => k_asm); (case k5 => k_asm); (case k6 => first | exact rfl | assumption); (case k7 => ktr_room); (case k8 => ktr_units); intro r9 n9 h' tk9 F' N' ho9; obtain ⟨x', d', l1, l2⟩ := ho9; (have l3 := Mine.lt_all_trans l1 l2); (try k_lt l1); (try k_lt l3); (try k_lt2 l2); (try dsimp only); (try k_sweep); (try k_fold)))
  k_with "call ref" =>
    (k_here; (with_reducible show wpAny _ _ (call (Value.ref 196) _) _ _ _); first | k_dflt (refine' Mine.Ctr.use ?k1 ?k2 ?k3 ?k4 ?k5 ?k6 (Mine.tap_ctr ?U ?hm ?hI ?hlen ?hne ?h0 ?hi ?hl) ?k7 ?k8 ?_; (case k1 => k_asm); (case k2 => k_asm); (case k3 => k_asm); (case k4 => k_asm); (case k5 => k_asm); (case k6 => first | exact rfl | assumption); (case U => k_updF); (case hm => k_mem); (case hI => assumption); (case hlen => assumption); (case hne => first | assumption | omega); (case h0 => omega); (case hi => omega); (case hl => first | decide | omega); (case k7 => ktr_room); (case k8 => ktr_units); intro r9 n9 h9 tk9 F9 N9 ho9; obtain ⟨v9, hv0, hv1⟩ := ho9; (try dsimp only at N9); (try dsimp only); (try k_sweep); (try k_fold)) | (refine Mine.Stop.out ?_))
  k_with "call ref" =>
    (k_here; (with_reducible show wpAny _ _ (call (Value.ref 203) _) _ _ _); first | (exfalso; omega) | k_dflt (refine' Mine.Ctr.use ?k1 ?k2 ?k3 ?k4 ?k5 ?k6 (Mine.name_ctr ?U ?hm ?hI ?hlen ?hne ?h0 ?hi) ?k7 ?k8 ?_; (case k1 => k_asm); (case k2 => k_asm); (case k3 => k_asm); (case k4 => k_asm); (case k5 => k_asm); (case k6 => first | exact rfl | assumption); (case U => k_updF); (case hm => k_mem); (case hI => assumption); (case hlen => assumption); (case hne => first | assumption | omega); (case h0 => omega); (case hi => omega); (case k7 => ktr_room); (case k8 => ktr_units); intro r9 n9 h9 tk9 F9 N9 ho9; obtain ⟨c9, tl9, hs9, hg9, ha9⟩ := ho9; (try dsimp only at N9); (try simp only [List.nil_append, List.cons_append, List.append_assoc] at N9); (try dsimp only); (try k_sweep); (try k_fold)) | (refine Mine.Stop.out ?_))
  k_with "call ref" =>
    (k_here; (with_reducible show wpAny _ _ (call (Value.ref 210) _) _ _ _); first | k_dflt (refine' Mine.Ctr.use ?k1 ?k2 ?k3 ?k4 ?k5 ?k6 (Mine.TreeC.use ?C ?U ?hm ?h0 ?hi ?hd) ?k7 ?k8 ?_; (case k1 => k_asm); (case k2 => k_asm); (case k3 => k_asm); (case k4 => k_asm); (case k5 => k_asm); (case k6 => first | exact rfl | assumption); (case C => assumption); (case U => k_updF); (case hm => k_mem); (case h0 => omega); (case hi => omega); (case hd => omega); (case k7 => ktr_room); (case k8 => ktr_units); intro r9 n9 h9 tk9 F9 N9 ho9; obtain ⟨c9, i9, tl9, hs9, hg9, ha9, hi8, hi9⟩ := ho9; (try dsimp only at N9); (try simp only [List.nil_append, List.cons_append, List.append_assoc] at N9); (try dsimp only); (try k_sweep); (try k_fold)) | (refine Mine.Stop.out ?_))
  k_with "eval ListComp" =>
    (k_here; k_dflt (refine LCg.ListComp_U (F₀ := by k_asm) (by rfl) (by decide) (by rfl) (by decide) (by rfl) ?_); k_dflt lcg_toSrc)
  k_with "CompSrc" =>
    (k_here; k_dflt (refine LCg.CompSrc.ledger (by rfl) (by k_asm) (by k_asm) (by k_mem) (by first | size_fits | (rw [List.size_toArray, sizeLine_eq]; omega)) ?_; intro g'))
  k_with "CompSrc" =>
    (k_here; k_dflt (refine LCg.CompSrc.range (by rfl) (by k_asm) (by k_asm) (by assumption) (small_one (by omega) (by omega) (by omega) (by omega)) (by first | exact rangeSize_nat _ _ | rfl) (by first | size_fits | (rw [PySem.sizeLine_eq]; omega)) ?_; intro g'))
  k_with "CompRest" =>
    (refine Mine.Stop.out ?_)
  k_with "call ref" =>
    (k_here; (with_reducible show wpAny _ _ (call (Value.ref 220) _) _ _ _); first | k_dflt (refine' Mine.Ctr.use ?k1 ?k2 ?k3 ?k4 ?k5 ?k6 (Mine.AgainC.use (f := 220) ?C ?hv ?hz) ?k7 ?k8 ?_; (case k1 => k_asm); (case k2 => k_asm); (case k3 => k_asm); (case k4 => k_asm); (case k5 => k_asm); (case k6 => first | exact rfl | assumption); (case C => assumption); (case hv => assumption); (case hz => k_extra "my_sub"); (case k7 => ktr_room); (case k8 => ktr_units); intro r9 n9 h9 tk9 F9 N9 ho9; obtain ⟨tl9, hs9, ha9, e9'⟩ := ho9; subst e9'; (try dsimp only at N9); (try simp only [List.nil_append, List.cons_append, List.append_assoc] at N9); (try dsimp only); (try k_sweep); (try k_fold)) | (refine Mine.Stop.out ?_))
  k_with "call ref" =>
    (k_here; (with_reducible show wpAny _ _ (call (Value.ref 215) _) _ _ _); first | k_dflt (refine' Mine.Ctr.use ?k1 ?k2 ?k3 ?k4 ?k5 ?k6 (Mine.AgainC.use (f := 215) ?C ?hv ?hz) ?k7 ?k8 ?_; (case k1 => k_asm); (case k2 => k_asm); (case k3 => k_asm); (case k4 => k_asm); (case k5 => k_asm); (case k6 => first | exact rfl | assumption); (case C => assumption); (case hv => assumption); (case hz => k_extra "my_sub"); (case k7 => ktr_room); (case k8 => ktr_units); intro r9 n9 h9 tk9 F9 N9 ho9; obtain ⟨tl9, hs9, ha9, e9'⟩ := ho9; subst e9'; (try dsimp only at N9); (try simp only [List.nil_append, List.cons_append, List.append_assoc] at N9); (try dsimp only); (try k_sweep); (try k_fold)) | (refine Mine.Stop.out ?_))
  k_with "call type:list" =>
    (k_here; (with_reducible show wpAny _ _ (call (Value.type "list") [Value.ref _]) _ _ _); k_dflt (refine' Mine.list_led ?k1 ?k2 ?k3 ?k4 ?_; (case k1 => k_asm); (case k2 => k_asm); (case k3 => k_mem); (case k4 => omega); k_whole; intro D' c' h' F' N' l1; (try k_lt l1); (try k_sweep)))
  k_with "compareOp NotEq str str" =>
    (refine' Mine.ne_str_t ?k1 ?_; (case k1 => assumption))
  k_with "compareOp Eq str str" =>
    (refine' Mine.eq_str_f ?k1 ?_; (case k1 => assumption))
  k_with "compareOp In str ref" =>
    (k_here; k_dflt (first
      | (refine' Mine.in_some ?k1 ?k2 ?k3 ?k4 ?k5 ?_; (case k1 => k_asm); (case k2 => k_mem); (case k3 => assumption); (case k4 => assumption); (case k5 => assumption); k_whole)
      | (refine' Mine.in_none ?k1 ?k2 ?k3 ?k4 ?k5 ?_; (case k1 => k_asm); (case k2 => k_mem); (case k3 => assumption); (case k4 => assumption); (case k5 => assumption); k_whole)))
  k_with "subscriptTail" =>
    (k_here; (with_reducible show wpAny _ _ (subscriptTail _ _ (Value.ref _) (Value.str _ _)) _ _ _); k_dflt (refine' Mine.item_some ?k1 ?k2 ?k3 ?k5 ?_; (case k1 => k_asm); (case k2 => k_mem); (case k3 => assumption); (case k5 => assumption); k_whole))
  k_with "call builtin:dict.get" =>
    (k_here; k_dflt (first
      | (refine' Mine.get_some ?k1 ?k2 ?k3 ?k4 ?k5 ?_; (case k1 => k_asm); (case k2 => k_mem); (case k3 => assumption); (case k4 => assumption); (case k5 => assumption); k_whole)
      | (refine' Mine.get1_some ?k1 ?k2 ?k3 ?k4 ?k5 ?_; (case k1 => k_asm); (case k2 => k_mem); (case k3 => assumption); (case k4 => assumption); (case k5 => assumption); k_whole)
      | (refine' Mine.get_none ?k1 ?k2 ?k3 ?k4 ?k5 ?_; (case k1 => k_asm); (case k2 => k_mem); (case k3 => assumption); (case k4 => assumption); (case k5 => assumption); k_whole)))
  k_with "call ref" =>
    (k_here; (with_reducible show wpAny _ _ (call (Value.ref 142) _) _ _ _); first | k_dflt (refine' Mine.Ctr.use ?k1 ?k2 ?k3 ?k4 ?k5 ?k6 (Mine.share_id ?C) ?k7 ?k8 ?_; (case k1 => k_asm); (case k2 => k_asm); (case k3 => k_asm); (case k4 => k_asm); (case k5 => k_asm); (case k6 => first | exact rfl | assumption); (case C => first | assumption | (refine Mine.NotVec.mono (by assumption) ?_; k_extra "my_sub")); (case k7 => ktr_room); (case k8 => ktr_units); intro r9 n9 h9 tk9 F9 N9 ho9; obtain ⟨e9, e9'⟩ := ho9; subst e9; subst e9'; (try dsimp only); (try k_sweep); (try k_fold)) | (refine Mine.Stop.out ?_))
  k_with "call ref" =>
    (k_here; (with_reducible show wpAny _ _ (call (Value.ref 149) _) _ _ _); first | k_dflt (refine' Mine.Ctr.use ?k1 ?k2 ?k3 ?k4 ?k5 ?k6 (Mine.SubC.use ?C ?hv ?hg ?hz ?ht ?hd ?lo ?hf) ?k7 ?k8 ?_; (case k1 => k_asm); (case k2 => k_asm); (case k3 => k_asm); (case k4 => k_asm); (case k5 => k_asm); (case k6 => first | exact rfl | assumption); (case C => assumption); (case hv => assumption); (case hg => assumption); (case hz => k_extra "my_sub"); (case hd => assumption); (case ht => k_mem); (case lo => assumption); (case hf => assumption); (case k7 => ktr_room); (case k8 => ktr_units); intro r9 n9 h9 tk9 F9 N9 ho9; obtain ⟨tl9, hs9, ha9, e9'⟩ := ho9; subst e9'; (try dsimp only at N9); (try simp only [List.nil_append, List.cons_append, List.append_assoc] at N9); (try dsimp only); (try k_sweep); (try k_fold)) | (refine Mine.Stop.out ?_))
  k_with "compareOp Eq ref ref" =>
    (k_here; (with_reducible show wpAny _ _ (compareOp CmpOp.Eq (Value.ref _) (Value.ref _)) _ _ _); k_dflt (first
      | (refine' Mine.eq_vec ?k1 ?k2 ?k3 ?k5 ?k6 ?k4 ?_; (case k1 => assumption); (case k2 => assumption); (case k3 => assumption); (case k5 => k_asm); (case k6 => k_extra "my_sub"); (case k4 => ktr_units))
      | (refine' Mine.eq_tags ?k1 ?k2 ?k3 ?k5 ?k6 ?k4 ?_; (case k1 => k_asm); (case k2 => k_mem); (case k3 => k_mem); (case k5 => assumption); (case k6 => assumption); (case k4 => ktr_units))))
  k_with "call ref" =>
    (k_here; (with_reducible show wpAny _ _ (call (Value.ref 163) _) _ _ _); first | k_dflt (refine' Mine.Ctr.use ?k1 ?k2 ?k3 ?k4 ?k5 ?k6 (Mine.LeqC.use ?C ?hu ?hv ?hz) ?k7 ?k8 ?_; (case k1 => k_asm); (case k2 => k_asm); (case k3 => k_asm); (case k4 => k_asm); (case k5 => k_asm); (case k6 => first | exact rfl | assumption); (case C => assumption); (case hu => assumption); (case hv => assumption); (case hz => k_extra "my_sub"); (case k7 => ktr_room); (case k8 => ktr_units); intro r9 n9 h9 tk9 F9 N9 ho9; obtain ⟨e9, e9'⟩ := ho9; subst e9; subst e9'; (try dsimp only); (try k_sweep); (try k_fold)) | k_dflt (refine' Mine.Ctr.use ?k1 ?k2 ?k3 ?k4 ?k5 ?k6 (Mine.LeqC.use2 ?C ?hu ?hz ?hv ?hz') ?k7 ?k8 ?_; (case k1 => k_asm); (case k2 => k_asm); (case k3 => k_asm); (case k4 => k_asm); (case k5 => k_asm); (case k6 => first | exact rfl | assumption); (case C => assumption); (case hu => assumption); (case hv => assumption); (case hz => k_extra "my_sub"); (case hz' => k_extra "my_sub"); (case k7 => ktr_room); (case k8 => ktr_units); intro r9 n9 h9 tk9 F9 N9 ho9; obtain ⟨e9, e9'⟩ := ho9; subst e9; subst e9'; (try dsimp only); (try k_sweep); (try k_fold)) | (refine Mine.Stop.out ?_))
  k_with "subscriptTail" =>
    (k_here; (with_reducible show wpAny _ _ (subscriptTail _ _ (Value.ref _) (Value.int _ _)) _ _ _); k_dflt (refine' Mine.item_led_all (fun x => ∃ n t, x = .str n t ∧ Good n) ?k1 ?k2 ?k3 ?k4 ?k5 ?k6 ?_; (case k1 => k_asm); (case k2 => k_mem); (case k3 => simp [Good]); (case k4 => omega); (case k5 => simp; omega); (case k6 => omega); k_whole; intro y' hy'; obtain ⟨n', t', e', hgood⟩ := hy'; subst e'))
  k_with "subscriptTail" =>
    (k_here; (with_reducible show wpAny _ _ (subscriptTail _ (PySem.Expr.Call _ _ _ _) (Value.ref _) (Value.int _ _)) _ _ _); k_dflt (refine' Mine.item_led_all (fun x => ∃ o, Mine.TagIs o x) ?k1 ?k2 ?k3 ?k4 ?k5 ?k6 ?_; (case k1 => k_asm); (case k2 => k_mem); (case k3 => exact Mine.two_tags); (case k4 => omega); (case k5 => simp; omega); (case k6 => omega); k_whole; intro y' hy'; obtain ⟨o', hto'⟩ := hy'))
  k_with "subscriptTail" =>
    (k_here; (with_reducible show wpAny _ _ (subscriptTail _ (PySem.Expr.Call _ _ _ _) (Value.ref _) (Value.int _ _)) _ _ _); k_dflt (refine' Mine.item_led_all (fun x => ∃ o, Mine.StrIs o x) ?k1 ?k2 ?k3 ?k4 ?k5 ?k6 ?_; (case k1 => k_asm); (case k2 => k_mem); (case k3 => exact Mine.three_tags); (case k4 => omega); (case k5 => simp; omega); (case k6 => omega); k_whole; intro y' hy'; obtain ⟨o', hto'⟩ := hy'))
  k_with "call ref" =>
    (k_here; k_dflt (refine' Mine.Ctr.use ?k1 ?k2 ?k3 ?k4 ?k5 ?k6 (Mine.PickC.use ?C ?U ?h0 ?hs ?hl) ?k7 ?k8 ?_; (case k1 => k_asm); (case k2 => k_asm); (case k3 => k_asm); (case k4 => k_asm); (case k5 => k_asm); (case k6 => first | exact rfl | assumption); (case C => assumption); (case U => first | assumption | k_updF); (case h0 => first | assumption | k_extra "my_sub"); (case hs => assumption); (case hl => omega); (case k7 => ktr_room); (case k8 => ktr_units); intro r9 n9 h9 tk9 F9 N9 ho9; cases ho9; all_goals ((try dsimp only at N9); (try simp only [List.nil_append, List.cons_append, List.append_assoc] at N9); (try dsimp only); (try k_sweep); (try k_fold))))
  k_with "call ref" =>
    (k_here; (with_reducible show wpAny _ _ (call (Value.ref 182) _) _ _ _); k_dflt (refine' Mine.Ctr.use ?k1 ?k2 ?k3 ?k4 ?k5 ?k6 (Mine.hole_part ?hv ?hg ?hz) ?k7 ?k8 ?_; (case k1 => k_asm); (case k2 => k_asm); (case k3 => k_asm); (case k4 => k_asm); (case k5 => k_asm); (case k6 => first | exact rfl | assumption); (case hv => assumption); (case hg => assumption); (case hz => k_extra "my_sub"); (case k7 => ktr_room); (case k8 => ktr_units); intro r9 n9 h9 tk9 F9 N9 ho9; obtain ⟨c9, hc9⟩ := ho9; (try dsimp only at N9); (try simp only [List.nil_append, List.cons_append, List.append_assoc] at N9); (try dsimp only); (try k_sweep); (try k_fold)))
  k_with "call ref" =>
    (k_here; (with_reducible show wpAny _ _ (call (Value.ref 182) _) _ _ _); k_dflt (refine' Mine.Ctr.use ?k1 ?k2 ?k3 ?k4 ?k5 ?k6 (Mine.hole_none' ?hv ?hg ?hz) ?k7 ?k8 ?_; (case k1 => k_asm); (case k2 => k_asm); (case k3 => k_asm); (case k4 => k_asm); (case k5 => k_asm); (case k6 => first | exact rfl | assumption); (case hv => assumption); (case hg => assumption); (case hz => k_extra "my_sub"); (case k7 => ktr_room); (case k8 => ktr_units); intro r9 n9 h9 tk9 F9 N9 ho9; obtain ⟨⟩ := ho9; (try dsimp only at N9); (try simp only [List.nil_append, List.cons_append, List.append_assoc] at N9); (try dsimp only); (try k_sweep); (try k_fold)))
  k_with "call ref" =>
    (k_here; (with_reducible show wpAny _ _ (call (Value.ref 182) _) _ _ _); k_dflt (refine' Mine.Ctr.use ?k1 ?k2 ?k3 ?k4 ?k5 ?k6 (Mine.hole_dot' ?hv ?hz) ?k7 ?k8 ?_; (case k1 => k_asm); (case k2 => k_asm); (case k3 => k_asm); (case k4 => k_asm); (case k5 => k_asm); (case k6 => first | exact rfl | assumption); (case hv => assumption); (case hz => k_extra "my_sub"); (case k7 => ktr_room); (case k8 => ktr_units); intro r9 n9 h9 tk9 F9 N9 ho9; obtain ⟨⟩ := ho9; (try dsimp only at N9); (try simp only [List.nil_append, List.cons_append, List.append_assoc] at N9); (try dsimp only); (try k_sweep); (try k_fold)))
  k_with "call ref" =>
    (k_here; (with_reducible show wpAny _ _ (call (Value.ref 182) _) _ _ _); k_dflt (refine' Mine.Ctr.use ?k1 ?k2 ?k3 ?k4 ?k5 ?k6 (Mine.hole_dots ?hv ?hz) ?k7 ?k8 ?_; (case k1 => k_asm); (case k2 => k_asm); (case k3 => k_asm); (case k4 => k_asm); (case k5 => k_asm); (case k6 => first | exact rfl | assumption); (case hv => assumption); (case hz => k_extra "my_sub"); (case k7 => ktr_room); (case k8 => ktr_units); intro r9 n9 h9 tk9 F9 N9 ho9; obtain ⟨⟩ := ho9; (try dsimp only at N9); (try simp only [List.nil_append, List.cons_append, List.append_assoc] at N9); (try dsimp only); (try k_sweep); (try k_fold)))
  k_with "call ref" =>
    (k_here; k_dflt (refine' Mine.Ctr.use ?k1 ?k2 ?k3 ?k4 ?k5 ?k6 (Mine.SpreadC.use ?C ?h0 ?hs ?hz) ?k7 ?k8 ?_; (case k1 => k_asm); (case k2 => k_asm); (case k3 => k_asm); (case k4 => k_asm); (case k5 => k_asm); (case k6 => first | exact rfl | assumption); (case C => assumption); (case h0 => k_extra "my_sub"); (case hs => assumption); (case hz => k_extra "my_sub"); (case k7 => ktr_room); (case k8 => ktr_units); intro r9 n9 h9 tk9 F9 N9 ho9; obtain ⟨e9, e9'⟩ := ho9; subst e9; subst e9'; (try dsimp only at N9); (try simp only [List.nil_append, List.cons_append, List.append_assoc] at N9); (try dsimp only); (try k_sweep); (try k_fold)))
  k_with "call ref" =>
    (k_here; (with_reducible show wpAny _ _ (call (Value.ref 175) _) _ _ _); k_dflt (refine' Mine.Ctr.use ?k1 ?k2 ?k3 ?k4 ?k5 ?k6 (Mine.elem_ctr ?hv ?hz ?hzg ?hlg ?hlv) ?k7 ?k8 ?_; (case k1 => k_asm); (case k2 => k_asm); (case k3 => k_asm); (case k4 => k_asm); (case k5 => k_asm); (case k6 => first | exact rfl | assumption); (case hv => assumption); (case hz => k_extra "my_sub"); (case hzg => assumption); (case hlg => assumption); (case hlv => omega); (case k7 => ktr_room); (case k8 => ktr_units); intro r9 n9 h9 tk9 F9 N9 ho9; obtain ⟨fl9, ps9, tl9, hfl9, zp9, ha9⟩ := ho9; (try dsimp only at N9); (try simp only [List.nil_append, List.cons_append, List.append_assoc] at N9); (try dsimp only); (try k_sweep); (try k_fold)))
  k_with "call ref" =>
    (k_here; (with_reducible show wpAny _ _ (call (Value.ref 189) _) _ _ _); k_dflt (refine' Mine.Ctr.use ?k1 ?k2 ?k3 ?k4 ?k5 ?k6 (Mine.BqC.use ?C ?hv ?hg ?hz ?hq ?h0 ?U ?hl) ?k7 ?k8 ?_; (case k1 => k_asm); (case k2 => k_asm); (case k3 => k_asm); (case k4 => k_asm); (case k5 => k_asm); (case k6 => first | exact rfl | assumption); (case C => assumption); (case hv => assumption); (case hg => assumption); (case hz => k_extra "my_sub"); (case hq => assumption); (case h0 => assumption); (case U => k_updF); (case hl => omega); (case k7 => ktr_room); (case k8 => ktr_units); intro r9 n9 h9 tk9 F9 N9 ho9; obtain ⟨tl9, _, hs9, ha9, hl9, h9'⟩ := ho9; (try dsimp only at N9); (try simp only [List.nil_append, List.cons_append, List.append_assoc] at N9); (try dsimp only); (try k_sweep); (try k_fold)))
  k_with "exec If" =>
    ((with_reducible show wpAny _ _ (exec (PySem.Stmt.If (PySem.Expr.BoolOp _ _ _) _ _ _) _) _ _ _); (rename Mine.FalseIf => hff); (rename Fr _ _ _ _ => lF'); (rename News _ _ _ _ => lN'); k_dflt (refine' Mine.if_false lF' lN' ?ht ?he); (case' he => intro h' tk' F' N'))
  k_with "MeetF" =>
    exact Mine.MeetF.mk (by k_asm) (by k_asm) (by k_extra "my_sub")
  k_with "callWith ref" =>
    (k_here; k_dflt (refine' PySem.W.callWith_F ?k1 ?_; (case k1 => exact PySem.W.FnAt.of (by k_asm) (by k_mem)); k_whole))
  k_with "And" =>
    ((with_reducible show PySem.W.FnAt _ _ ∧ _); k_dflt (refine ⟨PySem.W.FnAt.of (by k_asm) (by k_mem), ?_⟩; try dsimp only [List.nil_append, List.cons_append]))
  k_with "binaryOp Mult ref int" =>
    (k_here; (with_reducible show wpAny _ _ (binaryOp Operator.Mult (Value.ref _) (Value.int 3 _)) _ _ _); k_dflt (refine' PySem.W.KMa.mul (vs := [Value.none]) (ws := [Value.none, Value.none, Value.none]) ?mu1 ?mu2 ?mu3 (by decide) (by decide) (by decide) rfl ?mu5; (case mu1 => k_asm); (case mu2 => k_asm); (case mu3 => is_list); k_whole; intro D' h' F' N' l1; (try k_lt l1); (try k_sweep)))
  k_with "getMethod ref" =>
    (k_here; (with_reducible show wpAny _ _ (getMethod (Value.ref _) (PySem.Str.ofString "get") _) _ _ _); k_dflt (refine' Mine.get_meth ?k1 ?k2 ?k3 ?_; (case k1 => k_asm); (case k2 => k_mem); (case k3 => assumption); k_whole))
  k_with "setItem ref str" =>
    (k_here; k_dflt (refine' Mine.set_led ?ks1 ?ks2 ?ks3 ?ks4 ?ks5 ?_; (case ks1 => k_asm); (case ks2 => k_asm); (case ks3 => k_updF); (case ks4 => assumption); (case ks5 => omega); k_whole; intro h' o' F' N' hd'; (try dsimp only at N'); (try k_sweep)))
  k_with "compareOp NotEq ref ref" =>
    (k_here; first | k_dflt (refine' Mine.ne_nil_led ?k1 ?k2 ?k3 ?k5 ?k4 ?_; (case k1 => k_asm); (case k2 => k_mem); (case k3 => k_mem); (case k5 => assumption); (case k4 => ktr_units)) | refine Mine.Stop.out ?_)
  k_with "setAttr ref" =>
    (k_here; k_dflt (refine' PySem.W.set_dict ?k1 ?k2 ?k3 ?k4 ?k5 ?k6 ?k7 ?k8 ?k9 ?k10 ?k11 ?k12 ?k13 ?_; (case k1 => k_asm); (case k2 => k_asm); (case k3 => k_asm); (case k4 => k_inst); (case k5 => exact rfl); (case k6 => k_is); (case k7 => k_is); (case k8 => k_is); (case k9 => k_is); (case k10 => k_get); (case k11 => first | exact Mine.put_shared | exact Mine.put_attrs); (case k12 => k_upd); (case k13 => exact Nat.le_of_ble_eq_true rfl); k_whole; intro h' F' N'; (try k_sweep)))
  k_with "call ref" =>
    (k_here; (with_reducible show wpAny _ _ (call (Value.ref 113) _) _ _ _); (refine Mine.Stop.out ?_))
  k_with "call ref" =>
    (k_here; (with_reducible show wpAny _ _ (call (Value.ref 189) _) _ _ _); (with_reducible rename Mine.StopAt => hst'); (refine Mine.Stop.out ?_))
  k_with "exec For Tuple Call cons nil" =>
    (k_here; (rename Fr _ _ _ _ => lF'); (with_unfolding_all refine' For_turns lF' ?_; k_whole))
  k_with "exec For Tuple Subscript cons nil" =>
    (k_here; (rename Fr _ _ _ _ => lF'); (with_unfolding_all refine' For_turns lF' ?_; k_whole))
  k_with "setItem ref str ref" =>
    (k_here; k_dflt (refine' Mine.set_led ?ks1 ?ks2 ?ks3 ?ks4 ?ks5 ?_; (case ks1 => k_asm); (case ks2 => k_asm); (case ks3 => k_updF); (case ks4 => assumption); (case ks5 => omega); k_whole; intro h' o' F' N' hd'; (try dsimp only at N'); (try k_sweep)))
  k_with "call ref" =>
    (k_here; (with_reducible show wpAny _ _ (call (Value.ref 128) _) _ _ _); k_dflt (refine' Mine.Ctr.use ?k1 ?k2 ?k3 ?k4 ?k5 ?k6 (Mine.number_ctr ?kn1 ?kn2) ?k7 ?k8 ?_; (case k1 => k_asm); (case k2 => k_asm); (case k3 => k_asm); (case k4 => k_asm); (case k5 => k_asm); (case k6 => first | exact rfl | assumption); (case kn1 => omega); (case kn2 => omega); (case k7 => ktr_room); (case k8 => ktr_units); intro r9 n9 h9 tk9 F9 N9 ho9; obtain ⟨c9, tl9, _, hs9, ha9⟩ := ho9; (try dsimp only at N9); (try simp only [List.nil_append, List.cons_append, List.append_assoc] at N9); (try dsimp only); (try k_sweep); (try k_fold)))
  k_with "call ref" =>
    (k_here; (with_reducible show wpAny _ _ (call (Value.ref 135) _) _ _ _); k_dflt (refine' Mine.Ctr.use ?k1 ?k2 ?k3 ?k4 ?k5 ?k6 (Mine.callof_ctr ?kn1) ?k7 ?k8 ?_; (case k1 => k_asm); (case k2 => k_asm); (case k3 => k_asm); (case k4 => k_asm); (case k5 => k_asm); (case k6 => first | exact rfl | assumption); (case kn1 => k_mem); (case k7 => ktr_room); (case k8 => ktr_units); intro r9 n9 h9 tk9 F9 N9 ho9; obtain ⟨tl9, _, y9, hs9, hy9, ha9⟩ := ho9; (try dsimp only at N9); (try simp only [List.nil_append, List.cons_append, List.append_assoc] at N9); (try dsimp only); (try k_sweep); (try k_fold)))
  trivial
end Mine
namespace Mine
inductive NewSym (n : Str) (news : Led) : Value → Led → Prop
  | mk (x dx : Addr) {k : Nat} {h1 h2 h3 : Int} {t1 t2 t3 t4 t5 : Tok} (l1 : ∀ p ∈ news, p.1 < dx) (l2 : @LT.lt Nat _ dx x) :
    NewSym n news (.ref x) ((x, instObj 67 dx) :: (dx, dictOf [⟨h1, .str (Str.ofString "kind") t1, .str (Str.ofString "symbol") t4⟩, ⟨h2, .str (Str.ofString "name") t2, .str n t5⟩, ⟨h3, .str (Str.ofString "attrs") t3, .none⟩] k) :: news)
inductive NewCall (l g : Addr) (news : Led) : Value → Led → Prop
  | mk (x dx : Addr) {k : Nat} {h1 h2 h3 h4 h5 : Int} {t1 t2 t3 t4 t5 t6 : Tok} (l1 : ∀ p ∈ news, p.1 < dx) (l2 : @LT.lt Nat _ dx x) :
    NewCall l g news (.ref x) ((x, instObj 89 dx) :: (dx, dictOf [⟨h1, .str (Str.ofString "kind") t1, .str (Str.ofString "language") t6⟩, ⟨h2, .str (Str.ofString "items") t2, .ref l⟩, ⟨h3, .str (Str.ofString "tags") t3, .ref g⟩, ⟨h4, .str (Str.ofString "attrs") t4, .none⟩, ⟨h5, .str (Str.ofString "code") t5, .none⟩] k) :: news)
inductive NewVec (kd : Str) (l : Addr) (news : Led) : Value → Led → Prop
  | mk (x dx : Addr) {k : Nat} {h1 h2 h3 h4 h5 : Int} {t1 t2 t3 t4 t5 t6 : Tok} (l1 : ∀ p ∈ news, p.1 < dx) (l2 : @LT.lt Nat _ dx x) :
    NewVec kd l news (.ref x) ((x, instObj 46 dx) :: (dx, dictOf (vecEs h1 h2 h3 h4 h5 t1 t2 t3 t4 t5 t6 kd l .none false) k) :: news)
end Mine
namespace Mine
section
variable {w : World} {p : Program} {loose : List Str} {mean : ExcName → Option Value} {mg mb : Str → Option Value}
theorem sym_new {n : Str} {t : Tok} {news : Led} : Ctr w p loose mean mg mb 67 3 [.str n t] news (NewSym n news) := by
  unfold Ctr
  k_fill
  intro dp un gd cn cs a ccd cl outer A₀ base h₀ L m s Q E B F X N T hk hd hu hret
  refine' call_cls ?k1 ?k2 ?k3 ?k4 ?k5 ?k6 ?_
  (case k1 => k_asm); (case k2 => k_asm); (case k3 => k_asm); (case k4 => k_is); (case k5 => k_is); (case k6 => k_is)
  intro x1 d1 h' F' N' l1 l2
  have hn1 : ∀ p ∈ news, p.1 ≠ d1 := fun p hp => Nat.ne_of_lt (l1 p hp)
  have l2' := ltN l2
  k_dflt (walk_at "my_enter")
  k_steps
  exact hret _ _ _ _ (by k_asm) (by k_asm) (.mk _ _ l1 l2)
theorem call_new {l g : Addr} {news : Led} : Ctr w p loose mean mg mb 89 3 [.ref l, .ref g] news (NewCall l g news) := by
  unfold Ctr
  k_fill
  intro dp un gd cn cs a ccd cl outer A₀ base h₀ L m s Q E B F X N T hk hd hu hret
  refine' call_cls ?k1 ?k2 ?k3 ?k4 ?k5 ?k6 ?_
  (case k1 => k_asm); (case k2 => k_asm); (case k3 => k_asm); (case k4 => k_is); (case k5 => k_is); (case k6 => k_is)
  intro x1 d1 h' F' N' l1 l2
  have hn1 : ∀ p ∈ news, p.1 ≠ d1 := fun p hp => Nat.ne_of_lt (l1 p hp)
  have l2' := ltN l2
  k_dflt (walk_at "my_enter")
  k_steps
  exact hret _ _ _ _ (by k_asm) (by k_asm) (.mk _ _ l1 l2)
theorem vec_new {kd : Str} {t : Tok} {l : Addr} {news : Led} : Ctr w p loose mean mg mb 46 3 [.str kd t, .ref l] news (NewVec kd l news) := by
  unfold Ctr
  k_fill
  intro dp un gd cn cs a ccd cl outer A₀ base h₀ L m s Q E B F X N T hk hd hu hret
  refine' call_cls ?k1 ?k2 ?k3 ?k4 ?k5 ?k6 ?_
  (case k1 => k_asm); (case k2 => k_asm); (case k3 => k_asm); (case k4 => k_is); (case k5 => k_is); (case k6 => k_is)
  intro x1 d1 h' F' N' l1 l2
  have hn1 : ∀ p ∈ news, p.1 ≠ d1 := fun p hp => Nat.ne_of_lt (l1 p hp)
  have l2' := ltN l2
  k_dflt (walk_at "my_enter")
  k_steps
  exact hret _ _ _ _ (by k_asm) (by k_asm) (.mk _ _ l1 l2)
end
end Mine
namespace Mine
inductive TapR (lim i : Int) (l : Addr) (k' : Nat) (g : Obj → Led) : Value → Led → Prop
  | mk (v : Int) {t t' : Tok} (h0 : 0 ≤ v) (h1 : v < lim) : TapR lim i l k' g (.int v t) (g (listOf #[.int (i + 1) t', .ref l] k'))
theorem tap_ctr {w : World} {p : Program} {loose : List Str} {mean : ExcName → Option Value} {mg mb : Str → Option Value} {sp l : Addr} {i lim : Int} {ti tl : Tok} {k k' : Nat} {its : List Value} {ns : List Int} {news : Led} {g : Obj → Led}
    (U : UpdF sp (listOf #[.int i ti, .ref l] k') news g) (hm : (l, listOf its.toArray k) ∈ news) (hI : IntsAre its ns) (hlen : its.length ≤ 100) (hne : sp ≠ l) (h0 : 0 ≤ i) (hi : i < 1000000) (hl : 0 < lim) :
    Ctr w p loose mean mg mb 196 2 [.ref sp, .int lim tl] news
      (TapR lim i l k' g) := by
  obtain ⟨rest, hsub, hsub', hoff, hto, hfrom⟩ := upd_rest U
  have hm' := mem_rest (hfrom _ hm) hne
  unfold Ctr
  k_fill
  intro dp un gd cn cs a ccd cl outer A₀ base h₀ L m s Q E B F X N T hk hd hu hret
  replace N := nsub N hto
  clear hm U hto hfrom
  refine wpAny_call ?_
  k_dflt (walk_at "my_enter")
  k_steps
  · refine hret _ _ _ _ (by k_asm) (nsub (by k_asm) (hsub _)) (.mk _ ?_ ?_)
    · exact Int.fmod_nonneg_of_pos _ hl
    · exact Int.fmod_lt_of_pos _ hl
  · exact hret _ _ _ _ (by k_asm) (nsub (by k_asm) (hsub _)) (.mk _ (Int.le_refl _) hl)
end Mine
namespace Mine
inductive NameR (news : Led) (i : Int) (l : Addr) (k' : Nat) (g : Obj → Led) : Value → Led → Prop
  | mk (r : Value) (n : Str) {t' : Tok} (tl : Led) (hs : SymAt tl n r) (hg : Good n) (ha : Apart tl news) : NameR news i l k' g r (g (listOf #[.int (i + 1) t', .ref l] k') ++ tl)
section
theorem name_ctr {w : World} {p : Program} {loose : List Str} {mean : ExcName → Option Value} {mg mb : Str → Option Value} {sp l : Addr} {i : Int} {ti : Tok} {k k' : Nat} {its : List Value} {ns : List Int} {news : Led} {g : Obj → Led}
    (U : UpdF sp (listOf #[.int i ti, .ref l] k') news g) (hm : (l, listOf its.toArray k) ∈ news) (hI : IntsAre its ns) (hlen : its.length ≤ 100) (hne : sp ≠ l) (h0 : 0 ≤ i) (hi : i < 1000000) :
    Ctr w p loose mean mg mb 203 6 [.ref sp] news
      (NameR news i l k' g) := by
  obtain ⟨rest, hsub, hsub', hoff, hto, hfrom⟩ := upd_rest U
  have hm' := mem_rest (hfrom _ hm) hne
  unfold Ctr
  k_fill
  intro dp un gd cn cs a ccd cl outer A₀ base h₀ L m s Q E B F X N T hk hd hu hret
  replace N := nsub N hto
  clear hm U hto
  refine wpAny_call ?_
  k_dflt (walk_at "my_enter")
  k_steps
  refine hret _ _ _ _ (by k_asm) (nsub (by k_asm) (sub_appL (sub_trans (hsub _) (by walk_at "my_sub")) (by walk_at "my_sub"))) (.mk _ _ _ mk_sym (by assumption) ?_)
  refine Apart.sub (b := (sp, listOf #[.int i ti, .ref l] k') :: rest) ?_ hfrom
  walk_at "my_apart"
end
end Mine
namespace Mine
inductive TreeR (d : Nat) (news : Led) (i : Int) (l : Addr) (k' : Nat) (g : Obj → Led) : Value → Led → Prop
  | mk (r : Value) (t : Tr) (i' : Int) {t' : Tok} (tl : Led) (hs : TIn tl d t r) (hg : GoodT d t) (ha : Apart tl news) (lo : i ≤ i') (hi : i' ≤ i + Bd d) : TreeR d news i l k' g r (g (listOf #[.int i' t', .ref l] k') ++ tl)
def TreeC (w : World) (p : Program) (loose : List Str) (mean : ExcName → Option Value) (mg mb : Str → Option Value) (sp l : Addr) (k k' : Nat) (its : List Value) (d : Nat) : Prop :=
  ∀ {i dI : Int} {ti td : Tok} {news : Led} {g : Obj → Led} (_U : UpdF sp (listOf #[.int i ti, .ref l] k') news g) (_hm : (l, listOf its.toArray k) ∈ news) (_h0 : 0 ≤ i) (_hi : i + Bd d < 1000000) (_hd : dI = (d : Int)),
    Ctr w p loose mean mg mb 210 (8 * d + 8) [.ref sp, .int dI td] news
      (TreeR d news i l k' g)
theorem TreeC.use {w : World} {p : Program} {loose : List Str} {mean : ExcName → Option Value} {mg mb : Str → Option Value} {sp l : Addr} {k k' : Nat} {its : List Value} {d : Nat} (C : TreeC w p loose mean mg mb sp l k k' its d)
  {i dI : Int} {ti td : Tok} {news : Led} {g : Obj → Led} (U : UpdF sp (listOf #[.int i ti, .ref l] k') news g) (hm : (l, listOf its.toArray k) ∈ news) (h0 : 0 ≤ i) (hi : i + Bd d < 1000000) (hd : dI = (d : Int)) :
    Ctr w p loose mean mg mb 210 (8 * d + 8) [.ref sp, .int dI td] news
      (TreeR d news i l k' g) := C U hm h0 hi hd
end Mine

namespace Mine
/-- the two limits of the first draw of a tree, joined -/
def LimMark (d : Nat) (dI : Int) : Prop := dI = (d : Int)
def LimPost (d : Nat) (s : Shared) : Value → Shared → Prop := fun v s' => ∃ n t tk, v = .int n t ∧ ((n = 4 ∧ 0 < d) ∨ (n = 2 ∧ d = 0)) ∧ s' = { s with toks := tk }
theorem lim_join {prog : Program} {w : World} {A : Around} {e : PySem.Expr} {env : Env} {Q E : Value → Shared → Prop} {s : Shared} {d : Nat} {dI : Int} (_hm : LimMark d dI) (h1 : wpAny (model prog w) A (eval e env) (LimPost d s) E s)
    (h2 : ∀ (n : Int) (t : Tok) (tk : Nat), ((n = 4 ∧ 0 < d) ∨ (n = 2 ∧ d = 0)) → Q (.int n t) { s with toks := tk }) : wpAny (model prog w) A (eval e env) Q E s :=
  wpAny_mono h1 (by rintro v s' ⟨n, t, tk, rfl, h, rfl⟩; exact h2 n t tk h) fun _ _ h => h
end Mine
namespace Mine
inductive JTree (sp l a1 a2 : Addr) (k' : Nat) (dI : Int) (td : Tok) (rest : Led) (d : Nat) (i0 : Int) (j : Nat) : (Str → Option Value) → Led → Prop
  | mk (u : Str → Option Value) (vs gs : List Value) (ts : List Tr) (tags : List (Option Str)) (i' : Int) {t' k1 k2 : Nat} (tl : Led)
    (ap : Apart tl ((a1, listOf #[] 0) :: (a2, listOf #[] 0) :: (sp, listOf #[] 0) :: rest)) (lv : vs.length = j + 1) (lg : tags.length = j + 1) (lg' : gs.length = j + 1) (zt : Zip (TIn tl d) ts vs) (zg : Zip TagIs tags gs)
    (gd : ∀ t ∈ ts, GoodT d t) (lo : i0 + 3 ≤ i') (hi : i' ≤ i0 + 3 + (j : Int) * (Bd d + 1)) :
    JTree sp l a1 a2 k' dI td rest d i0 j (over [(Str.ofString "items", .ref a1), (Str.ofString "tags", .ref a2), (Str.ofString "spring", .ref sp), (Str.ofString "deep", .int dI td)] u)
      ((a2, listOf gs.toArray k2) :: (a1, listOf vs.toArray k1) :: (sp, listOf #[.int i' t', .ref l] k') :: (rest ++ tl))
theorem JTree.start {sp l a1 a2 : Addr} {k' : Nat} {dI : Int} {td : Tok} {rest : Led} {d : Nat} {i0 : Int} {m : Str → Option Value} {r0 g0 : Value} {t0 : Tr} {o0 : Option Str} {i' : Int} {t' k1 k2 : Nat} {tl : Led}
    (hm : Has m [(Str.ofString "items", .ref a1), (Str.ofString "tags", .ref a2), (Str.ofString "spring", .ref sp), (Str.ofString "deep", .int dI td)])
    (ap : Apart tl ((a1, listOf #[] 0) :: (a2, listOf #[] 0) :: (sp, listOf #[] 0) :: rest)) (zt : TIn tl d t0 r0) (zg : TagIs o0 g0) (gd : GoodT d t0) (lo : i0 + 3 = i') :
    JTree sp l a1 a2 k' dI td rest d i0 0 m ((a2, listOf #[g0] k2) :: (a1, listOf #[r0] k1) :: (sp, listOf #[.int i' t', .ref l] k') :: (rest ++ tl)) := by
  rw [over_self hm]
  exact .mk m [r0] [g0] [t0] [o0] i' tl ap rfl rfl rfl (Zip.snoc Zip.nil zt) (Zip.snoc Zip.nil zg) (fun t h => by rw [List.mem_singleton.mp h]; exact gd) (by omega) (by omega)
theorem JTree.step {sp l a1 a2 : Addr} {k' : Nat} {dI : Int} {td : Tok} {rest : Led} {d : Nat} {i0 : Int} {j : Nat} {vs gs : List Value} {ts : List Tr} {tags : List (Option Str)} {i' i1 : Int} {k1 k2 k1' k2' : Nat} {tl tl9 own : Led} {u9 : Tok}
    {h₀ : Heap} {L : Addr} {s₁ : Shared} {h' : Heap} {tk : Nat} {m' : Str → Option Value} {t' : Nat} {c : Tr} {g9 r9 : Value} {oi : Option Str} {o1 o2 o3 o4 : Obj} {b1 : Addr}
    (ap : Apart tl ((a1, listOf #[] 0) :: (a2, listOf #[] 0) :: (sp, listOf #[] 0) :: rest)) (lv : vs.length = j + 1) (lg : tags.length = j + 1) (lg' : gs.length = j + 1) (zt : Zip (TIn tl d) ts vs) (zg : Zip TagIs tags gs)
    (gd : ∀ t ∈ ts, GoodT d t) (lo : i0 + 3 ≤ i') (hi : i' ≤ i0 + 3 + (j : Int) * (Bd d + 1))
    (hoff : Apart own ((a2, listOf gs.toArray k2) :: (a1, listOf vs.toArray k1) :: (sp, listOf #[.int i' t', .ref l] k') :: (rest ++ tl)))
    (F : Fr h₀ L h' m') (N : News h₀ L h' ((b1, o1) :: (a2, listOf (gs.toArray.push g9) k2') :: (a1, listOf (vs.toArray.push r9) k1') :: (sp, listOf #[.int (i1 + 1) u9, .ref l] k') :: (rest ++ (tl ++ (own ++ tl9)))))
    (hm : Has m' [(Str.ofString "items", .ref a1), (Str.ofString "tags", .ref a2), (Str.ofString "spring", .ref sp), (Str.ofString "deep", .int dI td)])
    (hr : TIn tl9 d c r9) (hg : TagIs oi g9) (hc : GoodT d c) (ha : Apart tl9 ((a2, o2) :: (a1, o3) :: (sp, o4) :: (rest ++ (tl ++ own)))) (hi8 : i' ≤ i1) (hi9 : i1 ≤ i' + Bd d) :
    TbEnd h₀ L (JTree sp l a1 a2 k' dI td rest d i0 (j + 1)) own s₁ { s₁ with heap := h', toks := tk } := by
  have hP' : ((j + 1 : Nat) : Int) * (Bd d + 1) = (j : Int) * (Bd d + 1) + (Bd d + 1) := by rw [Int.natCast_succ, Int.add_mul, Int.one_mul]
  generalize hP : (j : Int) * (Bd d + 1) = P at *
  have W : JTree sp l a1 a2 k' dI td rest d i0 (j + 1) m' ((a2, listOf (gs ++ [g9]).toArray k2') :: (a1, listOf (vs ++ [r9]).toArray k1') :: (sp, listOf #[.int (i1 + 1) u9, .ref l] k') :: (rest ++ (tl ++ tl9))) := by
    rw [over_self hm]
    refine .mk m' (vs ++ [r9]) (gs ++ [g9]) (ts ++ [c]) (tags ++ [oi]) (i1 + 1) (tl ++ tl9) ?_ (by simp [lv]) (by simp [lg]) (by simp [lg']) ((zt.mono fun _ _ h => h.mono (sub_appR1 fun _ h => h)).snoc (hr.mono (sub_appR2 fun _ h => h))) (zg.snoc hg) ?_ (by omega) (by rw [hP']; omega)
    · exact Apart.append ap (Apart.consR (Apart.ne2 ha (.tail _ (.head _))) (Apart.consR (Apart.ne2 ha (.head _)) (Apart.consR (Apart.ne2 ha (.tail _ (.tail _ (.head _)))) (ha.sub fun p hp => .tail _ (.tail _ (.tail _ (List.mem_append.mpr (.inl hp))))))))
    · intro t ht
      rcases List.mem_append.mp ht with ht | ht
      · exact gd t ht
      · rw [List.mem_singleton.mp ht]; exact hc
  refine turn_end F N ?_ ?_ ?_ W
  · intro p hp
    simp only [List.push_toArray, List.mem_cons, List.mem_append] at hp ⊢
    rcases hp with h | h | h | h | h | h <;> simp only [h, true_or, or_true]
  · intro p hp
    simp only [List.mem_cons, List.mem_append]
    simp only [hp, true_or, or_true]
  · exact Apart.consR (Apart.ne2 hoff (.head _)) (Apart.consR (Apart.ne2 hoff (.tail _ (.head _))) (Apart.consR (Apart.ne2 hoff (.tail _ (.tail _ (.head _)))) (Apart.appR (hoff.sub fun p hp => .tail _ (.tail _ (.tail _ (List.mem_append.mpr (.inl hp))))) (Apart.appR (hoff.sub fun p hp => .tail _ (.tail _ (.tail _ (List.mem_append.mpr (.inr hp)))))
      (Apart.symm (ha.sub fun p hp => .tail _ (.tail _ (.tail _ (List.mem_append.mpr (.inr (List.mem_append.mpr (.inr hp))))))))))))
theorem Zip.one {α β : Type} {R : α → β → Prop} {a : α} {b : β} (h : R a b) : Zip R [a] [b] := Zip.snoc Zip.nil h
end Mine

namespace Mine
theorem two_tags {c : String} {t : Tok} : ∀ x ∈ [Value.none, Value.str (Str.ofString c) t], ∃ o, TagIs o x := fun x hx => by
  rcases List.mem_cons.mp hx with rfl | hx
  · exact ⟨none, rfl⟩
  · exact ⟨some (Str.ofString c), strOk_ofString c, t, List.mem_singleton.mp hx⟩
end Mine
namespace Mine
section
theorem tree_ctr {w : World} {p : Program} {loose : List Str} {mean : ExcName → Option Value} {mg mb : Str → Option Value} {sp l : Addr} {k k' : Nat} {its : List Value} {ns : List Int} (hI : IntsAre its ns) (hlen : its.length ≤ 100) (hne : sp ≠ l) :
    ∀ (d : Nat), TreeC w p loose mean mg mb sp l k k' its d := by
  have step : ∀ d : Nat, (∀ dq, d = dq + 1 → TreeC w p loose mean mg mb sp l k k' its dq) → TreeC w p loose mean mg mb sp l k k' its d := by
    intro d ih
    intro i dI ti td news g U hm h0 hi hdI
    obtain ⟨rest, hsub, hsub', hoff, hto, hfrom⟩ := upd_rest U
    have hm' := mem_rest (hfrom _ hm) hne
    have hmk : LimMark d dI := hdI
    unfold Ctr
    k_fill
    intro dp un gd cn cs a ccd cl outer A₀ base h₀ L m s Q E B F X N T hk hd hu hret
    replace N := nsub N hto
    clear hm U hto
    have hB' := Bd_pos d
    k_with "eval IfExp" =>
      (k_here; (with_reducible show wpAny _ _ (eval (PySem.Expr.IfExp _ _ _ _) _) _ _ _); (fail_if_success with_reducible show wpAny _ _ _ (Mine.LimPost _ _) _ _); k_dflt (refine' Mine.lim_join ?jm ?jp ?jc; (case jm => assumption); (case' jc => k_whole; intro nL tL tkL hL; (try dsimp only); have hL0 : 0 < nL := by omega)))
    refine wpAny_call ?_
    k_dflt (walk_at "my_enter")
    k_steps
    · refine hret _ _ _ _ (by k_asm) (nsub (by k_asm) (sub_appL (sub_trans (hsub _) (by walk_at "my_sub")) (by walk_at "my_sub"))) (.mk _ _ _ _ (TIn.mk_leaf (by walk_at "my_strok")) GoodT.mk_leaf ?_ ?_ ?_)
      · refine Apart.sub (b := (sp, listOf #[.int i ti, .ref l] k') :: rest) ?_ hfrom
        walk_at "my_apart"
      · omega
      · omega
    · (rename SymAt _ _ _ => hs9); (rename Good _ => hg9); (rename Apart _ _ => ha9)
      refine hret _ _ _ _ (by k_asm) (nsub (by k_asm) (sub_appL (sub_trans (hsub _) (by walk_at "my_sub")) (by walk_at "my_sub"))) (.mk _ (.sym _) _ _ (TIn.of_sym hs9) (GoodT.of_sym hg9) ?_ ?_ ?_)
      · exact Apart.sub (Apart.head ha9) hfrom
      · omega
      · omega
    · refine Stop.mk ?_
      rename_i kd _ _ kd0 kd1 _ _ _ _ ka _ kb _ _ _ _ _ _ a1 _ la1 _ _ a2 _ la2 _ _ _ _ _
      (rename SymAt _ _ _ => hs0); (rename Good _ => hg0); (rename Apart _ _ => ha0); (rename IsRange _ _ _ _ _ _ _ _ => rg); (rename News _ _ _ _ => N1); (rename Fr _ _ _ _ => F1)
      have hap0 : ∀ p ∈ rest ++ tl9, p.1 < a1 := lt_of_allLt la1.2
      have hap0' : ∀ p ∈ rest ++ tl9, p.1 < a2 := lt_of_allLt la2.2.2
      have hr1 : ∀ p ∈ rest, p.1 ≠ a1 := fun p hp => Nat.ne_of_lt (hap0 p (List.mem_append.mpr (.inl hp)))
      have hr2 : ∀ p ∈ rest, p.1 ≠ a2 := fun p hp => Nat.ne_of_lt (hap0' p (List.mem_append.mpr (.inl hp)))
      obtain ⟨dq, rfl⟩ : ∃ dq, d = dq + 1 := ⟨d - 1, by omega⟩
      have ih' : TreeC w p loose mean mg mb sp l k k' its dq := @ih dq rfl
      clear ih
      have kd4 : kd < 4 := by omega
      have hB := Bd_succ dq
      have hB2 := Bd_pos dq
      obtain ⟨n, hn⟩ : ∃ n : Nat, v9 + kd - 2 = (n : Int) := ⟨_, (Int.toNat_of_nonneg (by omega)).symm⟩
      refine rloop n (fun j m nx => JTree sp l a1 a2 k' dI td rest dq i j m nx) rfl rg hn (by omega) F1 N1 (.start (by walk_at "my_over") ?_ (TIn.of_sym hs0) tag_none (GoodT.of_sym hg0) (by omega)) ?_ ?_
      · exact Apart.consR (fun p hp => Nat.ne_of_lt (hap0 p (List.mem_append.mpr (.inr hp)))) (Apart.consR (fun p hp => Nat.ne_of_lt (hap0' p (List.mem_append.mpr (.inr hp)))) (Apart.head ha0))
      · rintro j tj m1 nx h2 tk2 own hj hoff ⟨u, vs, gs, ts, tags, i', tl, ap, lv, lg, lg', zt, zg, gd', lo, hi'⟩ F2 N2
        simp only [List.cons_append, List.append_assoc] at N2
        have hj3 : j ≤ 2 := by omega
        have hmul : (j : Int) * (Bd dq + 1) ≤ 2 * (Bd dq + 1) := Int.mul_le_mul_of_nonneg_right (by omega) (by omega)
        have hi3 : i' + Bd dq < 999999 := by omega
        clear hmul
        k_steps
        (rename TIn _ _ _ _ => hs1); (rename GoodT _ _ => hg1); (rename Apart _ _ => ha1); (rename TagIs _ _ => hy1)
        exact JTree.step ap lv lg lg' zt zg gd' lo hi' hoff (by k_asm) (by k_asm) (by walk_at "my_over") hs1 hy1 hg1 ha1 (by omega) (by omega)
      · rintro m1 nx h2 tk2 ⟨u, vs, gs, ts, tags, i', tl, ap, lv, lg, lg', zt, zg, gd', lo, hi'⟩ F2 N2
        have hapsp : Apart tl ((sp, listOf #[.int i ti, .ref l] k') :: rest) := Apart.head (ap.sub (sub_cons (sub_cons (fun _ h => h))))
        k_steps
        refine hret _ _ _ _ (by k_asm) (nsub (by k_asm) (sub_appL (sub_trans (hsub _) (by walk_at "my_sub")) (by walk_at "my_sub"))) (.mk _ _ _ _ (TIn.mk_call (by rw [zt.1, lv]; omega) (by rw [zt.1, lv, lg]) zg zt) gd' ?_ ?_ ?_)
        · refine Apart.sub (b := (sp, listOf #[.int i ti, .ref l] k') :: rest) ?_ hfrom
          walk_at "my_apart"
        · omega
        · have hmul : (n : Int) * (Bd dq + 1) ≤ 3 * (Bd dq + 1) := Int.mul_le_mul_of_nonneg_right (by omega) (by omega)
          omega
    · exact ⟨_, _, _, rfl, .inl ⟨rfl, by omega⟩, rfl⟩
    · exact ⟨_, _, _, rfl, .inr ⟨rfl, by omega⟩, rfl⟩
  intro d
  induction d with
  | zero => exact step 0 fun dq h => absurd h (by omega)
  | succ d ih =>
    refine step (d + 1) fun dq h => ?_
    obtain rfl : d = dq := by omega
    exact ih
end
end Mine
namespace Mine
def tagD : Option Str → PyData
  | none => .none
  | some c => .str c
theorem reads_all_tags {h : Heap} : ∀ {tags : List (Option Str)} {gs : List Value}, Zip TagIs tags gs → ReadsAll h gs (tags.map tagD) []
  | [], [], _ => .nil
  | [], _ :: _, z => by have := z.1; simp at this
  | _ :: _, [], z => by have := z.1; simp at this
  | o :: r, v :: q, z => by
    have z0 : TagIs o v := z.2 0 o v rfl rfl
    have zr : Zip TagIs r q := ⟨by have := z.1; simpa using this, fun i a b ha hb => z.2 (i + 1) a b (by simpa using ha) (by simpa using hb)⟩
    have hv : Reads h v (tagD o) [] := by
      cases o with
      | none => cases z0; exact .none
      | some c => obtain ⟨_, t, rfl⟩ := z0; exact .str c t
    exact ReadsAll.cons (as := []) (bs := []) hv (reads_all_tags zr)
theorem tags_can : ∀ {tags : List (Option Str)} {gs : List Value}, Zip TagIs tags gs → PyData.canLayAll0 (tags.map tagD) = true
  | [], _, _ => rfl
  | _ :: _, [], z => by have := z.1; simp at this
  | o :: r, v :: q, z => by
    have z0 : TagIs o v := z.2 0 o v rfl rfl
    have zr : Zip TagIs r q := ⟨by have := z.1; simpa using this, fun i a b ha hb => z.2 (i + 1) a b (by simpa using ha) (by simpa using hb)⟩
    have ih := tags_can zr
    cases o with
    | none => simp [PyData.canLayAll0, tagD, PyData.canLay0, ih]
    | some c => simp [PyData.canLayAll0, tagD, PyData.canLay0, ih, z0.1]
theorem tags_depth : ∀ tags : List (Option Str), PyData.depthAll (tags.map tagD) = 0
  | [] => rfl
  | none :: r => by simp [PyData.depthAll, tagD, PyData.depth, tags_depth r]
  | some c :: r => by simp [PyData.depthAll, tagD, PyData.depth, tags_depth r]
theorem tags_shaped {tags : List (Option Str)} {gs : List Value} (z : Zip TagIs tags gs) : SeqAt.shaped (.list (tags.map tagD)) = true := by
  simp [SeqAt.shaped, PyData.canLay0, PyData.depth, tags_can z, tags_depth]
section
variable {prog : Program} {w : World} {A : Around} {E : Value → Shared → Prop} {s : Shared} {h₀ : Heap} {L : Addr} {news : Led} {Q : Value → Shared → Prop}
theorem eq_self_data {a b : Value} {D : PyData} {as bs : List Addr} (ha : Reads s.heap a D as) (hb : Reads s.heap b D bs) (hs : SeqAt.shaped D = true) (hu : A.units + 64 < cLine) (h : Q (.bool true) s) :
    wpAny (model prog w) A (compareOp .Eq a b) Q E s :=
  eq_dataH ha hb hs hs hu (by rw [PySem.SeqAt.eqv_refl _ (PySem.SeqAt.canLay_of_shaped hs)]; exact h)
theorem eq_tags {a b : Addr} {tags : List (Option Str)} {gs gs' : List Value} {k k' : Nat} (N : News h₀ L s.heap news) (ha : (a, listOf gs.toArray k) ∈ news) (hb : (b, listOf gs'.toArray k') ∈ news) (za : Zip TagIs tags gs) (zb : Zip TagIs tags gs')
    (hu : A.units + 64 < cLine) (h : Q (.bool true) s) : wpAny (model prog w) A (compareOp .Eq (.ref a) (.ref b)) Q E s :=
  eq_self_data (reads_list_at (N _ ha).1 rfl rfl (reads_all_tags za)) (reads_list_at (N _ hb).1 rfl rfl (reads_all_tags zb)) (tags_shaped za) hu h
/-- the list at l reads as the datum D -/
def ListReads (news : Led) (l : Addr) (D : PyData) : Prop := ∀ (h₀ h : Heap) (L : Addr), News h₀ L h news → ∃ as, Reads h (.ref l) D as
theorem eq_vec {a b : Addr} {D : PyData} (ra : ListReads news a D) (rb : ListReads news b D) (hs : SeqAt.shaped D = true) {news' : Led} (N : News h₀ L s.heap news') (sub : ∀ p ∈ news, p ∈ news')
    (hu : A.units + 64 < cLine) (h : Q (.bool true) s) : wpAny (model prog w) A (compareOp .Eq (.ref a) (.ref b)) Q E s := by
  obtain ⟨_, ha⟩ := ra _ _ _ (nsub N sub)
  obtain ⟨_, hb⟩ := rb _ _ _ (nsub N sub)
  exact eq_self_data ha hb hs hu h
end
def LeqC (w : World) (p : Program) (loose : List Str) (mean : ExcName → Option Value) (mg mb : Str → Option Value) (d : Nat) : Prop :=
  ∀ {t : Tr} {u v : Value} {Z news : Led} (_hu : TIn Z d t u) (_hv : TIn Z d t v) (_hz : ∀ p ∈ Z, p ∈ news), Ctr w p loose mean mg mb 163 (8 * d + 24) [u, v] news (fun r news' => r = .bool true ∧ news' = news)
theorem LeqC.use {w : World} {p : Program} {loose : List Str} {mean : ExcName → Option Value} {mg mb : Str → Option Value} {d : Nat} (C : LeqC w p loose mean mg mb d) {t : Tr} {u v : Value} {Z news : Led} (hu : TIn Z d t u) (hv : TIn Z d t v) (hz : ∀ p ∈ Z, p ∈ news) :
    Ctr w p loose mean mg mb 163 (8 * d + 24) [u, v] news (fun r news' => r = .bool true ∧ news' = news) := C hu hv hz
theorem LeqC.use2 {w : World} {p : Program} {loose : List Str} {mean : ExcName → Option Value} {mg mb : Str → Option Value} {d : Nat} (C : LeqC w p loose mean mg mb d) {t : Tr} {u v : Value} {Z Z' news : Led} (hu : TIn Z d t u) (hz : ∀ p ∈ Z, p ∈ news) (hv : TIn Z' d t v) (hz' : ∀ p ∈ Z', p ∈ news) :
    Ctr w p loose mean mg mb 163 (8 * d + 24) [u, v] news (fun r news' => r = .bool true ∧ news' = news) := C (hu.mono hz) (hv.mono hz') fun _ h => h
/-- a leaf or a number, with what it holds -/
inductive VecD (Z : Led) (kd : Str) (D : PyData) : Value → Prop
  | mk (x l : Addr) {dx : Addr} {k : Nat} {b : Bool} {h1 h2 h3 h4 h5 : Int} {t1 t2 t3 t4 t5 t6 : Tok} (hx : (x, instObj 46 dx) ∈ Z)
    (hdx : (dx, dictOf (vecEs h1 h2 h3 h4 h5 t1 t2 t3 t4 t5 t6 kd l .none b) k) ∈ Z) (hr : ListReads Z l D) : VecD Z kd D (.ref x)
theorem LeafAt.vecD {b : Bool} {Z : Led} {c : Str} {v : Value} (h : LeafAt b Z c v) : VecD Z (Str.ofString "character") (.list [.str c]) v := by
  cases h with
  | mk x ok a b c => exact .mk x _ a b fun h₀ h L N => ⟨_, reads_list_at (N _ c).1 rfl rfl (.cons (.str _ _) .nil)⟩
theorem NumAt.vecD {Z : Led} {c : Int} {v : Value} (h : NumAt Z c v) : VecD Z (Str.ofString "double") (.list [.tuple [.int c, .int 1]]) v := by
  cases h with
  | mk x a b c d => exact .mk x _ a b fun h₀ h L N => ⟨_, reads_list_at (N _ c).1 rfl rfl (.cons (reads_tuple_at (N _ d).1 rfl rfl (.cons (.int _ _) (.cons (.int 1 _) .nil))) .nil)⟩
theorem LeafAt.ok {b : Bool} {Z : Led} {c : Str} {v : Value} (h : LeafAt b Z c v) : PyData.strOk c = true := by
  cases h with
  | mk x ok a b c => exact ok
end Mine
namespace Mine
section
variable {w : World} {p : Program} {loose : List Str} {mean : ExcName → Option Value} {mg mb : Str → Option Value}
theorem leq_sym {n : Str} {u v : Value} {news : Led} (hu : SymAt news n u) (hv : SymAt news n v) : Ctr w p loose mean mg mb 163 24 [u, v] news (fun r news' => r = .bool true ∧ news' = news) := by
  obtain ⟨x, hx, hdx⟩ := hu
  obtain ⟨y, hy, hdy⟩ := hv
  unfold Ctr
  k_fill
  intro dp un gd cn cs a ccd cl outer A₀ base h₀ L m s Q E B F X N T hk hd hu hret
  refine wpAny_call ?_
  k_dflt (walk_at "my_enter")
  k_steps
  exact hret _ _ _ _ (by k_asm) (by k_asm) ⟨by simp, rfl⟩
theorem leq_vec {kd : Str} {D : PyData} {u v : Value} {news : Led} (hu : VecD news kd D u) (hv : VecD news kd D v) (hD : SeqAt.shaped D = true) (h1 : kd ≠ Str.ofString "symbol") (h2 : kd ≠ Str.ofString "NULL") (h3 : kd ≠ Str.ofString "missing") (h4 : kd ≠ Str.ofString "language")
    (hany : ([Str.ofString "list", Str.ofString "expression", Str.ofString "pairlist"].any fun x => x == kd) = false) : Ctr w p loose mean mg mb 163 24 [u, v] news (fun r news' => r = .bool true ∧ news' = news) := by
  obtain ⟨x, l, hx, hdx, hl⟩ := hu
  obtain ⟨y, ly, hy, hdy, hly⟩ := hv
  unfold Ctr
  k_fill
  intro dp un gd cn cs a ccd cl outer A₀ base h₀ L m s Q E B F X N T hk hd hu hret
  refine wpAny_call ?_
  k_dflt (walk_at "my_enter")
  k_steps
  · exfalso; simp_all
  · exact hret _ _ _ _ (by k_asm) (nsub (by k_asm) (by walk_at "my_sub")) ⟨rfl, rfl⟩
theorem leq_leaf {b b' : Bool} {c : Str} {u v : Value} {news : Led} (hu : LeafAt b news c u) (hv : LeafAt b' news c v) : Ctr w p loose mean mg mb 163 24 [u, v] news (fun r news' => r = .bool true ∧ news' = news) :=
  leq_vec hu.vecD hv.vecD (by simp [SeqAt.shaped, PyData.canLay0, PyData.canLayAll0, PyData.depth, PyData.depthAll, hu.ok]) (by decide +kernel) (by decide +kernel) (by decide +kernel) (by decide +kernel) (by decide +kernel)
theorem leq_num {c : Int} {u v : Value} {news : Led} (hu : NumAt news c u) (hv : NumAt news c v) : Ctr w p loose mean mg mb 163 24 [u, v] news (fun r news' => r = .bool true ∧ news' = news) :=
  leq_vec hu.vecD hv.vecD (by simp [SeqAt.shaped, PyData.canLay0, PyData.canLayAll0, PyData.depth, PyData.depthAll]) (by decide +kernel) (by decide +kernel) (by decide +kernel) (by decide +kernel) (by decide +kernel)
end
theorem leq_ctr {w : World} {p : Program} {loose : List Str} {mean : ExcName → Option Value} {mg mb : Str → Option Value} : ∀ d : Nat, LeqC w p loose mean mg mb d := by
  intro d
  induction d with
  | zero =>
    intro t u v Z news hu hv hz
    cases t with
    | sym n => rw [TIn_sym] at hu hv; exact (leq_sym (hu.mono hz) (hv.mono hz)).le (by omega)
    | leaf c => rw [TIn_leaf] at hu hv; obtain ⟨b, hu⟩ := hu; obtain ⟨b', hv⟩ := hv; exact (leq_leaf (hu.mono hz) (hv.mono hz)).le (by omega)
    | num c => rw [TIn_num] at hu hv; exact (leq_num (hu.mono hz) (hv.mono hz)).le (by omega)
    | call ts tags => exact hu.elim
  | succ d ih =>
    intro t u v Z news hu hv hz
    cases t with
    | sym n => rw [TIn_sym] at hu hv; exact (leq_sym (hu.mono hz) (hv.mono hz)).le (by omega)
    | leaf c => rw [TIn_leaf] at hu hv; obtain ⟨b, hu⟩ := hu; obtain ⟨b', hv⟩ := hv; exact (leq_leaf (hu.mono hz) (hv.mono hz)).le (by omega)
    | num c => rw [TIn_num] at hu hv; exact (leq_num (hu.mono hz) (hv.mono hz)).le (by omega)
    | call ts tags =>
      rw [TIn_call] at hu hv
      obtain ⟨vs, gs, hc, lt20, ltg, zg, zt⟩ := hu
      obtain ⟨vs', gs', hc', _, _, zg', zt'⟩ := hv
      obtain ⟨x, l, g, hx, hdx, hl, hg⟩ := hc.mono hz
      obtain ⟨y, ly, gy, hy, hdy, hly, hgy⟩ := hc'.mono hz
      have lv : vs.length = ts.length := zt.1.symm
      have lv' : vs'.length = ts.length := zt'.1.symm
      clear hc hc'
      unfold Ctr
      k_fill
      intro dp un gd cn cs a ccd cl outer A₀ base h₀ L m s Q E B F X N T hk hd hu hret
      refine wpAny_call ?_
      k_dflt (walk_at "my_enter")
      k_steps
      · exfalso; omega
      · refine Stop.mk ?_
        (rename IsRange _ _ _ _ _ _ _ _ => rg); (rename News _ _ _ _ => N1); (rename Fr _ _ _ _ => F1)
        refine rloop vs.length (fun _ m nx => (∃ u, m = over [(Str.ofString "first", .ref l), (Str.ofString "second", .ref ly)] u) ∧ nx = news) rfl rg rfl (by omega) F1 N1 ⟨⟨_, over_self (by walk_at "my_over")⟩, rfl⟩ ?_ ?_
        · rintro j tj m1 nx h2 tk2 own hj hoff ⟨⟨u, rfl⟩, rfl⟩ F2 N2
          obtain ⟨a1, b1, ea, eb, hz1⟩ := zt.at hj
          obtain ⟨a2, b2, ea', eb', hz2⟩ := zt'.at (i := j) (by omega)
          obtain rfl : a1 = a2 := Option.some.inj (ea.symm.trans ea')
          have eb1 : vs[((j : Nat) : Int).toNat]? = some b1 := eb
          have eb2 : vs'[((j : Nat) : Int).toNat]? = some b2 := eb'
          k_steps
          exact turn_end (by k_asm) (by k_asm) (by walk_at "my_sub") (by walk_at "my_sub") hoff ⟨⟨_, over_self (by walk_at "my_over")⟩, rfl⟩
        · rintro m1 nx h2 tk2 ⟨⟨u, rfl⟩, rfl⟩ F2 N2
          k_steps
          exact hret _ _ _ _ (by k_asm) (by k_asm) ⟨rfl, rfl⟩
end Mine
namespace Mine
open PyProof.Rows.LCg in
theorem comp_inv {prog : Program} {w : World} {A : Around} {h₀ : Heap} {L : Addr} {m : Str → Option Value} {env : Env} {elt : PySem.Expr} {x : Str} {scope : Scope} {cl : List (Str × Addr)} {s : Shared} {S : Led → Prop} {P : Nat → Value → Prop} {Fin : List Value → Led → Prop} {n : Nat} {news : Led}
    (J : Nat → List Value → Led → Prop) (hj : J 0 [] news)
    (turn : ∀ (i : Nat) v ys nw I oI C oC D m₂ h tk (E' : Value → Shared → Prop), i < n → P i v → J i ys nw → NsObj oC m₂ → m₂ x = some v → Fr h₀ L h m → News h₀ L h ((I, oI) :: (C, oC) :: (D, lst ys) :: nw) → (∀ p ∈ nw, p.1 ≠ I ∧ p.1 ≠ C ∧ p.1 ≠ D) → (@Ne Nat I C) → (@Ne Nat I D) → (@Ne Nat C D) →
      wpAny (model prog w) A (eval elt (compEnvC scope cl C env)) (CompEnd h₀ L m { s with heap := h, toks := tk } I oI C oC D (lst ys) S (fun y nw' => J (i + 1) (ys ++ [y]) nw')) E' { s with heap := h, toks := tk })
    (fin : ∀ ys nw, J n ys nw → Fin ys nw) : CompRest prog w A h₀ L m env elt x scope cl s S P Fin n 0 [] news := by
  have key : ∀ (j i : Nat) (ys : List Value) (nw : Led), i + j = n → J i ys nw → CompRest prog w A h₀ L m env elt x scope cl s S P Fin j i ys nw := by
    intro j
    induction j with
    | zero =>
      intro i ys nw hi hJ
      obtain rfl : i = n := by omega
      exact CompRest.zero (fin ys nw hJ)
    | succ j ih =>
      intro i ys nw hi hJ
      refine CompRest.succ ?_
      intro v I oI C oC D m₂ h tk E' hv hC hx F N off ne
      refine wpAny_mono (turn i v ys nw I oI C oC D m₂ h tk E' (by omega) hv hJ hC hx F N off.mem ne.1 ne.2.1 ne.2.2) (fun y s₂ hq => ?_) fun _ _ e => e
      obtain ⟨h', tk', nw', e, F', N', off', hS, hJ'⟩ := hq
      exact ⟨h', tk', nw', e, F', N', off', hS, ih (i + 1) _ _ (by omega) hJ'⟩
  exact key n 0 [] news (by omega) hj
theorem comp_end {h₀ : Heap} {L I C D : Addr} {m : Str → Option Value} {s₁ : Shared} {oI oC oD : Obj} {S : Led → Prop} {rest : Value → Led → Prop} {y : Value} {h' : Heap} {tk : Nat} {all : Led} (nw : Led)
    (F : Fr h₀ L h' m) (N : News h₀ L h' all) (sub : ∀ p ∈ (I, oI) :: (C, oC) :: (D, oD) :: nw, p ∈ all) (oi : ∀ p ∈ nw, p.1 ≠ I) (oc : ∀ p ∈ nw, p.1 ≠ C) (od : ∀ p ∈ nw, p.1 ≠ D) (hS : S nw) (r : rest y nw) :
    LCg.CompEnd h₀ L m s₁ I oI C oC D oD S rest y { s₁ with heap := h', toks := tk } := LCg.CompEnd.intro F N nw sub (LCg.Off3.of fun p hp => ⟨oi p hp, oc p hp, od p hp⟩) hS r
theorem list_led {prog : Program} {w : World} {A : Around} {E : Value → Shared → Prop} {s : Shared} {h₀ : Heap} {L l : Addr} {m : Str → Option Value} {news : Led} {its : List Value} {n : Nat} {Q : Value → Shared → Prop} (F : Fr h₀ L s.heap m) (N : News h₀ L s.heap news) (hm : (l, listOf its.toArray n) ∈ news) (hsz : its.length ≤ 1000)
    (h : ∀ D c h', Fr h₀ L h' m → News h₀ L h' ((D, listOf its.toArray c) :: news) → (∀ q ∈ news, q.1 < D) → Q (.ref D) { s with heap := h' }) :
    wpAny (model prog w) A (call (.type "list") [.ref l]) Q E s := list_copyK F N ⟨_, (N _ hm).1, rfl, n, rfl⟩ h (by rw [List.size_toArray, sizeLine_eq]; omega)
def AgainC (f : Addr) (tr : Tr → Tr) (e : Nat) (w : World) (p : Program) (loose : List Str) (mean : ExcName → Option Value) (mg mb : Str → Option Value) (d : Nat) : Prop :=
  ∀ {t : Tr} {v : Value} {Z news : Led} (_hv : TIn Z d t v) (_hz : ∀ p ∈ Z, p ∈ news), Ctr w p loose mean mg mb f (8 * d + 24) [v] news (fun r news' => ∃ tl, TIn (Z ++ tl) (d + e) (tr t) r ∧ Apart tl news ∧ news' = news ++ tl)
theorem AgainC.use {f : Addr} {tr : Tr → Tr} {e : Nat} {w : World} {p : Program} {loose : List Str} {mean : ExcName → Option Value} {mg mb : Str → Option Value} {d : Nat} (C : AgainC f tr e w p loose mean mg mb d) {t : Tr} {v : Value} {Z news : Led} (hv : TIn Z d t v) (hz : ∀ p ∈ Z, p ∈ news) :
    Ctr w p loose mean mg mb f (8 * d + 24) [v] news (fun r news' => ∃ tl, TIn (Z ++ tl) (d + e) (tr t) r ∧ Apart tl news ∧ news' = news ++ tl) := C hv hz
end Mine
namespace Mine
section
variable {w : World} {p : Program} {loose : List Str} {mean : ExcName → Option Value} {mg mb : Str → Option Value}
theorem again_sym {n : Str} {v : Value} {news : Led} (hu : SymAt news n v) : Ctr w p loose mean mg mb 220 24 [v] news (fun r news' => ∃ tl, SymAt tl n r ∧ Apart tl news ∧ news' = news ++ tl) := by
  obtain ⟨x, hx, hdx⟩ := hu
  unfold Ctr
  k_fill
  intro dp un gd cn cs a ccd cl outer A₀ base h₀ L m s Q E B F X N T hk hd hu hret
  refine wpAny_call ?_
  k_dflt (walk_at "my_enter")
  k_steps
  refine hret _ _ _ _ (by k_asm) (nsub (by k_asm) (by walk_at "my_sub")) ⟨_, mk_sym, ?_, rfl⟩
  walk_at "my_apart"
theorem again_vec {kd : Str} {v : Value} {news : Led} (hu : VecAt news kd v) : Ctr w p loose mean mg mb 220 24 [v] news (fun r news' => r = v ∧ news' = news) := by
  obtain ⟨x, hx, hdx⟩ := hu
  unfold Ctr
  k_fill
  intro dp un gd cn cs a ccd cl outer A₀ base h₀ L m s Q E B F X N T hk hd hu hret
  refine wpAny_call ?_
  k_dflt (walk_at "my_enter")
  k_steps
  exact hret _ _ _ _ (by k_asm) (nsub (by k_asm) (by walk_at "my_sub")) ⟨rfl, rfl⟩
theorem again_atom {d : Nat} {t : Tr} {v : Value} {Z news : Led} (hv : TIn Z d t v) (hz : ∀ p ∈ Z, p ∈ news) (hc : ∀ ts tags, t ≠ .call ts tags) :
    Ctr w p loose mean mg mb 220 24 [v] news (fun r news' => ∃ tl, TIn (Z ++ tl) (d + 0) (id t) r ∧ Apart tl news ∧ news' = news ++ tl) := by
  rcases TIn_atom hv hc with ⟨n, rfl, h⟩ | ⟨kd, h, _, _, _, k⟩
  · exact (again_sym (h.mono hz)).wk fun r news' ⟨tl, h1, h2, h3⟩ => ⟨tl, TIn.of_sym (h1.mono (sub_appR2 fun _ h => h)), h2, h3⟩
  · exact (again_vec (h.mono hz)).wk fun r news' ⟨h1, h2⟩ => ⟨[], h1 ▸ k _ (sub_appR1 fun _ h => h) _, Apart.nil, by rw [h2, List.append_nil]⟩
end
end Mine
namespace Mine
theorem again_ctr {w : World} {p : Program} {loose : List Str} {mean : ExcName → Option Value} {mg mb : Str → Option Value} : ∀ d : Nat, AgainC 220 id 0 w p loose mean mg mb d := by
  intro d
  induction d with
  | zero =>
    intro t v Z news hv hz
    cases t with
    | call ts tags => exact hv.elim
    | _ => exact again_atom hv hz nofun
  | succ d ih =>
    intro t v Z news hv hz
    cases t with
    | sym _ => exact (again_atom hv hz nofun).le (by omega)
    | leaf _ => exact (again_atom hv hz nofun).le (by omega)
    | num _ => exact (again_atom hv hz nofun).le (by omega)
    | call ts tags =>
      rw [TIn_call] at hv
      obtain ⟨vs, gs, hc, lt20, ltg, zg, zt⟩ := hv
      obtain ⟨x, l, g, hx, hdx, hl, hg⟩ := hc.mono hz
      have lv : vs.length = ts.length := zt.1.symm
      have lg : gs.length = ts.length := zg.1.symm.trans ltg.symm
      clear hc
      unfold Ctr
      k_fill
      intro dp un gd cn cs a ccd cl outer A₀ base h₀ L m s Q E B F X N T hk hd hu hret
      refine wpAny_call ?_
      k_dflt (walk_at "my_enter")
      k_steps
      refine Stop.mk ?_
      refine comp_inv (fun i ys nw => ∃ tl, nw = news ++ tl ∧ Apart tl news ∧ Zip (fun t v => TIn (Z ++ tl) (d + 0) (id t) v) (ts.take i) ys) ⟨[], (List.append_nil _).symm, Apart.nil, by simpa using Zip.nil⟩ ?_ ?_
      · rintro i v ys nw I oI C oC D m₂ h2 tk2 E' hi hP ⟨tl, rfl, ha, hzp⟩ hC hx2 F2 N2 off hIC hID hCD
        have hi' : i < vs.length := by simpa using hi
        obtain ⟨t, v', et, ev, hz1⟩ := zt.at hi'
        obtain rfl : v' = v := by
          have hP' : vs[i]? = some v := by simpa using hP
          exact Option.some.inj (ev.symm.trans hP')
        k_steps
        refine comp_end (news ++ (tl ++ tl9)) (by k_asm) N9 (by walk_at "my_sub") ?_ ?_ ?_ (.inr ⟨_, List.mem_append.mpr (.inl hl), rfl, _, rfl⟩) ⟨tl ++ tl9, rfl, ?_, ?_⟩
        · exact ne_append (fun p hp => (off p (List.mem_append.mpr (.inl hp))).1) (ne_append (fun p hp => (off p (List.mem_append.mpr (.inr hp))).1) (Apart.ne2 ha9 (.head _)))
        · exact ne_append (fun p hp => (off p (List.mem_append.mpr (.inl hp))).2.1) (ne_append (fun p hp => (off p (List.mem_append.mpr (.inr hp))).2.1) (Apart.ne2 ha9 (.tail _ (.head _))))
        · exact ne_append (fun p hp => (off p (List.mem_append.mpr (.inl hp))).2.2) (ne_append (fun p hp => (off p (List.mem_append.mpr (.inr hp))).2.2) (Apart.ne2 ha9 (.tail _ (.tail _ (.head _)))))
        · exact Apart.append ha (ha9.sub (by walk_at "my_sub"))
        · have hz' := (hzp.mono fun _ _ h => TIn.mono (Z' := Z ++ (tl ++ tl9)) (by walk_at "my_sub") h).snoc (TIn.mono (Z' := Z ++ (tl ++ tl9)) (by walk_at "my_sub") hs9)
          rwa [show ts.take (i + 1) = ts.take i ++ [t] by rw [List.take_add_one, et]; rfl]
      · rintro ys nw ⟨tl, rfl, ha, hzp⟩
        have hts : ts.take vs.toArray.size = ts := List.take_of_length_le (by simp [lv])
        rw [hts] at hzp
        have ly : ys.length = ts.length := hzp.1.symm
        k_steps
        refine hret _ _ _ _ (by k_asm) (nsub (by k_asm) (by walk_at "my_sub")) ⟨_, TIn.mk_call2 (by omega) ltg zg (hzp.mono fun _ _ h => h), ?_, rfl⟩
        walk_at "my_apart"
end Mine
namespace Mine
section
variable {w : World} {p : Program} {loose : List Str} {mean : ExcName → Option Value} {mg mb : Str → Option Value}
theorem holed_sym' {d : Nat} {n : Str} {v : Value} {news : Led} (hu : SymAt news n v) : Ctr w p loose mean mg mb 215 24 [v] news (fun r news' => ∃ tl, TIn tl (d + 1) (.call [.sym (Str.ofString "."), .sym n] [none, none]) r ∧ Apart tl news ∧ news' = news ++ tl) := by
  obtain ⟨x, hx, hdx⟩ := hu
  unfold Ctr
  k_fill
  intro dp un gd cn cs a ccd cl outer A₀ base h₀ L m s Q E B F X N T hk hd hu hret
  refine wpAny_call ?_
  k_dflt (walk_at "my_enter")
  k_steps
  refine hret _ _ _ _ (by k_asm) (nsub (by k_asm) (by walk_at "my_sub")) ⟨_, mk_hole, ?_, rfl⟩
  walk_at "my_apart"
theorem holed_vec {kd : Str} {v : Value} {news : Led} (hu : VecAt news kd v) : Ctr w p loose mean mg mb 215 24 [v] news (fun r news' => r = v ∧ news' = news) := by
  obtain ⟨x, hx, hdx⟩ := hu
  unfold Ctr
  k_fill
  intro dp un gd cn cs a ccd cl outer A₀ base h₀ L m s Q E B F X N T hk hd hu hret
  refine wpAny_call ?_
  k_dflt (walk_at "my_enter")
  k_steps
  exact hret _ _ _ _ (by k_asm) (nsub (by k_asm) (by walk_at "my_sub")) ⟨rfl, rfl⟩
theorem holed_atom {d : Nat} {t : Tr} {v : Value} {Z news : Led} (hv : TIn Z d t v) (hz : ∀ p ∈ Z, p ∈ news) (hc : ∀ ts tags, t ≠ .call ts tags) :
    Ctr w p loose mean mg mb 215 24 [v] news (fun r news' => ∃ tl, TIn (Z ++ tl) (d + 1) (holed d t) r ∧ Apart tl news ∧ news' = news ++ tl) := by
  rcases TIn_atom hv hc with ⟨n, rfl, h⟩ | ⟨kd, h, _, _, hs, k⟩
  · exact (holed_sym' (d := d) (h.mono hz)).wk fun r news' ⟨tl, h1, h2, h3⟩ => ⟨tl, by rw [holed_sym]; exact h1.mono (sub_appR2 fun _ h => h), h2, h3⟩
  · refine (holed_vec (h.mono hz)).wk fun r news' ⟨h1, h2⟩ => ⟨[], ?_, Apart.nil, by rw [h2, List.append_nil]⟩
    cases t with
    | sym n => exact absurd rfl (hs n)
    | leaf c => rw [h1, holed_leaf]; exact k _ (sub_appR1 fun _ h => h) _
    | num c => rw [h1, holed_num]; exact k _ (sub_appR1 fun _ h => h) _
    | call ts tags => exact absurd rfl (hc ts tags)
end
end Mine
namespace Mine
theorem holed_ctr {w : World} {p : Program} {loose : List Str} {mean : ExcName → Option Value} {mg mb : Str → Option Value} : ∀ d : Nat, AgainC 215 (holed d) 1 w p loose mean mg mb d := by
  intro d
  induction d with
  | zero =>
    intro t v Z news hv hz
    cases t with
    | call ts tags => exact hv.elim
    | _ => exact holed_atom hv hz nofun
  | succ d ih =>
    intro t v Z news hv hz
    cases t with
    | sym _ => exact (holed_atom hv hz nofun).le (by omega)
    | leaf _ => exact (holed_atom hv hz nofun).le (by omega)
    | num _ => exact (holed_atom hv hz nofun).le (by omega)
    | call ts tags =>
      rw [TIn_call] at hv
      obtain ⟨vs, gs, hc, lt20, ltg, zg, zt⟩ := hv
      obtain ⟨x, l, g, hx, hdx, hl, hg⟩ := hc.mono hz
      have lv : vs.length = ts.length := zt.1.symm
      have lg : gs.length = ts.length := zg.1.symm.trans ltg.symm
      clear hc
      unfold Ctr
      k_fill
      intro dp un gd cn cs a ccd cl outer A₀ base h₀ L m s Q E B F X N T hk hd hu hret
      refine wpAny_call ?_
      k_dflt (walk_at "my_enter")
      k_steps
      refine Stop.mk ?_
      refine comp_inv (fun i ys nw => ∃ tl, nw = news ++ tl ∧ Apart tl news ∧ Zip (fun t v => TIn (Z ++ tl) (d + 1) (holed d t) v) (ts.take i) ys) ⟨[], (List.append_nil _).symm, Apart.nil, by simpa using Zip.nil⟩ ?_ ?_
      · rintro i v ys nw I oI C oC D m₂ h2 tk2 E' hi hP ⟨tl, rfl, ha, hzp⟩ hC hx2 F2 N2 off hIC hID hCD
        have hi' : i < vs.length := by simpa using hi
        obtain ⟨t, v', et, ev, hz1⟩ := zt.at hi'
        obtain rfl : v' = v := by
          have hP' : vs[i]? = some v := by simpa using hP
          exact Option.some.inj (ev.symm.trans hP')
        k_steps
        refine comp_end (news ++ (tl ++ tl9)) (by k_asm) N9 (by walk_at "my_sub") ?_ ?_ ?_ (.inr ⟨_, List.mem_append.mpr (.inl hl), rfl, _, rfl⟩) ⟨tl ++ tl9, rfl, ?_, ?_⟩
        · exact ne_append (fun p hp => (off p (List.mem_append.mpr (.inl hp))).1) (ne_append (fun p hp => (off p (List.mem_append.mpr (.inr hp))).1) (Apart.ne2 ha9 (.head _)))
        · exact ne_append (fun p hp => (off p (List.mem_append.mpr (.inl hp))).2.1) (ne_append (fun p hp => (off p (List.mem_append.mpr (.inr hp))).2.1) (Apart.ne2 ha9 (.tail _ (.head _))))
        · exact ne_append (fun p hp => (off p (List.mem_append.mpr (.inl hp))).2.2) (ne_append (fun p hp => (off p (List.mem_append.mpr (.inr hp))).2.2) (Apart.ne2 ha9 (.tail _ (.tail _ (.head _)))))
        · exact Apart.append ha (ha9.sub (by walk_at "my_sub"))
        · have hz' := (hzp.mono fun _ _ h => TIn.mono (Z' := Z ++ (tl ++ tl9)) (by walk_at "my_sub") h).snoc (TIn.mono (Z' := Z ++ (tl ++ tl9)) (by walk_at "my_sub") hs9)
          rwa [show ts.take (i + 1) = ts.take i ++ [t] by rw [List.take_add_one, et]; rfl]
      · rintro ys nw ⟨tl, rfl, ha, hzp⟩
        have hts : ts.take vs.toArray.size = ts := List.take_of_length_le (by simp [lv])
        rw [hts] at hzp
        have ly : ys.length = ts.length := hzp.1.symm
        k_steps
        refine hret _ _ _ _ (by k_asm) (nsub (by k_asm) (by walk_at "my_sub")) ⟨_, TIn.mk_call2 (by simpa using lt20) (by simpa using ltg) zg (Zip.map_left hzp), ?_, rfl⟩
        walk_at "my_apart"
end Mine
namespace Mine
def NotVec (Z : Led) (v : Value) : Prop := ∃ x dx od, v = .ref x ∧ (dx, od) ∈ Z ∧ ((x, instObj 67 dx) ∈ Z ∨ (x, instObj 89 dx) ∈ Z)
theorem NotVec.mono {Z Z' : Led} {v : Value} (h : NotVec Z v) (s : ∀ p ∈ Z, p ∈ Z') : NotVec Z' v := by
  obtain ⟨x, dx, od, e, a, h⟩ := h
  exact ⟨x, dx, od, e, s _ a, h.imp (s _) (s _)⟩
theorem share_id {w : World} {p : Program} {loose : List Str} {mean : ExcName → Option Value} {mg mb : Str → Option Value} {v : Value} {news : Led} (h : NotVec news v) : Ctr w p loose mean mg mb 142 8 [v] news (fun r news' => r = v ∧ news' = news) := by
  obtain ⟨x, dx, od, rfl, hod, h | h⟩ := h
  · unfold Ctr
    k_fill
    intro dp un gd cn cs a ccd cl outer A₀ base h₀ L m s Q E B F X N T hk hd hu hret
    refine wpAny_call ?_
    k_dflt (walk_at "my_enter")
    k_steps
    exact hret _ _ _ _ (by k_asm) (by k_asm) ⟨rfl, rfl⟩
  · unfold Ctr
    k_fill
    intro dp un gd cn cs a ccd cl outer A₀ base h₀ L m s Q E B F X N T hk hd hu hret
    refine wpAny_call ?_
    k_dflt (walk_at "my_enter")
    k_steps
    exact hret _ _ _ _ (by k_asm) (by k_asm) ⟨rfl, rfl⟩
section
variable {w : World} {prog : Program} {A : Around} {E : Value → Shared → Prop} {s : Shared} {h₀ : Heap} {L d : Addr} {news : Led} {o : Obj} {kvs : List (Str × Value)} {k : Str} {t : Tok} {v dflt : Value}
theorem in_some {Q : Value → Shared → Prop} (N : News h₀ L s.heap news) (hp : (d, o) ∈ news) (hd : o.IsDictOf (PySem.strKind prog w) kvs) (lo : (d == sysModules) = false) (hv : PySem.valueAt kvs k = some v) (h : Q (.bool true) { s with toks := s.toks + 1 }) :
    wpAny (model prog w) A (compareOp .In (.str k t) (.ref d)) Q E s := kda_in N hp hd lo (strKind_is _ _ _ _) true (by rw [hv]; rfl) h
theorem in_none {Q : Value → Shared → Prop} (N : News h₀ L s.heap news) (hp : (d, o) ∈ news) (hd : o.IsDictOf (PySem.strKind prog w) kvs) (lo : (d == sysModules) = false) (hv : PySem.valueAt kvs k = none) (h : Q (.bool false) { s with toks := s.toks + 1 }) :
    wpAny (model prog w) A (compareOp .In (.str k t) (.ref d)) Q E s := kda_in N hp hd lo (strKind_is _ _ _ _) false (by rw [hv]; rfl) h
theorem item_some {value slice : PySem.Expr} {Q : Value → Shared → Prop} (N : News h₀ L s.heap news) (hp : (d, o) ∈ news) (hd : o.IsDictOf (PySem.strKind prog w) kvs) (hv : PySem.valueAt kvs k = some v) (h : Q v { s with toks := s.toks + 1 })
    (hs : subscripted slice false (.ref d) (.str k t) = operate [.ref d, .str k t] (getItem (.ref d) (.str k t)) := by with_unfolding_all rfl) (hg : ∀ r, letTemporaryGo value (.ref d) r = pure () := by intro _; with_unfolding_all rfl) :
    wpAny (model prog w) A (subscriptTail value slice (.ref d) (.str k t)) Q E s := kda_item N hp hd (strKind_is _ _ _ _) hv h hs hg
theorem get_some {Q : Value → Shared → Prop} (N : News h₀ L s.heap news) (hp : (d, o) ∈ news) (hd : o.IsDictOf (PySem.strKind prog w) kvs) (lo : (d == sysModules) = false) (hv : PySem.valueAt kvs k = some v) (h : Q v { s with toks := s.toks + 1 }) :
    wpAny (model prog w) A (call (.builtin "dict.get") [.ref d, .str k t, dflt]) Q E s := kdg_get2 N hp hd lo (strKind_is _ _ _ _) (some v) hv h
theorem get_none {Q : Value → Shared → Prop} (N : News h₀ L s.heap news) (hp : (d, o) ∈ news) (hd : o.IsDictOf (PySem.strKind prog w) kvs) (lo : (d == sysModules) = false) (hv : PySem.valueAt kvs k = none) (h : Q dflt { s with toks := s.toks + 1 }) :
    wpAny (model prog w) A (call (.builtin "dict.get") [.ref d, .str k t, dflt]) Q E s := kdg_get2 N hp hd lo (strKind_is _ _ _ _) none hv h
theorem get_meth {pl : Sem Bool} {Q : Value × List Value → Shared → Prop} (N : News h₀ L s.heap news) (hp : (d, o) ∈ news) (hd : o.IsDictOf (PySem.strKind prog w) kvs) (h : Q (.builtin "dict.get", [.ref d]) s) :
    wpAny (model prog w) A (getMethod (.ref d) (Str.ofString "get") pl) Q E s := kdl_method PySem.F.slot_dict_get PySem.F.type_dict_get N hp hd h
end
def subst (ρ : Str → Option Tr) : Nat → Tr → Tr
  | _, .sym n => (ρ n).getD (.sym n)
  | d + 1, .call ts tags => .call (ts.map (subst ρ d)) tags
  | _, t => t
theorem subst_sym {ρ : Str → Option Tr} {d : Nat} {n : Str} : subst ρ d (.sym n) = (ρ n).getD (.sym n) := by cases d <;> rfl
theorem subst_leaf {ρ : Str → Option Tr} {d : Nat} {n : Str} : subst ρ d (.leaf n) = .leaf n := by cases d <;> rfl
theorem subst_num {ρ : Str → Option Tr} {d : Nat} {n : Int} : subst ρ d (.num n) = .num n := by cases d <;> rfl
/-- the table of the law: what stands in it -/
def Fits (ρ : Str → Option Tr) (Z : Led) (kvs : List (Str × Value)) : Prop :=
  ∀ n, (PySem.valueAt kvs n = none ∧ ρ n = none) ∨ ∃ v t, PySem.valueAt kvs n = some v ∧ ρ n = some t ∧ TIn Z 1 t v ∧ NotVec Z v
theorem Fits.mono {ρ : Str → Option Tr} {Z Z' : Led} {kvs : List (Str × Value)} (h : Fits ρ Z kvs) (s : ∀ p ∈ Z, p ∈ Z') : Fits ρ Z' kvs := fun n => (h n).imp id fun ⟨v, t, a, b, c, e⟩ => ⟨v, t, a, b, c.mono s, e.mono s⟩
theorem TIn.upTo {Z : Led} {d : Nat} {t : Tr} {v : Value} (h : TIn Z 1 t v) : TIn Z (d + 1) t v := by
  induction d with
  | zero => exact h
  | succ d ih => exact ih.up
def SubC (w : World) (p : Program) (loose : List Str) (mean : ExcName → Option Value) (mg mb : Str → Option Value) (ρ : Str → Option Tr) (d : Nat) : Prop :=
  ∀ {t : Tr} {v : Value} {tb : Addr} {o : Obj} {kvs : List (Str × Value)} {Z news : Led} (_hv : TIn Z d t v) (_hg : GoodT d t) (_hz : ∀ p ∈ Z, p ∈ news) (_ht : (tb, o) ∈ news) (_hd : o.IsDictOf (PySem.strKind PySem.Challenge.rw_pq1394_01.row.prog w) kvs) (_lo : (tb == sysModules) = false) (_hf : Fits ρ Z kvs),
    Ctr w p loose mean mg mb 149 (8 * d + 24) [v, .ref tb] news (fun r news' => ∃ tl, TIn (Z ++ tl) (d + 1) (subst ρ d t) r ∧ Apart tl news ∧ news' = news ++ tl)
theorem SubC.use {w : World} {p : Program} {loose : List Str} {mean : ExcName → Option Value} {mg mb : Str → Option Value} {ρ : Str → Option Tr} {d : Nat} (C : SubC w p loose mean mg mb ρ d) {t : Tr} {v : Value} {tb : Addr} {o : Obj} {kvs : List (Str × Value)} {Z news : Led} (hv : TIn Z d t v) (hg : GoodT d t) (hz : ∀ p ∈ Z, p ∈ news) (ht : (tb, o) ∈ news) (hd : o.IsDictOf (PySem.strKind PySem.Challenge.rw_pq1394_01.row.prog w) kvs) (lo : (tb == sysModules) = false) (hf : Fits ρ Z kvs) :
    Ctr w p loose mean mg mb 149 (8 * d + 24) [v, .ref tb] news (fun r news' => ∃ tl, TIn (Z ++ tl) (d + 1) (subst ρ d t) r ∧ Apart tl news ∧ news' = news ++ tl) := C hv hg hz ht hd lo hf
theorem Good.ne {n : Str} (h : Good n) : n ≠ Str.ofString "..." ∧ n ≠ Str.ofString "." ∧ n ≠ Str.ofString ".." := by
  unfold Good at h
  simp only [List.mem_cons, List.not_mem_nil, or_false] at h
  rcases h with rfl | rfl | rfl | rfl <;> decide +kernel
end Mine
namespace Mine
/-- where a loop stands that makes items and tags out of a call's items -/
inductive JL (nm : List (Str × Value)) (a1 a2 : Addr) (news Z : Led) (R : Led → Tr → Value → Prop) (ts : List Tr) (tags : List (Option Str)) (j : Nat) : (Str → Option Value) → Led → Prop
  | mk (u : Str → Option Value) (ys gs : List Value) {k1 k2 : Nat} (tl : Led) (ap : Apart tl ((a1, listOf #[] 0) :: (a2, listOf #[] 0) :: news)) (ly : ys.length = j) (lg : gs.length = j) (zt : Zip (R (Z ++ tl)) (ts.take j) ys) (zg : Zip TagIs (tags.take j) gs) :
    JL nm a1 a2 news Z R ts tags j (over nm u) ((a2, listOf gs.toArray k2) :: (a1, listOf ys.toArray k1) :: (news ++ tl))
theorem JL.start {nm : List (Str × Value)} {a1 a2 : Addr} {news Z : Led} {R : Led → Tr → Value → Prop} {ts : List Tr} {tags : List (Option Str)} {m : Str → Option Value} {k1 k2 : Nat} (hm : Has m nm) :
    JL nm a1 a2 news Z R ts tags 0 m ((a2, listOf #[] k2) :: (a1, listOf #[] k1) :: news) := by
  have W : JL nm a1 a2 news Z R ts tags 0 (over nm m) ((a2, listOf #[] k2) :: (a1, listOf #[] k1) :: (news ++ [])) := .mk m [] [] [] Apart.nil rfl rfl Zip.nil Zip.nil
  rw [over_self hm]
  rwa [List.append_nil] at W
theorem Zip.take_snoc {α β : Type} {R : α → β → Prop} {as : List α} {bs : List β} {j : Nat} {a : α} {b : β} (h : Zip R (as.take j) bs) (e : as[j]? = some a) (k : R a b) : Zip R (as.take (j + 1)) (bs ++ [b]) := by
  rw [List.take_add_one, e]
  exact h.snoc k
theorem jl_end {nm : List (Str × Value)} {a1 a2 : Addr} {news Z : Led} {R : Led → Tr → Value → Prop} {ts : List Tr} {tags : List (Option Str)} {j : Nat} {ys gs : List Value} {k1 k2 : Nat} {tl tl9 own : Led}
    {h₀ : Heap} {L : Addr} {s₁ : Shared} {h' : Heap} {tk k1' k2' : Nat} {m' : Str → Option Value} {t : Tr} {g9 r9 : Value} {oi : Option Str} {o1 o2 : Obj}
    (ap : Apart tl ((a1, listOf #[] 0) :: (a2, listOf #[] 0) :: news)) (ly : ys.length = j) (lg : gs.length = j) (zt : Zip (R (Z ++ tl)) (ts.take j) ys) (zg : Zip TagIs (tags.take j) gs) (mono : ∀ Z Z' t v, (∀ p ∈ Z, p ∈ Z') → R Z t v → R Z' t v)
    (hoff : Apart own ((a2, listOf gs.toArray k2) :: (a1, listOf ys.toArray k1) :: (news ++ tl)))
    (F : Fr h₀ L h' m') (N : News h₀ L h' ((a2, listOf (gs.toArray.push g9) k2') :: (a1, listOf (ys.toArray.push r9) k1') :: (news ++ (tl ++ (own ++ tl9))))) (hm : Has m' nm)
    (et : ts[j]? = some t) (eg : tags[j]? = some oi) (hr : R (Z ++ tl9) t r9) (hg : TagIs oi g9) (ha : Apart tl9 ((a2, o1) :: (a1, o2) :: (news ++ (tl ++ own)))) :
    TbEnd h₀ L (JL nm a1 a2 news Z R ts tags (j + 1)) own s₁ { s₁ with heap := h', toks := tk } := by
  have W : JL nm a1 a2 news Z R ts tags (j + 1) m' ((a2, listOf (gs ++ [g9]).toArray k2') :: (a1, listOf (ys ++ [r9]).toArray k1') :: (news ++ (tl ++ tl9))) := by
    rw [over_self hm]
    refine .mk m' (ys ++ [r9]) (gs ++ [g9]) (tl ++ tl9) ?_ (by simp [ly]) (by simp [lg]) ?_ (zg.take_snoc eg hg)
    · exact Apart.append ap (Apart.consR (Apart.ne2 ha (.tail _ (.head _))) (Apart.consR (Apart.ne2 ha (.head _)) (ha.sub fun p hp => .tail _ (.tail _ (List.mem_append.mpr (.inl hp))))))
    · refine (zt.mono fun t v h => mono _ _ t v ?_ h).take_snoc et (mono _ _ _ _ ?_ hr)
      · intro p hp
        simp only [List.mem_append] at hp ⊢
        rcases hp with h | h <;> simp only [h, true_or, or_true]
      · intro p hp
        simp only [List.mem_append] at hp ⊢
        rcases hp with h | h <;> simp only [h, true_or, or_true]
  refine turn_end F N ?_ ?_ ?_ W
  · intro p hp
    simp only [List.push_toArray, List.mem_cons, List.mem_append] at hp ⊢
    rcases hp with h | h | h | h | h <;> simp only [h, true_or, or_true]
  · intro p hp
    simp only [List.mem_cons, List.mem_append]
    simp only [hp, true_or, or_true]
  · exact Apart.consR (Apart.ne2 hoff (.head _)) (Apart.consR (Apart.ne2 hoff (.tail _ (.head _))) (Apart.appR (hoff.sub fun p hp => .tail _ (.tail _ (List.mem_append.mpr (.inl hp)))) (Apart.appR (hoff.sub fun p hp => .tail _ (.tail _ (List.mem_append.mpr (.inr hp))))
      (Apart.symm (ha.sub fun p hp => .tail _ (.tail _ (List.mem_append.mpr (.inr (List.mem_append.mpr (.inr hp))))))))))
end Mine
namespace Mine
section
variable {w : World} {p : Program} {loose : List Str} {mean : ExcName → Option Value} {mg mb : Str → Option Value}
theorem subst_sym' {ρ : Str → Option Tr} {d : Nat} {n : Str} {v : Value} {tb : Addr} {o : Obj} {kvs : List (Str × Value)} {Z news : Led} (hv : SymAt Z n v) (hg : Good n) (hz : ∀ p ∈ Z, p ∈ news) (ht : (tb, o) ∈ news) (hd : o.IsDictOf (PySem.strKind PySem.Challenge.rw_pq1394_01.row.prog w) kvs) (lo : (tb == sysModules) = false) (hf : Fits ρ Z kvs) :
    Ctr w p loose mean mg mb 149 24 [v, .ref tb] news (fun r news' => TIn Z (d + 1) (subst ρ d (.sym n)) r ∧ news' = news) := by
  have hne := hg.ne.1
  have hv' := hv
  obtain ⟨x, hx, hdx⟩ := hv.mono hz
  rw [subst_sym]
  rcases hf n with ⟨e1, e2⟩ | ⟨v', t', e1, e2, ht1, hnv⟩
  · rw [e2]
    unfold Ctr
    k_fill
    intro dp un gd cn cs a ccd cl outer A₀ base h₀ L m s Q E B F X N T hk hd' hu hret
    refine wpAny_call ?_
    k_dflt (walk_at "my_enter")
    k_steps
    exact hret _ _ _ _ (by k_asm) (by k_asm) ⟨TIn.of_sym hv', rfl⟩
  · rw [e2]
    have hnv' := hnv.mono hz
    unfold Ctr
    k_fill
    intro dp un gd cn cs a ccd cl outer A₀ base h₀ L m s Q E B F X N T hk hd' hu hret
    refine wpAny_call ?_
    k_dflt (walk_at "my_enter")
    k_steps
    exact hret _ _ _ _ (by k_asm) (by k_asm) ⟨ht1.upTo, rfl⟩
end
end Mine
namespace Mine
section
variable {w : World} {p : Program} {loose : List Str} {mean : ExcName → Option Value} {mg mb : Str → Option Value}
theorem subst_leaf' {b : Bool} {c : Str} {v : Value} {tb : Addr} {news : Led} (hu : LeafAt b news c v) : Ctr w p loose mean mg mb 149 24 [v, .ref tb] news (fun r news' => r = v ∧ news' = news) := by
  obtain ⟨x, hok, hx, hdx, hl⟩ := hu
  unfold Ctr
  k_fill
  intro dp un gd cn cs a ccd cl outer A₀ base h₀ L m s Q E B F X N T hk hd hu hret
  refine wpAny_call ?_
  k_dflt (walk_at "my_enter")
  k_steps
  exact hret _ _ _ _ (by k_asm) (nsub (by k_asm) (by walk_at "my_sub")) ⟨rfl, rfl⟩
theorem subst_atom {ρ : Str → Option Tr} {d : Nat} {t : Tr} {v : Value} {tb : Addr} {o : Obj} {kvs : List (Str × Value)} {Z news : Led} (hv : (∃ n, t = .sym n ∧ SymAt Z n v ∧ Good n) ∨ ∃ c, t = .leaf c ∧ ∃ b, LeafAt b Z c v) (hz : ∀ p ∈ Z, p ∈ news) (ht : (tb, o) ∈ news) (hd : o.IsDictOf (PySem.strKind PySem.Challenge.rw_pq1394_01.row.prog w) kvs) (lo : (tb == sysModules) = false) (hf : Fits ρ Z kvs) :
    Ctr w p loose mean mg mb 149 24 [v, .ref tb] news (fun r news' => ∃ tl, TIn (Z ++ tl) (d + 1) (subst ρ d t) r ∧ Apart tl news ∧ news' = news ++ tl) := by
  rcases hv with ⟨n, rfl, hs, hg⟩ | ⟨c, rfl, b, hl⟩
  · exact (subst_sym' (d := d) hs hg hz ht hd lo hf).wk fun r news' ⟨h1, h2⟩ => ⟨[], by rw [List.append_nil]; exact h1, Apart.nil, by rw [h2, List.append_nil]⟩
  · exact (subst_leaf' (hl.mono hz)).wk fun r news' ⟨h1, h2⟩ => ⟨[], by rw [h1, List.append_nil, subst_leaf, TIn_leaf]; exact ⟨b, hl⟩, Apart.nil, by rw [h2, List.append_nil]⟩
end
theorem subst_ctr {w : World} {p : Program} {loose : List Str} {mean : ExcName → Option Value} {mg mb : Str → Option Value} {ρ : Str → Option Tr} : ∀ d : Nat, SubC w p loose mean mg mb ρ d := by
  intro d
  induction d with
  | zero =>
    intro t v tb o kvs Z news hv hg hz ht hdo lo hf
    cases t with
    | sym n => rw [TIn_sym] at hv; rw [GoodT_sym] at hg; exact subst_atom (.inl ⟨n, rfl, hv, hg⟩) hz ht hdo lo hf
    | leaf c => rw [TIn_leaf] at hv; exact subst_atom (.inr ⟨c, rfl, hv⟩) hz ht hdo lo hf
    | num c => exact hg.elim
    | call ts tags => exact hv.elim
  | succ d ih =>
    intro t v tb o kvs Z news hv hg hz ht hdo lo hf
    cases t with
    | sym n => rw [TIn_sym] at hv; rw [GoodT_sym] at hg; exact (subst_atom (.inl ⟨n, rfl, hv, hg⟩) hz ht hdo lo hf).le (by omega)
    | leaf c => rw [TIn_leaf] at hv; exact (subst_atom (.inr ⟨c, rfl, hv⟩) hz ht hdo lo hf).le (by omega)
    | num c => exact hg.elim
    | call ts tags =>
      rw [TIn_call] at hv
      obtain ⟨vs, gs, hc, lt20, ltg, zg, zt⟩ := hv
      obtain ⟨x, l, g, hx, hdx, hl, hgl⟩ := hc.mono hz
      have lv : vs.length = ts.length := zt.1.symm
      have lg : gs.length = ts.length := zg.1.symm.trans ltg.symm
      clear hc
      unfold Ctr
      k_fill
      intro dp un gd cn cs a ccd cl outer A₀ base h₀ L m s Q E B F X N T hk hd hu hret
      refine wpAny_call ?_
      k_dflt (walk_at "my_enter")
      k_steps
      refine Stop.mk ?_
      rename_i a1 _ la1 _ _ a2 _ la2 _ _ _
      (rename IsRange _ _ _ _ _ _ _ _ => rg); (rename News _ _ _ _ => N1); (rename Fr _ _ _ _ => F1)
      have hn1 : ∀ p ∈ news, p.1 ≠ a1 := fun p hp => Nat.ne_of_lt (la1 p hp)
      have hn2 : ∀ p ∈ news, p.1 ≠ a2 := fun p hp => Nat.ne_of_lt (lt_of_allLt la2.2 p hp)
      refine rloop vs.length (JL [(Str.ofString "items", .ref a1), (Str.ofString "tags", .ref a2), (Str.ofString "e", .ref x), (Str.ofString "table", .ref tb)] a1 a2 news Z (fun Z t v => TIn Z (d + 1) (subst ρ d t) v) ts tags) rfl rg rfl (by omega) F1 N1 (.start (by walk_at "my_over")) ?_ ?_
      · rintro j tj m1 nx hh2 tk2 own hj hoff ⟨u, ys, gs', tl, apt, lys, lgs, hzt, hzg'⟩ F2 N2
        simp only [List.cons_append, List.append_assoc] at N2
        obtain ⟨ti, vi, et, ev, hzi⟩ := zt.at hj
        obtain ⟨oi, gi, eo, eg, hzg⟩ := zg.at (i := j) (by omega)
        have ev' : vs[((j : Nat) : Int).toNat]? = some vi := ev
        have eg' : gs[((j : Nat) : Int).toNat]? = some gi := eg
        have hgi : GoodT d ti := hg ti (List.mem_of_getElem? et)
        cases ti with
        | sym n =>
            have hne := ((GoodT_sym (d := d) (n := n)) ▸ hgi : Good n).ne.1
            obtain ⟨y, hy, hdy⟩ := ((TIn_sym ▸ hzi : SymAt Z n vi)).mono hz
            k_steps
            (rename Apart _ _ => ha9); (rename TIn _ _ _ _ => hs9)
            exact jl_end apt lys lgs hzt hzg' (fun _ _ _ _ s h => TIn.mono s h) hoff (by k_asm) (by k_asm) (by walk_at "my_over") et eo hs9 hzg ha9
        | leaf c =>
            obtain ⟨b, hzi'⟩ := (TIn_leaf ▸ hzi : ∃ b, LeafAt b Z c vi)
            obtain ⟨y, _, hy, hdy, hly⟩ := hzi'.mono hz
            k_steps
            (rename Apart _ _ => ha9); (rename TIn _ _ _ _ => hs9)
            exact jl_end apt lys lgs hzt hzg' (fun _ _ _ _ s h => TIn.mono s h) hoff (by k_asm) (by k_asm) (by walk_at "my_over") et eo hs9 hzg ha9
        | num c => exact absurd hgi (by cases d <;> exact id)
        | call ts' tags' =>
            obtain ⟨d', rfl⟩ : ∃ d', d = d' + 1 := by
              cases d with
              | zero => exact hzi.elim
              | succ d' => exact ⟨d', rfl⟩
            obtain ⟨_, _, hci, _⟩ := (TIn_call ▸ hzi : ∃ vs gs, CallAt Z vs gs vi ∧ _)
            obtain ⟨y, ly, gy, hy, hdy, hly, hgy⟩ := hci.mono hz
            k_steps
            (rename Apart _ _ => ha9); (rename TIn _ _ _ _ => hs9)
            exact jl_end apt lys lgs hzt hzg' (fun _ _ _ _ s h => TIn.mono s h) hoff (by k_asm) (by k_asm) (by walk_at "my_over") et eo hs9 hzg ha9
      · rintro m1 nx hh2 tk2 ⟨u, ys, gs', tl, apt, lys, lgs, hzt, hzg'⟩ F2 N2
        rw [show ts.take vs.length = ts from List.take_of_length_le (by omega)] at hzt
        rw [show tags.take vs.length = tags from List.take_of_length_le (by omega)] at hzg'
        have apt' : Apart tl news := apt.sub (sub_cons (sub_cons fun _ h => h))
        k_steps
        refine hret _ _ _ _ (by k_asm) (nsub (by k_asm) (by walk_at "my_sub")) ⟨_, TIn.mk_call2 (by simpa using lt20) (by simpa using ltg) hzg' (Zip.map_left hzt), ?_, rfl⟩
        walk_at "my_apart"
end Mine
namespace Mine
/-- no hole of bquote -/
def NotHole : Tr → Prop
  | .call ts _ => ∀ n, ts[0]? = some (.sym n) → n ≠ Str.ofString "." ∧ n ≠ Str.ofString ".."
  | _ => True
inductive HoleR (c : Str) (news : Led) : Value → Led → Prop
  | mk {t : Tok} : HoleR c news (.str c t) news
theorem Tr_size {Z : Led} {d : Nat} {ts : List Tr} {tags : List (Option Str)} {v : Value} (h : TIn Z d (.call ts tags) v) : ∃ d' vs gs, d = d' + 1 ∧ CallAt Z vs gs v ∧ ts.length ≤ 20 ∧ Zip (TIn Z d') ts vs := by
  cases d with
  | zero => exact h.elim
  | succ d' =>
    obtain ⟨vs, gs, a, b, _, _, c⟩ := (TIn_call ▸ h : ∃ vs gs, CallAt Z vs gs v ∧ ts.length ≤ 20 ∧ ts.length = tags.length ∧ Zip TagIs tags gs ∧ Zip (TIn Z d') ts vs)
    exact ⟨d', vs, gs, rfl, a, b, c⟩
section
variable {w : World} {p : Program} {loose : List Str} {mean : ExcName → Option Value} {mg mb : Str → Option Value}
theorem hole_none {d : Nat} {t : Tr} {v : Value} {news : Led} (ht : TIn news d t v) (hn : NotHole t) : Ctr w p loose mean mg mb 182 16 [v] news (HoleR (Str.ofString "") news) := by
  unfold Ctr
  k_fill
  intro dp un gd cn cs a ccd cl outer A₀ base h₀ L m s Q E B F X N T hk hd hu hret
  rcases Tr_cases t with ⟨ts, tags, rfl⟩ | hnc
  · obtain ⟨d', vs, gs, rfl, hc, ht20, zt⟩ := Tr_size ht
    obtain ⟨x, l, g, hx, hdx, hl, hg⟩ := hc
    have lv := zt.1
    by_cases h2 : ts.length = 2
    · obtain ⟨t0, v0, e0, ev0, hz0⟩ := zt.at (i := 0) (by omega)
      have ev' : vs[(0 : Int).toNat]? = some v0 := ev0
      have hn0 := hn
      clear hn zt
      rcases Tr_cases t0 with ⟨ts', tags', rfl⟩ | hnc
      · obtain ⟨d'', vs', gs', rfl, hc', _, _⟩ := Tr_size hz0
        obtain ⟨y, ly, gy, hy, hdy, hly, hgy⟩ := hc'
        clear hn0
        refine wpAny_call ?_
        k_dflt (walk_at "my_enter")
        k_steps
        all_goals first | (exfalso; omega) | exact hret _ _ _ _ (by k_asm) (by k_asm) .mk
      · rcases TIn_atom hz0 hnc with ⟨n, rfl, hs⟩ | ⟨kd, hu0, _, hk2, _, _⟩
        · have hne := hn0 n e0
          have hany : ([Str.ofString ".", Str.ofString ".."].any fun x => x == n) = false := by
            rw [List.any_cons, List.any_cons, List.any_nil, beq_eq_false_iff_ne.mpr (Ne.symm hne.1), beq_eq_false_iff_ne.mpr (Ne.symm hne.2)]; rfl
          obtain ⟨y, hy, hdy⟩ := hs
          refine wpAny_call ?_
          k_dflt (walk_at "my_enter")
          k_steps
          all_goals first | (exfalso; omega) | exact hret _ _ _ _ (by k_asm) (nsub (by k_asm) (by walk_at "my_sub")) .mk | ((rename (List.any _ _ = true) => hx9); rw [hany] at hx9; cases hx9)
        · obtain ⟨y, hy, hdy⟩ := hu0
          refine wpAny_call ?_
          k_dflt (walk_at "my_enter")
          k_steps
          all_goals first | (exfalso; omega) | exact hret _ _ _ _ (by k_asm) (by k_asm) .mk
    · refine wpAny_call ?_
      k_dflt (walk_at "my_enter")
      k_steps
      all_goals first | (exfalso; omega) | exact hret _ _ _ _ (by k_asm) (by k_asm) .mk
  · rcases TIn_atom ht hnc with ⟨n, rfl, hs⟩ | ⟨kd, hu0, hk1, _, _, _⟩
    · obtain ⟨x, hx, hdx⟩ := hs
      refine wpAny_call ?_
      k_dflt (walk_at "my_enter")
      k_steps
      exact hret _ _ _ _ (by k_asm) (by k_asm) .mk
    · obtain ⟨x, hx, hdx⟩ := hu0
      refine wpAny_call ?_
      k_dflt (walk_at "my_enter")
      k_steps
      exact hret _ _ _ _ (by k_asm) (by k_asm) .mk
theorem hole_dot {d : Nat} {n : Str} {v : Value} {news : Led} (ht : TIn news (d + 1) (.call [.sym (Str.ofString "."), .sym n] [none, none]) v) : Ctr w p loose mean mg mb 182 16 [v] news (HoleR (Str.ofString ".") news) := by
  unfold Ctr
  k_fill
  intro dp un gd cn cs a ccd cl outer A₀ base h₀ L m s Q E B F X N T hk hd hu hret
  obtain ⟨d', vs, gs, hd', hc, ht20, zt⟩ := Tr_size ht
  obtain ⟨x, l, g, hx, hdx, hl, hg⟩ := hc
  have lv : vs.length = 2 := zt.1.symm
  obtain ⟨t0, v0, e0, ev0, hz0⟩ := zt.at (i := 0) (by omega)
  have ev' : vs[(0 : Int).toNat]? = some v0 := ev0
  cases e0
  obtain ⟨y, hy, hdy⟩ := (TIn_sym ▸ hz0 : SymAt news _ v0)
  refine wpAny_call ?_
  k_dflt (walk_at "my_enter")
  k_steps
  all_goals first | (exfalso; omega) | exact hret _ _ _ _ (by k_asm) (nsub (by k_asm) (by walk_at "my_sub")) .mk
end
end Mine
namespace Mine
def inM (m : Bool) (d : Nat) (t : Tr) : Tr := if m then holed d t else t
def outM (ρ : Str → Option Tr) (m : Bool) (d : Nat) (t : Tr) : Tr := if m then subst ρ d t else t
theorem inM_call {m : Bool} {d : Nat} {ts : List Tr} {tags : List (Option Str)} : inM m (d + 1) (.call ts tags) = .call (ts.map (inM m d)) tags := by
  cases m with
  | true => rfl
  | false => show Tr.call ts tags = .call (ts.map fun t => t) tags; rw [List.map_id']
theorem outM_call {ρ : Str → Option Tr} {m : Bool} {d : Nat} {ts : List Tr} {tags : List (Option Str)} : outM ρ m (d + 1) (.call ts tags) = .call (ts.map (outM ρ m d)) tags := by
  cases m with
  | true => rfl
  | false => show Tr.call ts tags = .call (ts.map fun t => t) tags; rw [List.map_id']
theorem inM_leaf {m : Bool} {d : Nat} {c : Str} : inM m d (.leaf c) = .leaf c := by cases m <;> simp [inM, holed_leaf]
theorem outM_leaf {ρ : Str → Option Tr} {m : Bool} {d : Nat} {c : Str} : outM ρ m d (.leaf c) = .leaf c := by cases m <;> simp [outM, subst_leaf]
theorem inM_call_notHole {m : Bool} {d : Nat} {ts : List Tr} {tags : List (Option Str)} (hg : GoodT (d + 1) (.call ts tags)) : NotHole (.call (ts.map (inM m d)) tags) := by
  intro n hn
  rw [List.getElem?_map] at hn
  cases h0 : ts[0]? with
  | none => rw [h0] at hn; cases hn
  | some t =>
    rw [h0] at hn
    have hgt := hg t (List.mem_of_getElem? h0)
    cases m with
    | true =>
      exfalso
      have e : holed d t = .sym n := Option.some.inj hn
      cases t with
      | sym c => rw [holed_sym] at e; cases e
      | leaf c => rw [holed_leaf] at e; cases e
      | num c => rw [holed_num] at e; cases e
      | call ts' tg => cases d with
        | zero => exact hgt.elim
        | succ d => cases e
    | false =>
      have e : t = .sym n := Option.some.inj hn
      subst e
      exact (GoodT_sym (d := d) (n := n) ▸ hgt : Good n).ne.2
inductive PickR (ρ : Str → Option Tr) (Z0 : Led) (n : Str) (v : Value) (as : List Value) (g : Obj → Led) : Value → Led → Prop
  | none {as' : List Value} {k' : Nat} (hl : as'.length = as.length + 1) (h : ρ n = none) : PickR ρ Z0 n v as g v (g (listOf as'.toArray k'))
  | some {as' : List Value} {k' : Nat} {t : Tr} (r : Value) (hl : as'.length = as.length + 1) (h : ρ n = some t) (ht : TIn Z0 1 t r) (hn : NotVec Z0 r) : PickR ρ Z0 n v as g r (g (listOf as'.toArray k'))
/-- what the law says of pick: aq is where it writes what it was asked, Z0 what it reads -/
def PickC (w : World) (p : Program) (loose : List Str) (mean : ExcName → Option Value) (mg mb : Str → Option Value) (ρ : Str → Option Tr) (Z0 : Led) (aq pk : Addr) : Prop :=
  ∀ {as : List Value} {k : Nat} {news : Led} {g : Obj → Led} {n : Str} {v : Value} (_U : UpdF aq (listOf as.toArray k) news g) (_h0 : ∀ p ∈ Z0, p ∈ news) (_hs : SymAt news n v) (_hl : as.length ≤ 100000), Ctr w p loose mean mg mb pk 16 [v] news (PickR ρ Z0 n v as g)
def Bq : Nat → Nat
  | 0 => 1
  | d + 1 => 20 * Bq d + 1
theorem Bq_succ (d : Nat) : Bq (d + 1) = 20 * Bq d + 1 := rfl
theorem Bq_pos : ∀ d, 1 ≤ Bq d
  | 0 => Nat.le_refl _
  | d + 1 => Nat.succ_le_of_lt (Nat.zero_lt_succ _)
inductive BqR (ρ : Str → Option Tr) (m : Bool) (d : Nat) (t : Tr) (Z news : Led) (as : List Value) (k : Nat) (g : Obj → Led) : Value → Led → Prop
  | mk {as' : List Value} {k' : Nat} (tl : Led) (r : Value) (ht : TIn (Z ++ tl) (d + 1) (outM ρ m d t) r) (ha : Apart tl news) (hl : as'.length ≤ as.length + Bq d) (h0 : m = false → as' = as ∧ k' = k) : BqR ρ m d t Z news as k g r (g (listOf as'.toArray k') ++ tl)
def BqC (w : World) (p : Program) (loose : List Str) (mean : ExcName → Option Value) (mg mb : Str → Option Value) (ρ : Str → Option Tr) (Z0 : Led) (aq pk : Addr) (m : Bool) (d : Nat) : Prop :=
  ∀ {t : Tr} {v : Value} {Z news : Led} {g : Obj → Led} {as : List Value} {k : Nat} (_hv : TIn Z (d + 1) (inM m d t) v) (_hg : GoodT d t) (_hz : ∀ p ∈ Z, p ∈ news) (_hq : ∀ p ∈ Z, p.1 ≠ aq) (_h0 : ∀ p ∈ Z0, p ∈ Z) (_U : UpdF aq (listOf as.toArray k) news g) (_hl : as.length + Bq d ≤ 100000),
    Ctr w p loose mean mg mb 189 (8 * d + 48) [v, .ref pk] news (BqR ρ m d t Z news as k g)
theorem BqC.use {w : World} {p : Program} {loose : List Str} {mean : ExcName → Option Value} {mg mb : Str → Option Value} {ρ : Str → Option Tr} {Z0 : Led} {aq pk : Addr} {m : Bool} {d : Nat} (C : BqC w p loose mean mg mb ρ Z0 aq pk m d)
    {t : Tr} {v : Value} {Z news : Led} {g : Obj → Led} {as : List Value} {k : Nat} (hv : TIn Z (d + 1) (inM m d t) v) (hg : GoodT d t) (hz : ∀ p ∈ Z, p ∈ news) (hq : ∀ p ∈ Z, p.1 ≠ aq) (h0 : ∀ p ∈ Z0, p ∈ Z) (U : UpdF aq (listOf as.toArray k) news g) (hl : as.length + Bq d ≤ 100000) :
    Ctr w p loose mean mg mb 189 (8 * d + 48) [v, .ref pk] news (BqR ρ m d t Z news as k g) := C hv hg hz hq h0 U hl
/-- a test that is false on every way -/
def MeetF (h₀ : Heap) (L : Addr) (m : Str → Option Value) (news : Led) (s : Shared) (b : Bool) (s₂ : Shared) : Prop := b = false ∧ ∃ h' tk', s₂ = { s with heap := h', toks := tk' } ∧ Fr h₀ L h' m ∧ News h₀ L h' news
theorem if_false {prog : Program} {w : World} {A : Around} {E : Value → Shared → Prop} {s : Shared} {env : Env} {h₀ : Heap} {L : Addr} {m : Str → Option Value} {news : Led} {test : PySem.Expr} {body orelse : List Stmt} {pos : Pos} {Q : Flow → Shared → Prop}
    (_F : Fr h₀ L s.heap m) (_N : News h₀ L s.heap news) (ht : wpAny (model prog w) A (isTrue test env (eval test env)) (MeetF h₀ L m news s) E s)
    (he : ∀ h' tk', Fr h₀ L h' m → News h₀ L h' news → wpAny (model prog w) A (execs orelse env) Q E { s with heap := h', toks := tk' }) :
    wpAny (model prog w) A (exec (.If test body orelse pos) env) Q E s := by
  refine wpAny_If (wpAny_mono ht (fun b s₂ h => ?_) fun _ _ e => e)
  obtain ⟨rfl, h', tk', rfl, F, N⟩ := h
  exact he h' tk' F N
theorem MeetF.mk {h₀ : Heap} {L : Addr} {m : Str → Option Value} {news news' : Led} {s : Shared} {h' : Heap} {tk' : Nat} (F : Fr h₀ L h' m) (N : News h₀ L h' news') (h : ∀ p ∈ news, p ∈ news') : MeetF h₀ L m news s false { s with heap := h', toks := tk' } :=
  ⟨rfl, h', tk', rfl, F, nsub N h⟩
/-- where the loop of bquote_in stands -/
inductive JB (ρ : Str → Option Tr) (m : Bool) (d : Nat) (nm : List (Str × Value)) (a1 a2 aq : Addr) (as : List Value) (k : Nat) (rest Z : Led) (ts : List Tr) (tags : List (Option Str)) (j : Nat) : (Str → Option Value) → Led → Prop
  | mk (u : Str → Option Value) (ys gs as' : List Value) {k1 k2 k' : Nat} (tl : Led) (ap : Apart tl ((a1, listOf #[] 0) :: (a2, listOf #[] 0) :: (aq, listOf #[] 0) :: rest)) (ly : ys.length = j) (lg : gs.length = j)
    (zt : Zip (fun t v => TIn (Z ++ tl) (d + 1) (outM ρ m d t) v) (ts.take j) ys) (zg : Zip TagIs (tags.take j) gs) (hl : as'.length ≤ as.length + j * Bq d) (h0 : m = false → as' = as ∧ k' = k) :
    JB ρ m d nm a1 a2 aq as k rest Z ts tags j (over nm u) ((a2, listOf gs.toArray k2) :: (a1, listOf ys.toArray k1) :: (aq, listOf as'.toArray k') :: (rest ++ tl))
theorem JB.start {ρ : Str → Option Tr} {m : Bool} {d : Nat} {nm : List (Str × Value)} {a1 a2 aq : Addr} {as : List Value} {k : Nat} {rest Z : Led} {ts : List Tr} {tags : List (Option Str)} {m0 : Str → Option Value} {k1 k2 : Nat} (hm : Has m0 nm) :
    JB ρ m d nm a1 a2 aq as k rest Z ts tags 0 m0 ((a2, listOf #[] k2) :: (a1, listOf #[] k1) :: (aq, listOf as.toArray k) :: rest) := by
  have W : JB ρ m d nm a1 a2 aq as k rest Z ts tags 0 (over nm m0) ((a2, listOf #[] k2) :: (a1, listOf #[] k1) :: (aq, listOf as.toArray k) :: (rest ++ [])) := .mk m0 [] [] as [] Apart.nil rfl rfl Zip.nil Zip.nil (by simp) (fun _ => ⟨rfl, rfl⟩)
  rw [over_self hm]
  rwa [List.append_nil] at W
theorem JB.step {ρ : Str → Option Tr} {m : Bool} {d : Nat} {nm : List (Str × Value)} {a1 a2 aq : Addr} {as : List Value} {k : Nat} {rest Z : Led} {ts : List Tr} {tags : List (Option Str)} {j : Nat} {ys gs as' as9 : List Value} {k1 k2 kq k9 : Nat} {tl tl9 own : Led}
    {h₀ : Heap} {L : Addr} {s₁ : Shared} {h' : Heap} {tk k1' k2' : Nat} {m' : Str → Option Value} {t : Tr} {g9 r9 : Value} {oi : Option Str} {o1 o2 o3 : Obj}
    (ap : Apart tl ((a1, listOf #[] 0) :: (a2, listOf #[] 0) :: (aq, listOf #[] 0) :: rest)) (ly : ys.length = j) (lg : gs.length = j)
    (zt : Zip (fun t v => TIn (Z ++ tl) (d + 1) (outM ρ m d t) v) (ts.take j) ys) (zg : Zip TagIs (tags.take j) gs) (hl : as'.length ≤ as.length + j * Bq d) (h0 : m = false → as' = as ∧ kq = k)
    (hoff : Apart own ((a2, listOf gs.toArray k2) :: (a1, listOf ys.toArray k1) :: (aq, listOf as'.toArray kq) :: (rest ++ tl)))
    (F : Fr h₀ L h' m') (N : News h₀ L h' ((a2, listOf (gs.toArray.push g9) k2') :: (a1, listOf (ys.toArray.push r9) k1') :: (aq, listOf as9.toArray k9) :: (rest ++ (tl ++ (own ++ tl9))))) (hm : Has m' nm)
    (et : ts[j]? = some t) (eg : tags[j]? = some oi) (hr : TIn (Z ++ tl9) (d + 1) (outM ρ m d t) r9) (hg : TagIs oi g9) (ha : Apart tl9 ((a2, o1) :: (a1, o2) :: (aq, o3) :: (rest ++ (tl ++ own))))
    (hl9 : as9.length ≤ as'.length + Bq d) (h9 : m = false → as9 = as' ∧ k9 = kq) :
    TbEnd h₀ L (JB ρ m d nm a1 a2 aq as k rest Z ts tags (j + 1)) own s₁ { s₁ with heap := h', toks := tk } := by
  have W : JB ρ m d nm a1 a2 aq as k rest Z ts tags (j + 1) m' ((a2, listOf (gs ++ [g9]).toArray k2') :: (a1, listOf (ys ++ [r9]).toArray k1') :: (aq, listOf as9.toArray k9) :: (rest ++ (tl ++ tl9))) := by
    rw [over_self hm]
    refine .mk m' (ys ++ [r9]) (gs ++ [g9]) as9 (tl ++ tl9) ?_ (by simp [ly]) (by simp [lg]) ?_ (zg.take_snoc eg hg) ?_ ?_
    · exact Apart.append ap (Apart.consR (Apart.ne2 ha (.tail _ (.head _))) (Apart.consR (Apart.ne2 ha (.head _)) (Apart.consR (Apart.ne2 ha (.tail _ (.tail _ (.head _)))) (ha.sub fun p hp => .tail _ (.tail _ (.tail _ (List.mem_append.mpr (.inl hp))))))))
    · refine (zt.mono fun t v h => TIn.mono ?_ h).take_snoc et (TIn.mono ?_ hr)
      · intro p hp
        simp only [List.mem_append] at hp ⊢
        rcases hp with h | h <;> simp only [h, true_or, or_true]
      · intro p hp
        simp only [List.mem_append] at hp ⊢
        rcases hp with h | h <;> simp only [h, true_or, or_true]
    · rw [Nat.succ_mul]; omega
    · intro h
      obtain ⟨rfl, rfl⟩ := h0 h
      exact h9 h
  refine turn_end F N ?_ ?_ ?_ W
  · intro p hp
    simp only [List.push_toArray, List.mem_cons, List.mem_append] at hp ⊢
    rcases hp with h | h | h | h | h | h <;> simp only [h, true_or, or_true]
  · intro p hp
    simp only [List.mem_cons, List.mem_append]
    simp only [hp, true_or, or_true]
  · exact Apart.consR (Apart.ne2 hoff (.head _)) (Apart.consR (Apart.ne2 hoff (.tail _ (.head _))) (Apart.consR (Apart.ne2 hoff (.tail _ (.tail _ (.head _)))) (Apart.appR (hoff.sub fun p hp => .tail _ (.tail _ (.tail _ (List.mem_append.mpr (.inl hp))))) (Apart.appR (hoff.sub fun p hp => .tail _ (.tail _ (.tail _ (List.mem_append.mpr (.inr hp)))))
      (Apart.symm (ha.sub fun p hp => .tail _ (.tail _ (.tail _ (List.mem_append.mpr (.inr (List.mem_append.mpr (.inr hp))))))))))))
end Mine
namespace Mine
def FalseIf : Prop := True
inductive HoleP (news : Led) : Value → Led → Prop
  | mk (c : Str) {t : Tok} (h : c ≠ Str.ofString "..") : HoleP news (.str c t) news
theorem hole_part {w : World} {p : Program} {loose : List Str} {mean : ExcName → Option Value} {mg mb : Str → Option Value} {d : Nat} {m : Bool} {t : Tr} {v : Value} {Z news : Led} (hv : TIn Z (d + 1) (inM m d t) v) (hg : GoodT d t) (hz : ∀ p ∈ Z, p ∈ news) :
    Ctr w p loose mean mg mb 182 16 [v] news (HoleP news) := by
  have key : ∀ c : Str, c ≠ Str.ofString ".." → Ctr w p loose mean mg mb 182 16 [v] news (HoleR c news) → Ctr w p loose mean mg mb 182 16 [v] news (HoleP news) := by
    intro c hc C dp un gd cn cs a ccd cl outer A₀ base h₀ L m s Q E B F X N T hk hd hu hret
    refine C dp un gd cn cs a ccd cl outer A₀ base h₀ L m s Q E B F X N T hk hd hu fun r news' h' tk' F' N' hr => ?_
    obtain ⟨⟩ := hr
    exact hret _ _ _ _ F' N' (.mk c hc)
  have hv' := hv.mono hz
  cases t with
  | sym n =>
    cases m with
    | true => exact key _ (by decide +kernel) (hole_dot (d := d) (by simpa only [inM, if_true, holed_sym] using hv'))
    | false => exact key _ (by decide +kernel) (hole_none hv' (by simp only [inM, Bool.false_eq_true, if_false]; trivial))
  | leaf c => exact key _ (by decide +kernel) (hole_none hv' (by rw [inM_leaf]; trivial))
  | num c => cases d <;> exact hg.elim
  | call ts tags =>
    cases d with
    | zero => exact hg.elim
    | succ d => exact key _ (by decide +kernel) (hole_none hv' (by rw [inM_call]; exact inM_call_notHole hg))
theorem hole_dot' {w : World} {p : Program} {loose : List Str} {mean : ExcName → Option Value} {mg mb : Str → Option Value} {d : Nat} {n : Str} {v : Value} {Z news : Led} (ht : TIn Z (d + 1) (.call [.sym (Str.ofString "."), .sym n] [none, none]) v) (hz : ∀ p ∈ Z, p ∈ news) : Ctr w p loose mean mg mb 182 16 [v] news (HoleR (Str.ofString ".") news) := hole_dot (ht.mono hz)
theorem hole_none' {w : World} {p : Program} {loose : List Str} {mean : ExcName → Option Value} {mg mb : Str → Option Value} {d : Nat} {t : Tr} {v : Value} {Z news : Led} (ht : TIn Z d t v) (hn : NotHole t) (hz : ∀ p ∈ Z, p ∈ news) : Ctr w p loose mean mg mb 182 16 [v] news (HoleR (Str.ofString "") news) := hole_none (ht.mono hz) hn
theorem PickC.use {w : World} {p : Program} {loose : List Str} {mean : ExcName → Option Value} {mg mb : Str → Option Value} {ρ : Str → Option Tr} {Z0 : Led} {aq pk : Addr} (C : PickC w p loose mean mg mb ρ Z0 aq pk) {as : List Value} {k : Nat} {news : Led} {g : Obj → Led} {n : Str} {v : Value}
    (U : UpdF aq (listOf as.toArray k) news g) (h0 : ∀ p ∈ Z0, p ∈ news) (hs : SymAt news n v) (hl : as.length ≤ 100000) : Ctr w p loose mean mg mb pk 16 [v] news (PickR ρ Z0 n v as g) := C U h0 hs hl
end Mine
namespace Mine
section
variable {w : World} {p : Program} {loose : List Str} {mean : ExcName → Option Value} {mg mb : Str → Option Value}
/-- what is no call comes back as it is -/
theorem bq_atom {d : Nat} {t : Tr} {v pv : Value} {Z news : Led} (hv : TIn Z d t v) (hz : ∀ p ∈ Z, p ∈ news) (hc : (∃ n, t = .sym n) ∨ ∃ c, t = .leaf c) : Ctr w p loose mean mg mb 189 40 [v, pv] news (fun r news' => r = v ∧ news' = news) := by
  have hn : NotHole t := by rcases hc with ⟨n, rfl⟩ | ⟨c, rfl⟩ <;> trivial
  unfold Ctr
  k_fill
  intro dp un gd cn cs a ccd cl outer A₀ base h₀ L m s Q E B F X N T hk hd hu hret
  rcases hc with ⟨n, rfl⟩ | ⟨c, rfl⟩
  · obtain ⟨x, hx, hdx⟩ := (TIn_sym ▸ hv : SymAt Z n v).mono hz
    refine wpAny_call ?_
    k_dflt (walk_at "my_enter")
    k_steps
    exact hret _ _ _ _ (by k_asm) (by k_asm) ⟨rfl, rfl⟩
  · obtain ⟨b, hv'⟩ := (TIn_leaf ▸ hv : ∃ b, LeafAt b Z c v)
    obtain ⟨x, hok, hx, hdx, hl⟩ := hv'.mono hz
    refine wpAny_call ?_
    k_dflt (walk_at "my_enter")
    k_steps
    exact hret _ _ _ _ (by k_asm) (by k_asm) ⟨rfl, rfl⟩
/-- a hole is filled -/
theorem bq_hole {ρ : Str → Option Tr} {Z0 : Led} {aq pk : Addr} {oc : Value} {od : Option Addr} {fd : FuncData} {sl : Array (Option Value)} (hpk : (pk, (⟨oc, od, .func fd, sl⟩ : Obj)) ∈ Z0) (C : PickC w p loose mean mg mb ρ Z0 aq pk) {d : Nat} {n : Str} {v : Value} {Z news : Led} {g : Obj → Led} {as : List Value} {k : Nat} (hv : TIn Z (d + 1) (.call [.sym (Str.ofString "."), .sym n] [none, none]) v)
    (hz : ∀ p ∈ Z, p ∈ news) (hq : ∀ p ∈ Z, p.1 ≠ aq) (h0 : ∀ p ∈ Z0, p ∈ Z) (U : UpdF aq (listOf as.toArray k) news g) (hl : as.length ≤ 99999) :
    Ctr w p loose mean mg mb 189 40 [v, .ref pk] news (BqR ρ true d (.sym n) Z news as k g) := by
  obtain ⟨d', vs, gs, hd', hc, ht20, zt⟩ := Tr_size hv
  obtain ⟨x, l, gg, hx, hdx, hll, hgg⟩ := hc.mono hz
  have lv : vs.length = 2 := zt.1.symm
  obtain ⟨t0, v0, e0, ev0, hz0⟩ := zt.at (i := 1) (by omega)
  have ev' : vs[(1 : Int).toNat]? = some v0 := ev0
  cases e0
  have hs := (TIn_sym ▸ hz0 : SymAt Z _ v0)
  have hs' := hs.mono hz
  have h00 : ∀ p ∈ Z0, p ∈ news := fun p hp => hz p (h0 p hp)
  have hpk' := h00 _ hpk
  have hnv : NotVec Z v0 := by
    obtain ⟨y, hy, hdy⟩ := hs
    exact ⟨_, _, _, rfl, hdy, .inl hy⟩
  obtain ⟨rest, hsub, hsub', hoff, hto, hfrom⟩ := upd_rest U
  have hzg : ∀ o' : Obj, ∀ p ∈ Z, p ∈ g o' := fun o' p hp => hsub' o' p (by
    rcases List.mem_cons.mp (hfrom p (hz p hp)) with rfl | h
    · exact absurd rfl (hq _ hp)
    · exact .tail _ h)
  unfold Ctr
  k_fill
  intro dp un gd cn cs a ccd cl outer A₀ base h₀ L m s Q E B F X N T hk hd hu hret
  refine wpAny_call ?_
  k_dflt (walk_at "my_enter")
  k_steps
  · rename_i as' k' hl' hρ
    have hz9 := hzg (listOf as'.toArray k')
    refine Stop.mk ?_
    k_steps
    refine hret _ (g (listOf as'.toArray k') ++ []) _ _ (by k_asm) (by rw [List.append_nil]; k_asm) (.mk [] _ ?_ Apart.nil (by have := Bq_pos d; omega) nofun)
    rw [List.append_nil]
    show TIn Z (d + 1) (subst ρ d (.sym n)) _
    rw [subst_sym, hρ]
    exact TIn.of_sym hs
  · rename_i as' k' t1 hl' hρ ht1 hn1
    have hz9 : ∀ p ∈ Z0, p ∈ g (listOf as'.toArray k') := fun p hp => hzg _ p (h0 p hp)
    refine Stop.mk ?_
    k_steps
    refine hret _ (g (listOf as'.toArray k') ++ []) _ _ (by k_asm) (by rw [List.append_nil]; k_asm) (.mk [] _ ?_ Apart.nil (by have := Bq_pos d; omega) nofun)
    rw [List.append_nil]
    show TIn Z (d + 1) (subst ρ d (.sym n)) _
    rw [subst_sym, hρ]
    exact (ht1.mono h0).upTo
end
end Mine
namespace Mine
theorem BqR.mk_call {ρ : Str → Option Tr} {m : Bool} {d : Nat} {ts : List Tr} {tags : List (Option Str)} {Z news : Led} {as : List Value} {k : Nat} {g : Obj → Led} {as' : List Value} {k' : Nat} (tl : Led) (r : Value) (ht : TIn (Z ++ tl) (d + 1 + 1) (.call (ts.map (outM ρ m d)) tags) r) (ha : Apart tl news)
    (hl : as'.length ≤ as.length + Bq (d + 1)) (h0 : m = false → as' = as ∧ k' = k) : BqR ρ m (d + 1) (.call ts tags) Z news as k g r (g (listOf as'.toArray k') ++ tl) := .mk tl r (by rw [outM_call]; exact ht) ha hl h0
theorem bq_call {w : World} {p : Program} {loose : List Str} {mean : ExcName → Option Value} {mg mb : Str → Option Value} {ρ : Str → Option Tr} {Z0 : Led} {aq pk : Addr} {m' : Bool} {d : Nat} (ih : BqC w p loose mean mg mb ρ Z0 aq pk m' d)
    {ts : List Tr} {tags : List (Option Str)} {v : Value} {Z news : Led} {g : Obj → Led} {as : List Value} {k : Nat} (hv : TIn Z (d + 1 + 1) (inM m' (d + 1) (.call ts tags)) v) (hg : GoodT (d + 1) (.call ts tags)) (hz : ∀ p ∈ Z, p ∈ news) (hq : ∀ p ∈ Z, p.1 ≠ aq) (h0 : ∀ p ∈ Z0, p ∈ Z) (U : UpdF aq (listOf as.toArray k) news g) (hl0 : as.length + Bq (d + 1) ≤ 100000) :
    Ctr w p loose mean mg mb 189 (8 * (d + 1) + 48) [v, .ref pk] news (BqR ρ m' (d + 1) (.call ts tags) Z news as k g) := by
  rw [inM_call] at hv
  have hnh := inM_call_notHole (m := m') hg
  have hv0 := hv
  rw [TIn_call] at hv
  obtain ⟨vs, gs, hc, lt20, ltg, zg, zt⟩ := hv
  obtain ⟨rest, hsub, hsub', hoff0, hto, hfrom⟩ := upd_rest U
  have hzr : ∀ p ∈ Z, p ∈ rest := fun p hp => by
    rcases List.mem_cons.mp (hfrom p (hz p hp)) with rfl | h
    · exact absurd rfl (hq _ hp)
    · exact h
  obtain ⟨x, l, gg, hx, hdx, hl, hgl⟩ := hc.mono hzr
  have hxq := hoff0 _ hx
  have hdxq := hoff0 _ hdx
  have hlq := hoff0 _ hl
  have hgq := hoff0 _ hgl
  have lt20' : ts.length ≤ 20 := by simpa using lt20
  have ltg' : ts.length = tags.length := by simpa using ltg
  have lv : vs.length = ts.length := by have := zt.1; simpa using this.symm
  have lg : gs.length = ts.length := by have := zg.1; simp at ltg; omega
  clear hc
  rw [Bq_succ] at hl0
  unfold Ctr
  k_fill
  intro dp un gd cn cs a ccd cl outer A₀ base h₀ L m s Q E B F X N0 T hk hd hu hret
  have N : News h₀ L s.heap ((aq, listOf as.toArray k) :: rest) := nsub N0 hto
  clear N0
  refine wpAny_call ?_
  k_dflt (walk_at "my_enter")
  k_steps
  refine Stop.mk ?_
  rename_i a1 _ la1 _ _ a2 _ la2 _ _ _
  (rename IsRange _ _ _ _ _ _ _ _ => rg); (rename News _ _ _ _ => N1); (rename Fr _ _ _ _ => F1)
  have hn1 : ∀ p ∈ rest, p.1 ≠ a1 := fun p hp => Nat.ne_of_lt (lt_of_allLt la1.2 p hp)
  have hn2 : ∀ p ∈ rest, p.1 ≠ a2 := fun p hp => Nat.ne_of_lt (lt_of_allLt la2.2.2 p hp)
  refine rloop vs.length (JB ρ m' d [(Str.ofString "items", .ref a1), (Str.ofString "tags", .ref a2), (Str.ofString "e", .ref x), (Str.ofString "pick", .ref pk)] a1 a2 aq as k rest Z ts tags) rfl rg rfl (by omega) F1 N1 (.start (by walk_at "my_over")) ?_ ?_
  · rintro j tj m1 nx hh2 tk2 own hj hoff ⟨u, ys, gs', as', tl, apt, lys, lgs, hzt, hzg', hl9', h09'⟩ F2 N2
    simp only [List.cons_append, List.append_assoc] at N2
    obtain ⟨ti, et⟩ : ∃ ti, ts[j]? = some ti := ⟨_, List.getElem?_eq_getElem (by omega)⟩
    obtain ⟨vi, ev⟩ : ∃ vi, vs[j]? = some vi := ⟨_, List.getElem?_eq_getElem hj⟩
    have hzi := zt.2 j (inM m' d ti) vi (by rw [List.getElem?_map, et]; rfl) ev
    obtain ⟨oi, gi, eo, eg, hzg⟩ := zg.at (i := j) (by omega)
    have ev' : vs[((j : Nat) : Int).toNat]? = some vi := ev
    have eg' : gs[((j : Nat) : Int).toNat]? = some gi := eg
    have hgi : GoodT d ti := hg ti (List.mem_of_getElem? et)
    have hlq : as'.length + Bq d ≤ 100000 := by
      have := Nat.mul_le_mul_right (Bq d) (show j + 1 ≤ 20 by omega)
      rw [Nat.succ_mul] at this
      omega
    have hff : FalseIf := trivial
    k_steps
    exact JB.step apt lys lgs hzt hzg' hl9' h09' hoff (by k_asm) (by k_asm) (by walk_at "my_over") et eo hs9 hzg ha9 hl9 h9'
  · rintro m1 nx hh2 tk2 ⟨u, ys, gs', as', tl, apt, lys, lgs, hzt, hzg', hl9', h09'⟩ F2 N2
    rw [show ts.take vs.length = ts from List.take_of_length_le (by omega)] at hzt
    rw [show tags.take vs.length = tags from List.take_of_length_le (by omega)] at hzg'
    have apt' : Apart tl ((aq, listOf as.toArray k) :: rest) := (apt.sub (sub_cons (sub_cons fun _ h => h))).head
    have hlen : as'.length ≤ as.length + Bq (d + 1) := by
      have := Nat.mul_le_mul_right (Bq d) (show vs.length ≤ 20 by omega)
      rw [Bq_succ]
      omega
    k_steps
    refine hret _ _ _ _ (by k_asm) (nsub (by k_asm) (sub_appL (sub_trans (hsub _) (by walk_at "my_sub")) (by walk_at "my_sub"))) (BqR.mk_call _ _ (TIn.mk_call2 (by simpa using lt20) (by simpa using ltg) hzg' (Zip.map_left hzt)) ?_ hlen h09')
    refine Apart.sub (b := (aq, listOf as.toArray k) :: rest) ?_ hfrom
    walk_at "my_apart"
end Mine
namespace Mine
theorem Ctr.imp {w : World} {p : Program} {loose : List Str} {mean : ExcName → Option Value} {mg mb : Str → Option Value} {f : Addr} {sz sz' : Nat} {vs : List Value} {news : Led} {R R' : Value → Led → Prop} (C : Ctr w p loose mean mg mb f sz vs news R) (h : sz ≤ sz')
    (hk : ∀ r n1, R r n1 → ∃ n2, R' r n2 ∧ ∀ p ∈ n2, p ∈ n1) : Ctr w p loose mean mg mb f sz' vs news R' := fun dp un gd cn cs a ccd cl outer A₀ base h₀ L m s Q E B F X N T hkd hd hu hret =>
  C dp un gd cn cs a ccd cl outer A₀ base h₀ L m s Q E B F X N T hkd (by omega) (by omega) fun r n1 h' tk' F' N' hr => by
    obtain ⟨n2, h2, hs⟩ := hk r n1 hr
    exact hret r n2 h' tk' F' (nsub N' hs) h2
theorem bq_ctr {w : World} {p : Program} {loose : List Str} {mean : ExcName → Option Value} {mg mb : Str → Option Value} {ρ : Str → Option Tr} {Z0 : Led} {aq pk : Addr} {oc : Value} {od : Option Addr} {fd : FuncData} {sl : Array (Option Value)} (hpk : (pk, (⟨oc, od, .func fd, sl⟩ : Obj)) ∈ Z0)
    {m : Bool} (C : m = true → PickC w p loose mean mg mb ρ Z0 aq pk) : ∀ d : Nat, BqC w p loose mean mg mb ρ Z0 aq pk m d := by
  have atom : ∀ (d : Nat) {t : Tr} {v : Value} {Z news : Led} {g : Obj → Led} {as : List Value} {k : Nat} (hv : TIn Z (d + 1) t v) (hz : ∀ p ∈ Z, p ∈ news) (U : UpdF aq (listOf as.toArray k) news g) (hc : (∃ n, t = .sym n) ∨ ∃ c, t = .leaf c) (u : Tr) (hu : outM ρ m d u = t),
      Ctr w p loose mean mg mb 189 (8 * d + 48) [v, .ref pk] news (BqR ρ m d u Z news as k g) := by
    intro d t v Z news g as k hv hz U hc u hu
    obtain ⟨rest, hsub, hsub', hoff0, hto, hfrom⟩ := upd_rest U
    refine (bq_atom hv hz hc).imp (by omega) fun r n1 hr => ?_
    obtain ⟨rfl, rfl⟩ := hr
    refine ⟨_,   .mk (as' := as) (k' := k) [] _ (by rw [hu, List.append_nil]; exact hv) Apart.nil (Nat.le_add_right _ _) (fun _ => ⟨rfl, rfl⟩), fun p hp => ?_⟩
    rw [List.append_nil] at hp
    exact hto p (hsub _ p hp)
  have sym : ∀ (d : Nat) {n : Str} {v : Value} {Z news : Led} {g : Obj → Led} {as : List Value} {k : Nat} (hv : TIn Z (d + 1) (inM m d (.sym n)) v) (hz : ∀ p ∈ Z, p ∈ news) (hq : ∀ p ∈ Z, p.1 ≠ aq) (h0 : ∀ p ∈ Z0, p ∈ Z) (U : UpdF aq (listOf as.toArray k) news g) (hl : as.length + Bq d ≤ 100000),
      Ctr w p loose mean mg mb 189 (8 * d + 48) [v, .ref pk] news (BqR ρ m d (.sym n) Z news as k g) := by
    intro d n v Z news g as k hv hz hq h0 U hl
    cases m with
    | true =>
      have hb := Bq_pos d
      refine (bq_hole hpk (C rfl) (d := d) (by simpa only [inM, if_true, holed_sym] using hv) hz hq h0 U (by omega)).imp (by omega) fun r n1 hr => ⟨n1, hr, fun _ h => h⟩
    | false => exact atom d (t := .sym n) hv hz U (.inl ⟨_, rfl⟩) _ rfl
  intro d
  induction d with
  | zero =>
    intro t v Z news g as k hv hg hz hq h0 U hl
    cases t with
    | sym n => exact sym 0 hv hz hq h0 U hl
    | leaf c => exact atom 0 (t := .leaf c) (by rwa [inM_leaf] at hv) hz U (.inr ⟨_, rfl⟩) _ outM_leaf
    | num c => exact hg.elim
    | call ts tags => exact hg.elim
  | succ d ih =>
    intro t v Z news g as k hv hg hz hq h0 U hl
    cases t with
    | sym n => exact sym (d + 1) hv hz hq h0 U hl
    | leaf c => exact atom (d + 1) (t := .leaf c) (by rwa [inM_leaf] at hv) hz U (.inr ⟨_, rfl⟩) _ outM_leaf
    | num c => exact hg.elim
    | call ts tags => exact bq_call ih hv hg hz hq h0 U hl
end Mine
namespace Mine
/-- a for over a list, by an invariant -/
theorem lloop {prog : Program} {w : World} {A : Around} {E : Value → Shared → Prop} {s : Shared} {env : Env} {h₀ : Heap} {target : PySem.Expr} {body : List Stmt} {Q : Flow → Shared → Prop} {ax : Addr} {k : Nat} {vs : List Value} {m₀ : Str → Option Value} {news : Led}
    (J : Nat → (Str → Option Value) → Led → Prop) (hh : A.handled = none) (F : Fr h₀ env.locals s.heap m₀) (N : News h₀ env.locals s.heap news) (hm : (ax, listOf vs.toArray k) ∈ news) (hj : J 0 m₀ news) (keep : ∀ i m nx, J i m nx → (ax, listOf vs.toArray k) ∈ nx)
    (turn : ∀ (i : Nat) v m₁ nx h tk own, vs[i]? = some v → Apart own nx → J i m₁ nx → Fr h₀ env.locals h m₁ → News h₀ env.locals h (nx ++ own) →
      wpAny (model prog w) A (assign target env v) (fun _ s₃ => wpAny (model prog w) A (execs body env) (TbPost h₀ env.locals (J (i + 1)) own { s with heap := h, toks := tk } Q) E s₃) E { s with heap := h, toks := tk })
    (done : ∀ m₁ nx h tk, J vs.length m₁ nx → Fr h₀ env.locals h m₁ → News h₀ env.locals h nx → Q .next { s with heap := h, toks := tk }) :
    wpAny (model prog w) A (pyIter (.ref ax)) (fun it s₂ => TurnsAt prog w A h₀ env target body Q E it s₂) E s := by
  have hax := N _ hm
  have hl : s.heap.IsList ax vs.toArray := ⟨_, hax.1, rfl, k, rfl⟩
  have hlt : ax < s.heap.objs.size := Heap.lt_size hax.1
  have hne : ax ≠ s.heap.objs.size := Nat.ne_of_lt hlt
  refine wpAny_pyIter_list hl ?_
  refine ⟨s.heap.objs.size, _, _, _, _, _, _, m₀, news, J, rfl, KTurns.ofWalks (Walks.list hh s.heap.objs.size ax hne vs.toArray) (fun i v s Q E st q => letGo_listiter st.1 q), ?_, ?_, ?_, ?_, F.push _, ?_, hj, ?_, ?_⟩
  · intro hI
    rcases List.mem_cons.mp hI with e | hI
    · exact absurd F.ns.lt (e ▸ Nat.lt_irrefl _)
    · exact hax.2.1 (List.mem_singleton.mp hI).symm
  · intro b hb
    rw [List.mem_singleton.mp hb]
    exact next_is_new F
  · intro p hp hI
    exact absurd (Heap.lt_size (N p hp).1) ((List.mem_singleton.mp hI) ▸ Nat.lt_irrefl _)
  · exact ⟨⟨_, Heap.get?_push_size _ rfl, rfl, rfl⟩, hl.at fun o e => Heap.get?_push_of_some _ e⟩
  · exact fun p hp => ⟨Heap.get?_push_of_some _ (N p hp).1, (N p hp).2⟩
  · intro i v m₁ news₁ h₁ tk₁ own hin hPi hJ hoff hown hget hall hst₁ F₁ N₁
    have hv : vs[i]? = some v := by simpa using hPi
    let own' : Led := own.filter (fun p => p.1 == s.heap.objs.size)
    have hsub : ∀ p ∈ own', p ∈ own := fun p hp => (List.mem_filter.mp hp).1
    have hI : ∀ p ∈ own', p.1 = s.heap.objs.size := fun p hp => beq_iff_eq.mp (List.mem_filter.mp hp).2
    have hap : Apart own' news₁ := fun p hp q hq e => hoff q hq (List.mem_singleton.mpr (e.symm.trans (hI p hp)))
    have fin : ∀ s₃, TbEnd h₀ env.locals (J (i + 1)) own' { s with heap := h₁, toks := tk₁ } s₃ → LoopStepU h₀ env.locals [s.heap.objs.size] own (J (i + 1)) { s with heap := h₁, toks := tk₁ } .next s₃ := by
      rintro s₃ ⟨h', tk, m', news', nx, e, F', N', hn, ho, hof, hj'⟩
      refine ⟨rfl, h', tk, m', nx, e, F', ?_, ?_, hj'⟩
      · intro p hp
        rcases List.mem_append.mp hp with hp | hp
        · by_cases e1 : p.1 = s.heap.objs.size
          · exact N' _ (ho _ (List.mem_filter.mpr ⟨hp, beq_iff_eq.mpr e1⟩))
          · have e2 : p.1 = ax := by
              rcases List.mem_cons.mp (hown p hp) with h | h
              · exact absurd h e1
              · exact List.mem_singleton.mp h
            have h3 : h₁.get? p.1 = some p.2 := hget p hp
            have h4 := (N₁ _ (List.mem_append_right _ (keep i m₁ news₁ hJ))).1
            rw [e2] at h3
            have h5 : listOf vs.toArray k = p.2 := Option.some.inj (h4.symm.trans h3)
            have h6 : p = (ax, listOf vs.toArray k) := Prod.ext e2 h5.symm
            rw [h6]
            exact N' _ (hn _ (keep _ _ _ hj'))
        · exact N' _ (hn _ hp)
      · intro p hp hI'
        obtain ⟨it, hit, _⟩ := hst₁.1
        have hmem := hall s.heap.objs.size (List.mem_cons_self ..) (next_is_new F) it hit
        exact hof _ (List.mem_filter.mpr ⟨hmem, beq_self_eq_true _⟩) p hp (List.mem_singleton.mp hI').symm
    have N₂ : News h₀ env.locals h₁ (news₁ ++ own') := fun p hp => by
      rcases List.mem_append.mp hp with hp | hp
      · exact N₁ _ (List.mem_append_right _ hp)
      · exact N₁ _ (List.mem_append_left _ (hsub p hp))
    refine wpAny_mono (turn i v m₁ news₁ h₁ tk₁ own' hv hap hJ F₁ N₂) (fun _ s₂ h₂ => wpAny_mono h₂ (fun f s₃ p => ?_) fun _ _ e => e) fun _ _ e => e
    cases f with
    | ret v => exact .ret p
    | brk => exact .brk p
    | next => exact .next (fin _ p)
    | cont => exact .cont (fin _ p)
  · intro h' tk m' news' F' N' _ hJ
    have hJ' : J vs.length m' news' := by simpa using hJ
    exact done m' news' h' tk hJ' F' N'
end Mine
namespace Mine
inductive JTab (w : World) (nm : List (Str × Value)) (ax tb sp l : Addr) (vs : List Value) (kk k' : Nat) (rest : Led) (i0 : Int) (j : Nat) : (Str → Option Value) → Led → Prop
  | mk (u : Str → Option Value) {t : Tok} (i' : Int) {o : Obj} {kvs : List (Str × Value)} {ρ : Str → Option Tr} (tl : Led) (ap : Apart tl ((ax, listOf #[] 0) :: (tb, listOf #[] 0) :: (sp, listOf #[] 0) :: rest))
    (hd : o.IsDictOf (PySem.strKind PySem.Challenge.rw_pq1394_01.row.prog w) kvs) (hf : Fits ρ tl kvs) (hi : i0 ≤ i') (hi' : i' ≤ i0 + 2 * (j : Int)) (hk : kvs.length ≤ j) :
    JTab w nm ax tb sp l vs kk k' rest i0 j (over nm u) ((ax, listOf vs.toArray kk) :: (tb, o) :: (sp, listOf #[.int i' t, .ref l] k') :: (rest ++ tl))
theorem tloop {w : World} {A : Around} {E : Value → Shared → Prop} {s : Shared} {env : Env} {h₀ : Heap} {target : PySem.Expr} {body : List Stmt} {Q : Flow → Shared → Prop} {ax tb sp l : Addr} {kk k' : Nat} {t t1 t2 t3 : Tok} {i0 : Int} {o : Obj} {m₀ : Str → Option Value} {rest : Led} (nm : List (Str × Value))
    (hh : A.handled = none) (F : Fr h₀ env.locals s.heap m₀) (N : News h₀ env.locals s.heap ((ax, listOf #[.str (Str.ofString "f") t1, .str (Str.ofString "a") t2, .str (Str.ofString "b") t3] kk) :: (tb, o) :: (sp, listOf #[.int i0 t, .ref l] k') :: rest))
    (hd : o.IsDictOf (PySem.strKind PySem.Challenge.rw_pq1394_01.row.prog w) []) (hm : Has m₀ nm)
    (turn : ∀ (j : Nat) n tn m₁ nx h tk own, Good n → j < 3 → Apart own nx → JTab w nm ax tb sp l [.str (Str.ofString "f") t1, .str (Str.ofString "a") t2, .str (Str.ofString "b") t3] kk k' rest i0 j m₁ nx → Fr h₀ env.locals h m₁ → News h₀ env.locals h (nx ++ own) →
      wpAny (model PySem.Challenge.rw_pq1394_01.row.prog w) A (assign target env (.str n tn)) (fun _ s₃ => wpAny (model PySem.Challenge.rw_pq1394_01.row.prog w) A (execs body env) (TbPost h₀ env.locals (JTab w nm ax tb sp l [.str (Str.ofString "f") t1, .str (Str.ofString "a") t2, .str (Str.ofString "b") t3] kk k' rest i0 (j + 1)) own { s with heap := h, toks := tk } Q) E s₃) E { s with heap := h, toks := tk })
    (done : ∀ m₁ nx h tk, JTab w nm ax tb sp l [.str (Str.ofString "f") t1, .str (Str.ofString "a") t2, .str (Str.ofString "b") t3] kk k' rest i0 3 m₁ nx → Fr h₀ env.locals h m₁ → News h₀ env.locals h nx → Q .next { s with heap := h, toks := tk }) :
    wpAny (model PySem.Challenge.rw_pq1394_01.row.prog w) A (pyIter (.ref ax)) (fun it s₂ => TurnsAt PySem.Challenge.rw_pq1394_01.row.prog w A h₀ env target body Q E it s₂) E s := by
  refine lloop (vs := [.str (Str.ofString "f") t1, .str (Str.ofString "a") t2, .str (Str.ofString "b") t3]) (JTab w nm ax tb sp l [.str (Str.ofString "f") t1, .str (Str.ofString "a") t2, .str (Str.ofString "b") t3] kk k' rest i0) hh F N (.head _) ?_ ?_ ?_ done
  · have W : JTab w nm ax tb sp l [.str (Str.ofString "f") t1, .str (Str.ofString "a") t2, .str (Str.ofString "b") t3] kk k' rest i0 0 (over nm m₀) ((ax, listOf [.str (Str.ofString "f") t1, .str (Str.ofString "a") t2, .str (Str.ofString "b") t3].toArray kk) :: (tb, o) :: (sp, listOf #[.int i0 t, .ref l] k') :: (rest ++ [])) :=
      .mk (ρ := fun _ => none) m₀ i0 [] Apart.nil hd (fun n => .inl ⟨rfl, rfl⟩) (by omega) (by omega) (Nat.le_refl _)
    rw [over_self hm]
    rwa [List.append_nil] at W
  · rintro i m nx ⟨u, i', tl, ap, hd, hf, hi, hi', hk9⟩
    exact .head _
  · intro i v m₁ nx h tk own hv ho hj F₁ N₁
    have hlt : i < 3 := (List.getElem?_eq_some_iff.mp hv).1
    have hv' : ∃ n t, v = .str n t ∧ Good n := by
      have := List.mem_of_getElem? hv
      simp only [List.mem_cons, List.not_mem_nil, or_false] at this
      rcases this with h | h | h
      · exact ⟨_, _, h, by simp [Good]⟩
      · exact ⟨_, _, h, by simp [Good]⟩
      · exact ⟨_, _, h, by simp [Good]⟩
    obtain ⟨n, t', rfl, hg⟩ := hv'
    exact turn i n t' m₁ nx h tk own hg hlt ho hj F₁ N₁
end Mine
namespace Mine
theorem stored_len {kvs : List (Str × Value)} {k : Str} {v : Value} : (PySem.stored kvs k v).length ≤ kvs.length + 1 := by
  unfold PySem.stored; split <;> simp
theorem stored_eq {kvs : List (Str × Value)} {k : Str} {v : Value} : PySem.valueAt (PySem.stored kvs k v) k = some v := by
  unfold PySem.stored
  split
  · rename_i h
    induction kvs with
    | nil => simp at h
    | cons kv r ih =>
      unfold PySem.valueAt at ih ⊢
      rw [List.map_cons, List.find?_cons]
      by_cases e : kv.1 = k
      · rw [if_pos e, decide_eq_true e]; rfl
      · rw [if_neg e, decide_eq_false e]
        refine ih ?_
        rw [List.any_cons, decide_eq_false e, Bool.false_or] at h
        exact h
  · rename_i h
    unfold PySem.valueAt
    rw [List.find?_append, List.find?_eq_none.mpr]
    · simp
    · intro x hx hxk
      exact h (List.any_eq_true.mpr ⟨x, hx, hxk⟩)
theorem stored_ne {kvs : List (Str × Value)} {k n : Str} {v : Value} (hne : n ≠ k) : PySem.valueAt (PySem.stored kvs k v) n = PySem.valueAt kvs n := by
  unfold PySem.stored
  split
  · rename_i hany; clear hany
    induction kvs with
    | nil => rfl
    | cons kv r ih =>
      unfold PySem.valueAt at ih ⊢
      rw [List.map_cons, List.find?_cons, List.find?_cons]
      by_cases e : kv.1 = k
      · rw [if_pos e]
        have e2 : ¬ kv.1 = n := fun h => hne (h.symm.trans e)
        simp only [decide_eq_false e2]
        exact ih
      · rw [if_neg e]
        cases decide (kv.1 = n) with
        | true => rfl
        | false => exact ih
  · unfold PySem.valueAt
    rw [List.find?_append]
    cases h : kvs.find? (fun kv => decide (kv.1 = n)) with
    | some x => rfl
    | none => simp [Ne.symm hne]
theorem Fits.set {ρ : Str → Option Tr} {Z Z' : Led} {kvs : List (Str × Value)} {k : Str} {v : Value} {t : Tr} (hf : Fits ρ Z kvs) (s : ∀ p ∈ Z, p ∈ Z') (ht : TIn Z' 1 t v) (hn : NotVec Z' v) : Fits (fun n => if n = k then some t else ρ n) Z' (PySem.stored kvs k v) := by
  intro n
  by_cases e : n = k
  · subst e
    exact .inr ⟨v, t, stored_eq, if_pos rfl, ht, hn⟩
  · rw [stored_ne e]
    show _ ∨ ∃ v' t', _ ∧ (if n = k then some t else ρ n) = some t' ∧ _
    simp only [if_neg e]
    exact hf.mono s n
theorem set_led {prog : Program} {w : World} {A : Around} {E : Value → Shared → Prop} {s : Shared} {h₀ : Heap} {L d : Addr} {m : Str → Option Value} {news : Led} {g : Obj → Led} {o : Obj} {kvs : List (Str × Value)} {k : Str} {t : Tok} {v : Value} {Q : Unit → Shared → Prop} (F : Fr h₀ L s.heap m) (N : News h₀ L s.heap news) (U : UpdF d o news g)
    (hd : o.IsDictOf (PySem.strKind prog w) kvs) (hsz : kvs.length ≤ 100) (h : ∀ h' o', Fr h₀ L h' m → News h₀ L h' (g o') → o'.IsDictOf (PySem.strKind prog w) (PySem.stored kvs k v) → Q () { s with heap := h', toks := s.toks + 1 }) : wpAny (model prog w) A (setItem (.ref d) (.str k t) v) Q E s :=
  kda_set F N U hd (strKind_is _ _ _ _) (by rw [sizeLine_eq]; omega) h
end Mine
namespace Mine
theorem JTab.step {w : World} {nm : List (Str × Value)} {ax tb sp l : Addr} {vs : List Value} {kk k' : Nat} {rest : Led} {i0 i' : Int} {j : Nat} {tl tl9 own all : Led} {o' : Obj} {kvs' : List (Str × Value)} {ρ' : Str → Option Tr} {t' : Tok} {h₀ : Heap} {L : Addr} {s₁ : Shared} {h' : Heap} {tk : Nat} {m' : Str → Option Value} {o1 o2 o3 : Obj}
    (ap : Apart tl ((ax, listOf #[] 0) :: (tb, listOf #[] 0) :: (sp, listOf #[] 0) :: rest)) (hoff : Apart own ((ax, o1) :: (tb, o2) :: (sp, o3) :: (rest ++ tl))) (F : Fr h₀ L h' m') (N : News h₀ L h' all)
    (ha1 : ∀ p ∈ (ax, listOf vs.toArray kk) :: (tb, o') :: (sp, listOf #[.int i' t', .ref l] k') :: (rest ++ (tl ++ tl9)), p ∈ all) (ha2 : ∀ p ∈ own, p ∈ all) (hm : Has m' nm)
    (hd : o'.IsDictOf (PySem.strKind PySem.Challenge.rw_pq1394_01.row.prog w) kvs') (hf : Fits ρ' (tl ++ tl9) kvs') (hi : i0 ≤ i') (hi' : i' ≤ i0 + 2 * (j : Int) + 2) (hk : kvs'.length ≤ j + 1)
    (ha : Apart tl9 ((ax, listOf #[] 0) :: (tb, listOf #[] 0) :: (sp, listOf #[] 0) :: (rest ++ (tl ++ own)))) :
    TbEnd h₀ L (JTab w nm ax tb sp l vs kk k' rest i0 (j + 1)) own s₁ { s₁ with heap := h', toks := tk } := by
  have W : JTab w nm ax tb sp l vs kk k' rest i0 (j + 1) m' ((ax, listOf vs.toArray kk) :: (tb, o') :: (sp, listOf #[.int i' t', .ref l] k') :: (rest ++ (tl ++ tl9))) := by
    rw [over_self hm]
    refine .mk m' i' (tl ++ tl9) ?_ hd hf hi (by omega) hk
    exact Apart.append ap (Apart.consR (Apart.ne2 ha (.head _)) (Apart.consR (Apart.ne2 ha (.tail _ (.head _))) (Apart.consR (Apart.ne2 ha (.tail _ (.tail _ (.head _)))) (ha.sub fun p hp => .tail _ (.tail _ (.tail _ (List.mem_append.mpr (.inl hp))))))))
  refine turn_end F N ha1 ha2 ?_ W
  exact Apart.consR (Apart.ne2 hoff (.head _)) (Apart.consR (Apart.ne2 hoff (.tail _ (.head _))) (Apart.consR (Apart.ne2 hoff (.tail _ (.tail _ (.head _)))) (Apart.appR (hoff.sub fun p hp => .tail _ (.tail _ (.tail _ (List.mem_append.mpr (.inl hp))))) (Apart.appR (hoff.sub fun p hp => .tail _ (.tail _ (.tail _ (List.mem_append.mpr (.inr hp)))))
      (Apart.symm (ha.sub fun p hp => .tail _ (.tail _ (.tail _ (List.mem_append.mpr (.inr (List.mem_append.mpr (.inr hp))))))))))))
end Mine
namespace Mine
theorem mk_num {x dx l tp : Addr} {k k' k'' : Nat} {b : Bool} {c : Int} {h1 h2 h3 h4 h5 : Int} {t1 t2 t3 t4 t5 t6 t7 t8 : Tok} :
    NumAt [(x, instObj 46 dx), (dx, dictOf (vecEs h1 h2 h3 h4 h5 t1 t2 t3 t4 t5 t6 (Str.ofString "double") l .none b) k), (l, listOf #[.ref tp] k'), (tp, ({ cls := .type "tuple", data := .seq #[.int c t7, .int 1 t8] k'' } : Obj))] c (.ref x) :=
  .mk x (.head _) (.tail _ (.head _)) (.tail _ (.tail _ (.head _))) (.tail _ (.tail _ (.tail _ (.head _))))
theorem mk_callof {n : Str} {v0 v1 : Value} {x dx l g y1 d1 : Addr} {k k' k'' kk : Nat} {h1 h2 h3 h4 h5 a1 a2 a3 : Int} {t1 t2 t3 t4 t5 t6 u1 u2 u3 u4 u5 : Tok} :
    CallAt [(x, instObj 89 dx), (dx, dictOf [⟨h1, .str (Str.ofString "kind") t1, .str (Str.ofString "language") t6⟩, ⟨h2, .str (Str.ofString "items") t2, .ref l⟩, ⟨h3, .str (Str.ofString "tags") t3, .ref g⟩, ⟨h4, .str (Str.ofString "attrs") t4, .none⟩, ⟨h5, .str (Str.ofString "code") t5, .none⟩] k),
      (l, listOf #[.ref y1, v0, v1] k'), (g, listOf #[.none, .none, .none] k''), (y1, instObj 67 d1), (d1, symD a1 a2 a3 u1 u2 u3 u4 u5 n kk)] [.ref y1, v0, v1] [.none, .none, .none] (.ref x) :=
  .mk x l g (.head _) (.tail _ (.head _)) (.tail _ (.tail _ (.head _))) (.tail _ (.tail _ (.tail _ (.head _))))
section
variable {w : World} {p : Program} {loose : List Str} {mean : ExcName → Option Value} {mg mb : Str → Option Value}
inductive NumR (news : Led) : Value → Led → Prop
  | mk (c : Int) (tl : Led) (r : Value) (h : NumAt tl c r) (ha : Apart tl news) : NumR news r (news ++ tl)
inductive CallOfR (n : Str) (v0 v1 : Value) (news : Led) : Value → Led → Prop
  | mk (tl : Led) (r y : Value) (h : CallAt tl [y, v0, v1] [.none, .none, .none] r) (hs : SymAt tl n y) (ha : Apart tl news) : CallOfR n v0 v1 news r (news ++ tl)
theorem fmod_no {x : Int} : decide (0 < x.fmod 1) = false := by rw [Int.fmod_one]; rfl
theorem number_ctr {n : Int} {t : Tok} {news : Led} (h0 : 0 ≤ n) (h1 : n < 1000) : Ctr w p loose mean mg mb 128 16 [.int n t] news (NumR news) := by
  unfold Ctr
  k_fill
  intro dp un gd cn cs a ccd cl outer A₀ base h₀ L m s Q E B F X N T hk hd hu hret
  refine wpAny_call ?_
  k_dflt (walk_at "my_enter")
  k_steps
  refine WhlIf.no fmod_no ?_
  k_steps
  refine hret _ _ _ _ (by k_asm) (nsub (by k_asm) (by walk_at "my_sub")) (.mk _ _ _ mk_num ?_)
  walk_at "my_apart"
theorem callof_ctr {n : Str} {v0 v1 : Value} {l : Addr} {k : Nat} {t : Tok} {news : Led} (hl : (l, listOf #[v0, v1] k) ∈ news) : Ctr w p loose mean mg mb 135 16 [.str n t, .ref l] news (CallOfR n v0 v1 news) := by
  have hl' : (l, listOf [v0, v1].toArray k) ∈ news := hl
  unfold Ctr
  k_fill
  intro dp un gd cn cs a ccd cl outer A₀ base h₀ L m s Q E B F X N T hk hd hu hret
  refine wpAny_call ?_
  k_dflt (walk_at "my_enter")
  k_steps
  refine hret _ _ _ _ (by k_asm) (nsub (by k_asm) (by walk_at "my_sub")) (.mk _ _ _ mk_callof (.mk _ (.tail _ (.tail _ (.tail _ (.tail _ (.head _))))) (.tail _ (.tail _ (.tail _ (.tail _ (.tail _ (.head _))))))) ?_)
  walk_at "my_apart"
end
end Mine
namespace Mine
/-- the end of some statements of the law -/
inductive SEnd (h₀ : Heap) (L : Addr) (s : Shared) (J : (Str → Option Value) → Led → Prop) : Flow → Shared → Prop
  | mk {h' : Heap} {tk' : Nat} {m' : Str → Option Value} {n n' : Led} (F : Fr h₀ L h' m') (N : News h₀ L h' n') (sub : ∀ p ∈ n, p ∈ n') (j : J m' n) : SEnd h₀ L s J .next { s with heap := h', toks := tk' }
theorem wp_take {M : Model} {Γ : Ctx} {E : Value → Pos → Shared → Prop} {env : Env} : ∀ (n : Nat) (l : List Stmt) (Q : Flow → Pos → Shared → Prop) (p : Pos) (s : Shared),
    Sem.wp M Γ (execs (l.take n) env) (fun f p s' => match f with | .next => Sem.wp M Γ (execs (l.drop n) env) Q E p s' | f => Q f p s') E p s → Sem.wp M Γ (execs l env) Q E p s
  | 0, l, Q, p, s, h => by simpa only [List.take_zero, List.drop_zero, execs_nil, Sem.wp_pure'] using h
  | n + 1, [], Q, p, s, h => by simpa only [List.take_nil, List.drop_nil, execs_nil, Sem.wp_pure'] using h
  | n + 1, st :: l, Q, p, s, h => by
    rw [List.take_succ_cons, List.drop_succ_cons, execs_cons, Sem.wp_bind'] at h
    rw [execs_cons, Sem.wp_bind']
    refine Sem.wp_mono M Γ _ (fun f p' s' h' => ?_) (fun _ _ _ h' => h') _ _ h
    cases f with
    | next => exact wp_take n l Q p' s' h'
    | _ => exact h'
theorem cut {prog : Program} {w : World} {A : Around} {E : Value → Shared → Prop} {env : Env} {Q : Flow → Shared → Prop} {h₀ : Heap} {L : Addr} (n : Nat) {l : List Stmt} {s : Shared} (J : (Str → Option Value) → Led → Prop)
    (h1 : wpAny (model prog w) A (execs (l.take n) env) (SEnd h₀ L s J) (fun _ _ => False) s)
    (h2 : ∀ h' tk' m' n', Fr h₀ L h' m' → News h₀ L h' n' → J m' n' → wpAny (model prog w) A (execs (l.drop n) env) Q E { s with heap := h', toks := tk' }) : wpAny (model prog w) A (execs l env) Q E s := by
  intro Γ p hΓ
  refine wp_take n l _ p s (Sem.wp_mono _ Γ _ (fun f p' s' h' => ?_) (fun _ _ _ h' => h') _ _ (wpAny_noRaise h1 Γ p hΓ))
  cases h' with
  | mk F N sub j => exact h2 _ _ _ _ F (nsub N sub) j Γ p' hΓ
/-- the end of the law -/
inductive LawEnd (h₀ : Heap) (L : Addr) (s : Shared) : Flow → Shared → Prop
  | mk {h' : Heap} {tk' : Nat} {m' : Str → Option Value} {n' : Led} {ps : Array Value} (F : Fr h₀ L h' m') (N : News h₀ L h' n') (hq : (222, tabObj ps) ∈ n') : LawEnd h₀ L s (.ret (.bool true)) { s with heap := h', toks := tk' }
end Mine
namespace Mine
noncomputable def lawFd (w : World) : Option FuncData := match (Mine.hd.heap_39 w.params).lookup 225 with
  | some o => (match o.data with | .func fd => some fd | _ => none)
  | none => none
noncomputable def lawBody (w : World) : List Stmt := match lawFd w with
  | some fd => (match fd.body with | .stmts b => b | _ => [])
  | none => []
noncomputable def lawScope (w : World) : Scope := match lawFd w with
  | some fd => fd.scope
  | none => { kind := .function, names := [], isGenerator := false, isCoroutine := false, more := [] }
/-- statements k .. k + n of the law, from a state P to an end -/
def Seg (w : World) (p : Program) (loose : List Str) (mean : ExcName → Option Value) (mg mb : Str → Option Value) (cT cR cA cG cV : Addr) (k n : Nat) (P : (Str → Option Value) → Led → Prop) (Q : Heap → Addr → Shared → Flow → Shared → Prop) : Prop :=
  ∀ (dp un : Nat) (gd : Option (List PySem.Code)) (a : Addr) (outer : List Env) (A₀ : Around) (base h₀ : Heap) (L : Addr) (m : Str → Option Value) (news : Led) (s : Shared),
    Below A₀ base outer h₀ → Fr h₀ L s.heap m → (Mine.hd.heap_39 w.params).In h₀ → News h₀ L s.heap news → Top p loose mean mg mb h₀ → CodeHd h₀ 224 222 → dp + 300 < recursionLimit → un + 2400 < cLine → P m news →
    wpAny (model PySem.Challenge.rw_pq1394_01.row.prog w) (ktrTop dp un gd (Str.ofString "law") (lawScope w) L a (.ref 224) [(Str.ofString "table", cT), (Str.ofString "row", cR), (Str.ofString "asked", cA), (Str.ofString "told_tags", cG), (Str.ofString "values", cV)] outer)
      (execs (((lawBody w).drop k).take n) (envX (Str.ofString "law") (lawScope w) L a (.ref 224) [(Str.ofString "table", cT), (Str.ofString "row", cR), (Str.ofString "asked", cA), (Str.ofString "told_tags", cG), (Str.ofString "values", cV)]))
      (Q h₀ L s) (fun _ _ => False) s
theorem SEnd.mkO {h₀ : Heap} {L : Addr} {s : Shared} {J : (Str → Option Value) → Led → Prop} {h' : Heap} {tk' : Nat} {m' : Str → Option Value} {n n' : Led} {nm : List (Str × Value)} (F : Fr h₀ L h' m') (N : News h₀ L h' n') (hm : Has m' nm) (j : J (over nm m') n) (sub : ∀ p ∈ n, p ∈ n') :
    SEnd h₀ L s J .next { s with heap := h', toks := tk' } := SEnd.mk F N sub (by rw [over_self hm]; exact j)
abbrev nil0 : Obj := listOf #[] 0
/-- the fixed addresses -/
abbrev fixA (sp D cT cR cA cG cV : Addr) : Led := [(sp, nil0), (D, nil0), (cT, nil0), (cR, nil0), (cA, nil0), (cG, nil0), (cV, nil0), (222, nil0)]
/-- spring, e, kept_now and the table stand -/
inductive J5 (b : Int) (nk : Nat) (w : World) (sp D cT cR cA cG cV : Addr) (its : List Value) (k : Nat) : (Str → Option Value) → Led → Prop
  | mk (u : Str → Option Value) (eV kV : Value) (eT : Tr) (i : Int) {t k' : Nat} (tb : Addr) {o oT oR oA oG oV : Obj} {vR vA vG vV : Option Value} (Z : Led) {kvs : List (Str × Value)} {ρ : Str → Option Tr}
    (hE : TIn Z 2 eT eV) (hg : GoodT 2 eT) (hK : TIn Z 2 eT kV) (hd : o.IsDictOf (PySem.strKind PySem.Challenge.rw_pq1394_01.row.prog w) kvs) (hf : Fits ρ Z kvs) (hl : kvs.length ≤ nk)
    (dT : oT.data = .cell (some (.ref tb))) (dR : oR.data = .cell vR) (dA : oA.data = .cell vA) (dG : oG.data = .cell vG) (dV : oV.data = .cell vV) (lo : 0 ≤ i) (hi : i ≤ b) (htb : @LT.lt Nat _ sp tb)
    (z : Apart Z ((tb, nil0) :: fixA sp D cT cR cA cG cV)) :
    J5 b nk w sp D cT cR cA cG cV its k (over [(Str.ofString "spring", .ref sp), (Str.ofString "e", eV), (Str.ofString "kept_now", kV)] u)
      ((tb, o) :: (sp, listOf #[.int i t, .ref D] k') :: (D, listOf its.toArray k) :: (cT, oT) :: (cR, oR) :: (cA, oA) :: (cG, oG) :: (cV, oV) :: (222, tabObj #[]) :: Z)
/-- after spring -/
inductive J1 (sp D cT cR cA cG cV : Addr) (its : List Value) (k : Nat) : (Str → Option Value) → Led → Prop
  | mk (u : Str → Option Value) {t k' : Nat} {oT oR oA oG oV : Obj} {vT vR vA vG vV : Option Value}
    (dT : oT.data = .cell vT) (dR : oR.data = .cell vR) (dA : oA.data = .cell vA) (dG : oG.data = .cell vG) (dV : oV.data = .cell vV) :
    J1 sp D cT cR cA cG cV its k (over [(Str.ofString "spring", .ref sp)] u)
      [(sp, listOf #[.int 0 t, .ref D] k'), (D, listOf its.toArray k), (cT, oT), (cR, oR), (cA, oA), (cG, oG), (cV, oV), (222, tabObj #[])]
/-- the fixed addresses stand in this order -/
structure Ord (sp D cT cR cA cG cV : Addr) : Prop where
  a : @LT.lt Nat _ 222 cV
  b : @LT.lt Nat _ cV cG
  c : @LT.lt Nat _ cG cA
  d : @LT.lt Nat _ cA cR
  e : @LT.lt Nat _ cR cT
  f : @LT.lt Nat _ cT D
  g : @LT.lt Nat _ D sp
end Mine
namespace Mine
theorem Good.len {n : Str} (h : Good n) : n.length ≤ 1 := by
  simp only [Good, List.mem_cons, List.not_mem_nil, or_false] at h
  rcases h with rfl | rfl | rfl | rfl <;> decide +kernel
end Mine
namespace Mine
theorem SymAt.notVec {Z : Led} {n : Str} {v : Value} (h : SymAt Z n v) : NotVec Z v := by
  obtain ⟨x, hx, hdx⟩ := h
  exact ⟨_, _, _, rfl, hdx, .inl hx⟩
theorem CallAt.notVec {Z : Led} {vs gs : List Value} {v : Value} (h : CallAt Z vs gs v) : NotVec Z v := by
  obtain ⟨x, l, g, hx, hdx, hl, hg⟩ := h
  exact ⟨_, _, _, rfl, hdx, .inr hx⟩
theorem news_sym {h₀ h : Heap} {L x dx : Addr} {n : Str} {k : Nat} {h1 h2 h3 : Int} {t1 t2 t3 t4 t5 : Tok} {rest : Led}
    (_N : News h₀ L h ((x, instObj 67 dx) :: (dx, dictOf [⟨h1, .str (Str.ofString "kind") t1, .str (Str.ofString "symbol") t4⟩, ⟨h2, .str (Str.ofString "name") t2, .str n t5⟩, ⟨h3, .str (Str.ofString "attrs") t3, .none⟩] k) :: rest)) :
    SymAt [(x, instObj 67 dx), (dx, dictOf [⟨h1, .str (Str.ofString "kind") t1, .str (Str.ofString "symbol") t4⟩, ⟨h2, .str (Str.ofString "name") t2, .str n t5⟩, ⟨h3, .str (Str.ofString "attrs") t3, .none⟩] k)] n (.ref x) := mk_sym
theorem tin_callof {Z1 Z2 Z3 : Led} {n a : Str} {c : Int} {y v0 v1 r : Value} (h : CallAt Z3 [y, v0, v1] [.none, .none, .none] r) (hy : SymAt Z3 n y) (h0 : NumAt Z1 c v0) (h1 : SymAt Z2 a v1) :
    TIn (Z1 ++ (Z2 ++ Z3)) 1 (.call [.sym n, .num c, .sym a] [none, none, none]) r := by
  have s1 : ∀ p ∈ Z1, p ∈ Z1 ++ (Z2 ++ Z3) := sub_appR1 fun _ h => h
  have s2 : ∀ p ∈ Z2, p ∈ Z1 ++ (Z2 ++ Z3) := sub_appR2 (sub_appR1 fun _ h => h)
  have s3 : ∀ p ∈ Z3, p ∈ Z1 ++ (Z2 ++ Z3) := sub_appR2 (sub_appR2 fun _ h => h)
  rw [TIn_call]
  exact ⟨_, _, h.mono s3, by simp, rfl, ((Zip.nil.snoc tag_none).snoc tag_none).snoc tag_none, ((Zip.nil.snoc (TIn.of_sym (hy.mono s3))).snoc (by rw [TIn_num]; exact h0.mono s1)).snoc (TIn.of_sym (h1.mono s2))⟩
end Mine
namespace Mine
/-- the flag of a vector may have been set -/
inductive Sh1 : Obj → Obj → Prop
  | same {o o' : Obj} (e : o' = o) : Sh1 o o'
  | flag {o o' : Obj} {h1 h2 h3 h4 h5 : Int} {t1 t2 t3 t4 t5 t6 : Tok} {kd : Str} {l : Addr} {at' : Value} {b : Bool} {k k' : Nat} (e : o = dictOf (vecEs h1 h2 h3 h4 h5 t1 t2 t3 t4 t5 t6 kd l at' b) k)
    (e' : o' = dictOf (vecEs h1 h2 h3 h4 h5 t1 t2 t3 t4 t5 t6 kd l at' true) k') : Sh1 o o'
def Sh (Z Z' : Led) : Prop := ∀ p ∈ Z, ∃ o', (p.1, o') ∈ Z' ∧ Sh1 p.2 o'
theorem Sh.refl {Z : Led} : Sh Z Z := fun p hp => ⟨p.2, hp, .same rfl⟩
theorem Sh.of_sub {Z Z' : Led} (h : ∀ p ∈ Z, p ∈ Z') : Sh Z Z' := fun p hp => ⟨p.2, h p hp, .same rfl⟩
def vecKeys (o : Obj) : List Value := match o.data with
  | .dict es _ => es.toList.map (·.key)
  | _ => []
theorem Sh.get {Z Z' : Led} (h : Sh Z Z') {a : Addr} {o : Obj} (hm : (a, o) ∈ Z) (hn : ∀ {h1 h2 h3 h4 h5 : Int} {t1 t2 t3 t4 t5 t6 : Tok} {kd : Str} {l : Addr} {at' : Value} {b : Bool} {k : Nat}, o ≠ dictOf (vecEs h1 h2 h3 h4 h5 t1 t2 t3 t4 t5 t6 kd l at' b) k) : (a, o) ∈ Z' := by
  obtain ⟨o', h1, h2⟩ := h _ hm
  cases h2 with
  | same e => subst e; exact h1
  | flag e e' => exact absurd e hn
theorem Sh.vec {Z Z' : Led} (h : Sh Z Z') {a : Addr} {h1 h2 h3 h4 h5 : Int} {t1 t2 t3 t4 t5 t6 : Tok} {kd : Str} {l : Addr} {at' : Value} {b : Bool} {k : Nat} (hm : (a, dictOf (vecEs h1 h2 h3 h4 h5 t1 t2 t3 t4 t5 t6 kd l at' b) k) ∈ Z) :
    ∃ b' k', (a, dictOf (vecEs h1 h2 h3 h4 h5 t1 t2 t3 t4 t5 t6 kd l at' b') k') ∈ Z' := by
  obtain ⟨o', h1, h2⟩ := h _ hm
  cases h2 with
  | same e => subst e; exact ⟨_, _, h1⟩
  | flag e e' =>
    subst e'
    have e := congrArg Obj.data e
    simp only [vecEs, Data.dict.injEq, List.toArray_inj, Array.mk.injEq, List.cons.injEq, DictEntry.mk.injEq, Value.str.injEq, Value.ref.injEq] at e
    obtain ⟨⟨⟨rfl, ⟨_, rfl⟩, rfl, rfl⟩, ⟨rfl, ⟨_, rfl⟩, rfl⟩, ⟨rfl, ⟨_, rfl⟩, rfl⟩, ⟨rfl, ⟨_, rfl⟩, _⟩, ⟨rfl, ⟨_, rfl⟩, _⟩, _⟩, _⟩ := e
    exact ⟨_, _, h1⟩
theorem ne_vec_inst {x dx : Addr} {h1 h2 h3 h4 h5 : Int} {t1 t2 t3 t4 t5 t6 : Tok} {kd : Str} {l : Addr} {at' : Value} {b : Bool} {k : Nat} : instObj x dx ≠ dictOf (vecEs h1 h2 h3 h4 h5 t1 t2 t3 t4 t5 t6 kd l at' b) k := fun e => nomatch congrArg Obj.data e
theorem ne_vec_list {vs : Array Value} {n : Nat} {h1 h2 h3 h4 h5 : Int} {t1 t2 t3 t4 t5 t6 : Tok} {kd : Str} {l : Addr} {at' : Value} {b : Bool} {k : Nat} : listOf vs n ≠ dictOf (vecEs h1 h2 h3 h4 h5 t1 t2 t3 t4 t5 t6 kd l at' b) k := fun e => nomatch congrArg Obj.data e
theorem SymAt.sh {Z Z' : Led} {n : Str} {v : Value} (s : Sh Z Z') (h : SymAt Z n v) : SymAt Z' n v := by
  cases h with
  | mk x a b => exact .mk x (s.get a ne_vec_inst) (s.get b fun e => by have := congrArg (fun o => (vecKeys o).length) e; simp [vecKeys, vecEs] at this)
theorem LeafAt.sh {b : Bool} {Z Z' : Led} {n : Str} {v : Value} (s : Sh Z Z') (h : LeafAt b Z n v) : ∃ b', LeafAt b' Z' n v := by
  cases h with
  | mk x o a b c =>
    obtain ⟨b', k', hb⟩ := s.vec b
    exact ⟨b', .mk x o (s.get a ne_vec_inst) hb (s.get c ne_vec_list)⟩
theorem NumAt.sh {Z Z' : Led} {n : Int} {v : Value} (s : Sh Z Z') (h : NumAt Z n v) : NumAt Z' n v := by
  cases h with
  | mk x a b c d =>
    obtain ⟨b', k', hb⟩ := s.vec b
    exact .mk x (s.get a ne_vec_inst) hb (s.get c ne_vec_list) (s.get d fun e => nomatch congrArg Obj.data e)
theorem CallAt.sh {Z Z' : Led} {vs gs : List Value} {v : Value} (s : Sh Z Z') (h : CallAt Z vs gs v) : CallAt Z' vs gs v := by
  cases h with
  | mk x l g a b c d => 
    refine .mk x l g (s.get a ne_vec_inst) (s.get b fun e => ?_) (s.get c ne_vec_list) (s.get d ne_vec_list)
    have := congrArg (fun o => (vecKeys o)[2]?) e
    simp only [vecKeys, vecEs, List.map_cons, List.getElem?_cons_succ, List.getElem?_cons_zero, Option.some.injEq, Value.str.injEq] at this
    exact absurd this.1 (by decide +kernel)
theorem TIn.sh {Z Z' : Led} (s : Sh Z Z') : ∀ {d : Nat} {t : Tr} {v : Value}, TIn Z d t v → TIn Z' d t v
  | d, .sym n, v, h => by rw [TIn_sym] at h ⊢; exact h.sh s
  | d, .leaf n, v, h => by rw [TIn_leaf] at h ⊢; obtain ⟨b, h⟩ := h; exact h.sh s
  | d, .num n, v, h => by rw [TIn_num] at h ⊢; exact h.sh s
  | 0, .call _ _, v, h => h.elim
  | d + 1, .call ts tags, v, h => by
    rw [TIn_call] at h ⊢
    obtain ⟨vs, gs, hc, h1, h2, h3, h4⟩ := h
    exact ⟨vs, gs, hc.sh s, h1, h2, h3, h4.mono fun _ _ h => TIn.sh s h⟩
theorem Sh.trans {Z Z' Z2 : Led} (h : Sh Z Z') (k : Sh Z' Z2) : Sh Z Z2 := fun p hp => by
  obtain ⟨o1, m1, e1⟩ := h p hp
  obtain ⟨o2, m2, e2⟩ := k _ m1
  refine ⟨o2, m2, ?_⟩
  cases e1 with
  | same e => subst e; exact e2
  | flag e e' =>
    cases e2 with
    | same e2 => exact .flag e (e2.trans e')
    | flag f f' =>
      refine .flag (k' := by assumption) e (f'.trans ?_)
      have e := congrArg Obj.data (e'.symm.trans f)
      simp only [vecEs, Data.dict.injEq, List.toArray_inj, Array.mk.injEq, List.cons.injEq, DictEntry.mk.injEq, Value.str.injEq, Value.ref.injEq] at e
      obtain ⟨⟨⟨rfl, ⟨_, rfl⟩, rfl, rfl⟩, ⟨rfl, ⟨_, rfl⟩, rfl⟩, ⟨rfl, ⟨_, rfl⟩, rfl⟩, ⟨rfl, ⟨_, rfl⟩, _⟩, ⟨rfl, ⟨_, rfl⟩, _⟩, _⟩, _⟩ := e
      rfl
theorem Sh.app {Z Z' W : Led} (h : Sh Z Z') : Sh (Z ++ W) (Z' ++ W) := fun p hp => by
  rcases List.mem_append.mp hp with hp | hp
  · obtain ⟨o', m, e⟩ := h p hp
    exact ⟨o', List.mem_append_left _ m, e⟩
  · exact ⟨p.2, List.mem_append_right _ hp, .same rfl⟩
/-- no new address -/
def Within (Z' Z : Led) : Prop := ∀ p ∈ Z', ∃ q ∈ Z, q.1 = p.1
theorem Within.refl {Z : Led} : Within Z Z := fun p hp => ⟨p, hp, rfl⟩
theorem Within.trans {Z Z' Z2 : Led} (h : Within Z2 Z') (k : Within Z' Z) : Within Z2 Z := fun p hp => by
  obtain ⟨q, hq, e⟩ := h p hp
  obtain ⟨r, hr, e'⟩ := k q hq
  exact ⟨r, hr, e'.trans e⟩
theorem Apart.within {Z Z' b : Led} (h : Apart Z b) (k : Within Z' Z) : Apart Z' b := fun p hp q hq => by
  obtain ⟨r, hr, e⟩ := k p hp
  rw [← e]; exact h r hr q hq
theorem Apart.withinR {Z Z' b : Led} (h : Apart b Z) (k : Within Z' Z) : Apart b Z' := (h.symm.within k).symm
theorem ne_within {Z Z' : Led} {a : Addr} (h : ∀ p ∈ Z, p.1 ≠ a) (k : Within Z' Z) : ∀ p ∈ Z', p.1 ≠ a := fun p hp => by
  obtain ⟨r, hr, e⟩ := k p hp
  rw [← e]; exact h r hr
end Mine
namespace Mine
theorem put_shared {h1 h2 h3 h4 h5 hsh : Int} {t1 t2 t3 t4 t5 t6 : Tok} {kd : Str} {l : Addr} {at' key : Value} {b b' : Bool} {n : Nat} :
    (putL (Str.ofString "shared") hsh key (.bool b') (vecEs h1 h2 h3 h4 h5 t1 t2 t3 t4 t5 t6 kd l at' b), putN (Str.ofString "shared") (vecEs h1 h2 h3 h4 h5 t1 t2 t3 t4 t5 t6 kd l at' b) n) = (vecEs h1 h2 h3 h4 h5 t1 t2 t3 t4 t5 t6 kd l at' b', n) := by
  with_unfolding_all rfl
theorem put_attrs {h1 h2 h3 h4 h5 hsh : Int} {t1 t2 t3 t4 t5 t6 : Tok} {kd : Str} {l : Addr} {at' key v : Value} {b : Bool} {n : Nat} :
    (putL (Str.ofString "attrs") hsh key v (vecEs h1 h2 h3 h4 h5 t1 t2 t3 t4 t5 t6 kd l at' b), putN (Str.ofString "attrs") (vecEs h1 h2 h3 h4 h5 t1 t2 t3 t4 t5 t6 kd l at' b) n) = (vecEs h1 h2 h3 h4 h5 t1 t2 t3 t4 t5 t6 kd l v b, n) := by
  with_unfolding_all rfl
end Mine
namespace Mine
theorem Apart.shR {t Z Z' b : Led} (h : Apart t (Z' ++ b)) (s : Sh Z Z') : Apart t (Z ++ b) := fun p hp q hq => by
  rcases List.mem_append.mp hq with hq | hq
  · obtain ⟨o', m, _⟩ := s q hq
    exact h p hp (q.1, o') (List.mem_append_left _ m)
  · exact h p hp q (List.mem_append_right _ hq)
end Mine
namespace Mine
theorem sys_ne {tb : Addr} (h : @LT.lt Nat _ 222 tb) : (tb == sysModules) = false := by
  rw [beq_eq_false_iff_ne]
  intro e
  subst e
  exact absurd h (by decide)
theorem get1_some {w : World} {prog : Program} {A : Around} {E : Value → Shared → Prop} {s : Shared} {h₀ : Heap} {L d : Addr} {news : Led} {o : Obj} {kvs : List (Str × Value)} {k : Str} {t : Tok} {v : Value} {Q : Value → Shared → Prop} (N : News h₀ L s.heap news) (hp : (d, o) ∈ news) (hd : o.IsDictOf (PySem.strKind prog w) kvs) (lo : (d == sysModules) = false) (hv : PySem.valueAt kvs k = some v) (h : Q v { s with toks := s.toks + 1 }) :
    wpAny (model prog w) A (call (.builtin "dict.get") [.ref d, .str k t]) Q E s := kdg_get1 N hp hd lo (strKind_is _ _ _ _) (some v) hv h
end Mine
namespace Mine
def StrIs (c : Str) (v : Value) : Prop := TagIs (some c) v
theorem three_tags {a b c : String} {t t' t'' : Tok} : ∀ x ∈ [Value.str (Str.ofString a) t, Value.str (Str.ofString b) t', Value.str (Str.ofString c) t''], ∃ s, StrIs s x := fun x hx => by
  simp only [List.mem_cons, List.not_mem_nil, or_false] at hx
  rcases hx with h | h | h
  · exact ⟨_, strOk_ofString a, t, h⟩
  · exact ⟨_, strOk_ofString b, t', h⟩
  · exact ⟨_, strOk_ofString c, t'', h⟩
end Mine
namespace Mine
theorem Sh.within {Z Z' : Led} (s : Sh Z Z') : Within Z Z' := fun p hp => by
  obtain ⟨o', m, _⟩ := s p hp
  exact ⟨(p.1, o'), m, rfl⟩
end Mine
namespace Mine
theorem and15 {x1 x2 x3 x4 x5 x6 x7 x8 x9 x10 x11 x12 x13 x14 x15 x16 : Prop} (h : x1 ∧ x2 ∧ x3 ∧ x4 ∧ x5 ∧ x6 ∧ x7 ∧ x8 ∧ x9 ∧ x10 ∧ x11 ∧ x12 ∧ x13 ∧ x14 ∧ x15 ∧ x16) : x16 := h.2.2.2.2.2.2.2.2.2.2.2.2.2.2.2
theorem and16 {x1 x2 x3 x4 x5 x6 x7 x8 x9 x10 x11 x12 x13 x14 x15 x16 x17 : Prop} (h : x1 ∧ x2 ∧ x3 ∧ x4 ∧ x5 ∧ x6 ∧ x7 ∧ x8 ∧ x9 ∧ x10 ∧ x11 ∧ x12 ∧ x13 ∧ x14 ∧ x15 ∧ x16 ∧ x17) : x17 := h.2.2.2.2.2.2.2.2.2.2.2.2.2.2.2.2
theorem and17 {x1 x2 x3 x4 x5 x6 x7 x8 x9 x10 x11 x12 x13 x14 x15 x16 x17 x18 : Prop} (h : x1 ∧ x2 ∧ x3 ∧ x4 ∧ x5 ∧ x6 ∧ x7 ∧ x8 ∧ x9 ∧ x10 ∧ x11 ∧ x12 ∧ x13 ∧ x14 ∧ x15 ∧ x16 ∧ x17 ∧ x18) : x18 := h.2.2.2.2.2.2.2.2.2.2.2.2.2.2.2.2.2
theorem and18 {x1 x2 x3 x4 x5 x6 x7 x8 x9 x10 x11 x12 x13 x14 x15 x16 x17 x18 x19 : Prop} (h : x1 ∧ x2 ∧ x3 ∧ x4 ∧ x5 ∧ x6 ∧ x7 ∧ x8 ∧ x9 ∧ x10 ∧ x11 ∧ x12 ∧ x13 ∧ x14 ∧ x15 ∧ x16 ∧ x17 ∧ x18 ∧ x19) : x19 := h.2.2.2.2.2.2.2.2.2.2.2.2.2.2.2.2.2.2
theorem and19 {x1 x2 x3 x4 x5 x6 x7 x8 x9 x10 x11 x12 x13 x14 x15 x16 x17 x18 x19 x20 : Prop} (h : x1 ∧ x2 ∧ x3 ∧ x4 ∧ x5 ∧ x6 ∧ x7 ∧ x8 ∧ x9 ∧ x10 ∧ x11 ∧ x12 ∧ x13 ∧ x14 ∧ x15 ∧ x16 ∧ x17 ∧ x18 ∧ x19 ∧ x20) : x20 := h.2.2.2.2.2.2.2.2.2.2.2.2.2.2.2.2.2.2.2
theorem and20 {x1 x2 x3 x4 x5 x6 x7 x8 x9 x10 x11 x12 x13 x14 x15 x16 x17 x18 x19 x20 x21 : Prop} (h : x1 ∧ x2 ∧ x3 ∧ x4 ∧ x5 ∧ x6 ∧ x7 ∧ x8 ∧ x9 ∧ x10 ∧ x11 ∧ x12 ∧ x13 ∧ x14 ∧ x15 ∧ x16 ∧ x17 ∧ x18 ∧ x19 ∧ x20 ∧ x21) : x21 := h.2.2.2.2.2.2.2.2.2.2.2.2.2.2.2.2.2.2.2.2
theorem and21 {x1 x2 x3 x4 x5 x6 x7 x8 x9 x10 x11 x12 x13 x14 x15 x16 x17 x18 x19 x20 x21 x22 : Prop} (h : x1 ∧ x2 ∧ x3 ∧ x4 ∧ x5 ∧ x6 ∧ x7 ∧ x8 ∧ x9 ∧ x10 ∧ x11 ∧ x12 ∧ x13 ∧ x14 ∧ x15 ∧ x16 ∧ x17 ∧ x18 ∧ x19 ∧ x20 ∧ x21 ∧ x22) : x22 := h.2.2.2.2.2.2.2.2.2.2.2.2.2.2.2.2.2.2.2.2.2
theorem and22 {x1 x2 x3 x4 x5 x6 x7 x8 x9 x10 x11 x12 x13 x14 x15 x16 x17 x18 x19 x20 x21 x22 x23 : Prop} (h : x1 ∧ x2 ∧ x3 ∧ x4 ∧ x5 ∧ x6 ∧ x7 ∧ x8 ∧ x9 ∧ x10 ∧ x11 ∧ x12 ∧ x13 ∧ x14 ∧ x15 ∧ x16 ∧ x17 ∧ x18 ∧ x19 ∧ x20 ∧ x21 ∧ x22 ∧ x23) : x23 := h.2.2.2.2.2.2.2.2.2.2.2.2.2.2.2.2.2.2.2.2.2.2
theorem and23 {x1 x2 x3 x4 x5 x6 x7 x8 x9 x10 x11 x12 x13 x14 x15 x16 x17 x18 x19 x20 x21 x22 x23 x24 : Prop} (h : x1 ∧ x2 ∧ x3 ∧ x4 ∧ x5 ∧ x6 ∧ x7 ∧ x8 ∧ x9 ∧ x10 ∧ x11 ∧ x12 ∧ x13 ∧ x14 ∧ x15 ∧ x16 ∧ x17 ∧ x18 ∧ x19 ∧ x20 ∧ x21 ∧ x22 ∧ x23 ∧ x24) : x24 := h.2.2.2.2.2.2.2.2.2.2.2.2.2.2.2.2.2.2.2.2.2.2.2
end Mine
namespace Mine
inductive ShareR (Z base : Led) (v : Value) : Value → Led → Prop
  | mk (Z' : Led) (hs : Sh Z Z') (hw : Within Z' Z) : ShareR Z base v v (Z' ++ base)
theorem TIn_vec {Z : Led} {d : Nat} {t : Tr} {v : Value} (h : TIn Z d t v) : NotVec Z v ∨ ∃ x dx l k b h1 h2 h3 h4 h5 t1 t2 t3 t4 t5 t6 kd at', v = .ref x ∧ (x, instObj 46 dx) ∈ Z ∧ (dx, dictOf (vecEs h1 h2 h3 h4 h5 t1 t2 t3 t4 t5 t6 kd l at' b) k) ∈ Z := by
  cases t with
  | sym n => 
    rw [TIn_sym] at h
    obtain ⟨x, hx, hdx⟩ := h
    exact .inl ⟨_, _, _, rfl, hdx, .inl hx⟩
  | leaf c => 
    rw [TIn_leaf] at h
    obtain ⟨b, x, ok, hx, hdx, hl⟩ := h
    exact .inr ⟨_, _, _, _, _, _, _, _, _, _, _, _, _, _, _, _, _, _, rfl, hx, hdx⟩
  | num c =>
    rw [TIn_num] at h
    obtain ⟨x, hx, hdx, hl⟩ := h
    exact .inr ⟨_, _, _, _, _, _, _, _, _, _, _, _, _, _, _, _, _, _, rfl, hx, hdx⟩
  | call ts tags =>
    obtain ⟨d', vs, gs, rfl, hc, _, _⟩ := Tr_size h
    obtain ⟨x, l, g, hx, hdx, hl, hg⟩ := hc
    exact .inl ⟨_, _, _, rfl, hdx, .inr hx⟩
theorem share_ctr {w : World} {p : Program} {loose : List Str} {mean : ExcName → Option Value} {mg mb : Str → Option Value} {d : Nat} {t : Tr} {v : Value} {Z base : Led} (hv : TIn Z d t v) (ha : Apart Z base) :
    Ctr w p loose mean mg mb 142 8 [v] (Z ++ base) (ShareR Z base v) := by
  rcases TIn_vec hv with h | ⟨x, dx, l, k, b, h1, h2, h3, h4, h5, t1, t2, t3, t4, t5, t6, kd, at', rfl, hx, hdx⟩
  · refine (share_id (h.mono (sub_appR1 fun _ h => h))).imp (Nat.le_refl _) fun r n1 hr => ?_
    obtain ⟨rfl, rfl⟩ := hr
    exact ⟨_, .mk Z Sh.refl Within.refl, fun _ h => h⟩
  · unfold Ctr
    k_fill
    intro dp un gd cn cs a ccd cl outer A₀ base' h₀ L m s Q E B F X N0 T hk hd hu hret
    obtain ⟨rest, er⟩ : ∃ rest, rest = (Z ++ base).filter fun p => !(p.1 == dx) := ⟨_, rfl⟩
    have hoff : ∀ p ∈ rest, p.1 ≠ dx := fun p hp e => by
      rw [er, List.mem_filter] at hp
      simp [e] at hp
    have hxr : (x, instObj 46 dx) ∈ rest := by
      rw [er, List.mem_filter]
      refine ⟨List.mem_append_left _ hx, ?_⟩
      simp only [Bool.not_eq_true', beq_eq_false_iff_ne]
      rintro rfl
      have := (N0 _ (List.mem_append_left _ hx)).1.symm.trans (N0 _ (List.mem_append_left _ hdx)).1
      exact absurd (Option.some.inj this) ne_vec_inst
    have N : News h₀ L s.heap ((dx, dictOf (vecEs h1 h2 h3 h4 h5 t1 t2 t3 t4 t5 t6 kd l at' b) k) :: rest) := nsub N0 (sub_consL (List.mem_append_left _ hdx) fun p hp => by
      rw [er] at hp
      exact (List.mem_filter.mp hp).1)
    have fn : ∀ p ∈ Z, p.1 = dx → p.2 = dictOf (vecEs h1 h2 h3 h4 h5 t1 t2 t3 t4 t5 t6 kd l at' b) k := fun p hp e => by
      have e1 := (N0 _ (List.mem_append_left _ hp)).1
      rw [e] at e1
      exact Option.some.inj (e1.symm.trans (N0 _ (List.mem_append_left _ hdx)).1)
    have hmem : ∀ p ∈ Z ++ base, p.1 ≠ dx → p ∈ rest := fun p hp e => by
      rw [er, List.mem_filter]
      exact ⟨hp, by simpa using e⟩
    clear N0 er
    unfold vecEs at N
    refine wpAny_call ?_
    k_dflt (walk_at "my_enter")
    k_steps
    refine hret _ (((dx, dictOf (vecEs h1 h2 h3 h4 h5 t1 t2 t3 t4 t5 t6 kd l at' true) k) :: Z.filter fun p => !(p.1 == dx)) ++ base) _ _ (by k_asm) (nsub (by k_asm) ?_) (.mk _ ?_ ?_)
    · intro p hp
      rcases List.mem_append.mp hp with hp | hp
      · rcases List.mem_cons.mp hp with rfl | hp
        · exact .head _
        · obtain ⟨h1, h2⟩ := List.mem_filter.mp hp
          exact .tail _ (hmem p (List.mem_append_left _ h1) (by simpa using h2))
      · exact .tail _ (hmem p (List.mem_append_right _ hp) (fun e => ha _ hdx p hp e.symm))
    · intro p hp
      by_cases e : p.1 = dx
      · exact ⟨_, by rw [e]; exact .head _, .flag (fn p hp e) rfl⟩
      · exact ⟨p.2, .tail _ (List.mem_filter.mpr ⟨hp, by simpa using e⟩), .same rfl⟩
    · intro p hp
      rcases List.mem_cons.mp hp with rfl | hp
      · exact ⟨_, hdx, rfl⟩
      · exact ⟨p, (List.mem_filter.mp hp).1, rfl⟩
end Mine
namespace Mine
/-- the row: a list vector, with names or none -/
inductive RowAt (w : World) (vs gs : List Value) (Z : Led) : Bool → Value → Prop
  | plain (x dx l : Addr) {k k' : Nat} {b : Bool} {h1 h2 h3 h4 h5 : Int} {t1 t2 t3 t4 t5 t6 : Tok} (hx : (x, instObj 46 dx) ∈ Z) (hdx : (dx, dictOf (vecEs h1 h2 h3 h4 h5 t1 t2 t3 t4 t5 t6 (Str.ofString "list") l .none b) k) ∈ Z) (hl : (l, listOf vs.toArray k') ∈ Z) :
    RowAt w vs gs Z false (.ref x)
  | tags (x dx l ad nx ndx nl : Addr) {k k' kn kn' : Nat} {b b' : Bool} {h1 h2 h3 h4 h5 g1 g2 g3 g4 g5 : Int} {t1 t2 t3 t4 t5 t6 u1 u2 u3 u4 u5 u6 : Tok} {od : Obj} {kvs : List (Str × Value)} (hx : (x, instObj 46 dx) ∈ Z) (hdx : (dx, dictOf (vecEs h1 h2 h3 h4 h5 t1 t2 t3 t4 t5 t6 (Str.ofString "list") l (.ref ad) b) k) ∈ Z) (hl : (l, listOf vs.toArray k') ∈ Z)
    (had : (ad, od) ∈ Z) (hod : od.IsDictOf (PySem.strKind PySem.Challenge.rw_pq1394_01.row.prog w) kvs) (lo : (ad == sysModules) = false) (hkv : PySem.valueAt kvs (Str.ofString "names") = some (.ref nx)) (hnx : (nx, instObj 46 ndx) ∈ Z) (hndx : (ndx, dictOf (vecEs g1 g2 g3 g4 g5 u1 u2 u3 u4 u5 u6 (Str.ofString "character") nl .none b') kn) ∈ Z) (hnl : (nl, listOf gs.toArray kn') ∈ Z) :
    RowAt w vs gs Z true (.ref x)
theorem RowAt.mono {w : World} {vs gs : List Value} {Z Z' : Led} {nb : Bool} {v : Value} (h : RowAt w vs gs Z nb v) (s : ∀ p ∈ Z, p ∈ Z') : RowAt w vs gs Z' nb v := by
  cases h with
  | plain x dx l hx hdx hl => exact .plain x dx l (s _ hx) (s _ hdx) (s _ hl)
  | tags x dx l ad nx ndx nl hx hdx hl had hod lo hkv hnx hndx hnl => exact .tags x dx l ad nx ndx nl (s _ hx) (s _ hdx) (s _ hl) (s _ had) hod lo hkv (s _ hnx) (s _ hndx) (s _ hnl)
inductive ListOfR (w : World) (vs gs : List Value) (nb : Bool) (Z base : Led) : Value → Led → Prop
  | mk (r : Value) (Z' tl : Led) (hs : Sh Z Z') (hw : Within Z' Z) (hr : RowAt w vs gs tl nb r) (ha : Apart tl (Z ++ base)) : ListOfR w vs gs nb Z base r (Z' ++ (base ++ tl))
section
variable {w : World} {p : Program} {loose : List Str} {mean : ExcName → Option Value} {mg mb : Str → Option Value}
theorem listof_plain {d : Nat} {ts : List Tr} {vs gs : List Value} {Z base : Led} {lv : Addr} {k : Nat} (zt : Zip (TIn Z d) ts vs) (ha : Apart Z base) (hl : (lv, listOf vs.toArray k) ∈ base) (h20 : vs.length ≤ 20) :
    Ctr w p loose mean mg mb 113 32 [.ref lv] (Z ++ base) (ListOfR w vs gs false Z base) := by
  unfold Ctr
  k_fill
  intro dp un gd cn cs a ccd cl outer A₀ base' h₀ L m s Q E B F X N T hk hd hu hret
  refine wpAny_call ?_
  k_dflt (walk_at "my_enter")
  k_steps
  refine Stop.mk ?_
  refine comp_inv (fun i ys nw => ∃ Z', nw = Z' ++ base ∧ Sh Z Z' ∧ Within Z' Z ∧ ys = vs.take i) ⟨Z, rfl, Sh.refl, Within.refl, rfl⟩ ?_ ?_
  · rintro i v ys nw I oI C oC D m₂ h2 tk2 E' hi hP ⟨Z', rfl, hs, hw, rfl⟩ hC hx2 F2 N2 off hIC hID hCD
    have hi' : i < vs.length := by simpa using hi
    obtain ⟨t, v', et, ev, hz1⟩ := zt.at hi'
    obtain rfl : v' = v := by
      have hP' : vs[i]? = some v := by simpa using hP
      exact Option.some.inj (ev.symm.trans hP')
    have hz2 := hz1.sh hs
    have off1 : ∀ p ∈ Z', p.1 ≠ I := fun p hp => (off p (List.mem_append_left _ hp)).1
    have off2 : ∀ p ∈ Z', p.1 ≠ C := fun p hp => (off p (List.mem_append_left _ hp)).2.1
    have off3 : ∀ p ∈ Z', p.1 ≠ D := fun p hp => (off p (List.mem_append_left _ hp)).2.2
    have ha' : Apart Z' ((I, oI) :: (C, oC) :: (D, LCg.lst (vs.take i)) :: base) := Apart.consR off1 (Apart.consR off2 (Apart.consR off3 (ha.within hw)))
    k_steps
    refine Stop.mk ?_
    refine' Ctr.use ?k1 ?k2 ?k3 (nsub (by k_asm) ?k4) ?k5 ?k6 (share_ctr hz2 ha') ?k7 ?k8 ?_
    (case k1 => k_asm); (case k2 => k_asm); (case k3 => k_asm); (case k4 => walk_at "my_sub"); (case k5 => k_asm); (case k6 => first | exact rfl | assumption); (case k7 => ktr_room); (case k8 => ktr_units)
    rintro r9 n9 h9 tk9 F9 N9 ⟨Z2, hs2, hw2⟩
    k_steps
    refine comp_end (Z2 ++ base) (by k_asm) (by k_asm) (by walk_at "my_sub") ?_ ?_ ?_ (.inr ⟨_, List.mem_append_right _ hl, rfl, _, rfl⟩) ⟨Z2, rfl, hs.trans hs2, hw2.trans hw, ?_⟩
    · exact ne_append (ne_within off1 hw2) fun p hp => (off p (List.mem_append_right _ hp)).1
    · exact ne_append (ne_within off2 hw2) fun p hp => (off p (List.mem_append_right _ hp)).2.1
    · exact ne_append (ne_within off3 hw2) fun p hp => (off p (List.mem_append_right _ hp)).2.2
    · rw [List.take_add_one, ev]; rfl
  · rintro ys nw ⟨Z', rfl, hs, hw, rfl⟩
    have hts : vs.take vs.toArray.size = vs := List.take_of_length_le (by simp)
    rw [hts]
    k_steps
    refine hret _ _ _ _ (by k_asm) (nsub (by k_asm) (by walk_at "my_sub")) (.mk _ Z' [(_, _), (_, _), (_, _)] hs hw (.plain _ _ _ (.head _) (.tail _ (.head _)) (.tail _ (.tail _ (.head _)))) (Apart.shR ?_ hs))
    walk_at "my_apart"
theorem listof_tags {o22 : Obj} {d : Nat} {ts : List Tr} {vs gs : List Value} {Z base : Led} {lv lg : Addr} {k kg : Nat} (zt : Zip (TIn Z d) ts vs) (ha : Apart Z base) (hl : (lv, listOf vs.toArray k) ∈ base) (hlg : (lg, listOf gs.toArray kg) ∈ base) (h222 : ((222 : Addr), o22) ∈ base) (h20g : gs.length ≤ 20) (h20 : vs.length ≤ 20) :
    Ctr w p loose mean mg mb 113 32 [.ref lv, .ref lg] (Z ++ base) (ListOfR w vs gs true Z base) := by
  unfold Ctr
  k_fill
  intro dp un gd cn cs a ccd cl outer A₀ base' h₀ L m s Q E B F X N T hk hd hu hret
  refine wpAny_call ?_
  k_dflt (walk_at "my_enter")
  k_steps
  refine Stop.mk ?_
  refine comp_inv (fun i ys nw => ∃ Z', nw = Z' ++ base ∧ Sh Z Z' ∧ Within Z' Z ∧ ys = vs.take i) ⟨Z, rfl, Sh.refl, Within.refl, rfl⟩ ?_ ?_
  · rintro i v ys nw I oI C oC D m₂ h2 tk2 E' hi hP ⟨Z', rfl, hs, hw, rfl⟩ hC hx2 F2 N2 off hIC hID hCD
    have hi' : i < vs.length := by simpa using hi
    obtain ⟨t, v', et, ev, hz1⟩ := zt.at hi'
    obtain rfl : v' = v := by
      have hP' : vs[i]? = some v := by simpa using hP
      exact Option.some.inj (ev.symm.trans hP')
    have hz2 := hz1.sh hs
    have off1 : ∀ p ∈ Z', p.1 ≠ I := fun p hp => (off p (List.mem_append_left _ hp)).1
    have off2 : ∀ p ∈ Z', p.1 ≠ C := fun p hp => (off p (List.mem_append_left _ hp)).2.1
    have off3 : ∀ p ∈ Z', p.1 ≠ D := fun p hp => (off p (List.mem_append_left _ hp)).2.2
    have ha' : Apart Z' ((I, oI) :: (C, oC) :: (D, LCg.lst (vs.take i)) :: base) := Apart.consR off1 (Apart.consR off2 (Apart.consR off3 (ha.within hw)))
    k_steps
    refine Stop.mk ?_
    refine' Ctr.use ?k1 ?k2 ?k3 (nsub (by k_asm) ?k4) ?k5 ?k6 (share_ctr hz2 ha') ?k7 ?k8 ?_
    (case k1 => k_asm); (case k2 => k_asm); (case k3 => k_asm); (case k4 => walk_at "my_sub"); (case k5 => k_asm); (case k6 => first | exact rfl | assumption); (case k7 => ktr_room); (case k8 => ktr_units)
    rintro r9 n9 h9 tk9 F9 N9 ⟨Z2, hs2, hw2⟩
    k_steps
    refine comp_end (Z2 ++ base) (by k_asm) (by k_asm) (by walk_at "my_sub") ?_ ?_ ?_ (.inr ⟨_, List.mem_append_right _ hl, rfl, _, rfl⟩) ⟨Z2, rfl, hs.trans hs2, hw2.trans hw, ?_⟩
    · exact ne_append (ne_within off1 hw2) fun p hp => (off p (List.mem_append_right _ hp)).1
    · exact ne_append (ne_within off2 hw2) fun p hp => (off p (List.mem_append_right _ hp)).2.1
    · exact ne_append (ne_within off3 hw2) fun p hp => (off p (List.mem_append_right _ hp)).2.2
    · rw [List.take_add_one, ev]; rfl
  · rintro ys nw ⟨Z', rfl, hs, hw, rfl⟩
    have hts : vs.take vs.toArray.size = vs := List.take_of_length_le (by simp)
    rw [hts]
    k_steps
    (rename Obj.IsDictOf _ _ _ => hod9)
    refine hret _ _ _ _ (by k_asm) (nsub (by k_asm) (by walk_at "my_sub")) (.mk _ Z' [(_, _), (_, _), (_, _), (_, _), (_, _), (_, _), (_, _)] hs hw (.tags _ _ _ _ _ _ _ (.head _) (.tail _ (.head _)) (.tail _ (.tail _ (.head _))) (.tail _ (.tail _ (.tail _ (.head _)))) hod9 (sys_ne (lt_of_allLt (by walk_at "my_allLt") _ (List.mem_append_right _ h222))) (by with_unfolding_all rfl) (.tail _ (.tail _ (.tail _ (.tail _ (.head _))))) (.tail _ (.tail _ (.tail _ (.tail _ (.tail _ (.head _)))))) (.tail _ (.tail _ (.tail _ (.tail _ (.tail _ (.tail _ (.head _)))))))) (Apart.shR ?_ hs))
    walk_at "my_apart"
end
end Mine
namespace Mine
def told (nb : Bool) (c : Str) : Option Str := if nb && c != Str.ofString "" then some c else none
def PairAt (Z : Led) (ov : Option Str × Value) (p : Value) : Prop := ∃ tp g k, p = .ref tp ∧ (tp, ({ cls := .type "tuple", data := .seq #[g, ov.2] k } : Obj)) ∈ Z ∧ TagIs ov.1 g
theorem PairAt.mono {Z Z' : Led} {ov : Option Str × Value} {p : Value} (h : PairAt Z ov p) (s : ∀ p ∈ Z, p ∈ Z') : PairAt Z' ov p := by
  obtain ⟨tp, g, k, e, hm, ht⟩ := h
  exact ⟨tp, g, k, e, s _ hm, ht⟩
inductive ElemR (prs : List (Option Str × Value)) (news : Led) : Value → Led → Prop
  | mk (fl : Addr) {k : Nat} (ps : List Value) (tl : Led) (hfl : (fl, listOf ps.toArray k) ∈ tl) (zp : Zip (PairAt tl) prs ps) (ha : Apart tl news) : ElemR prs news (.ref fl) (news ++ tl)
inductive JE (nm : List (Str × Value)) (fl : Addr) (rest : Led) (prs : List (Option Str × Value)) (j : Nat) : (Str → Option Value) → Led → Prop
  | mk (u : Str → Option Value) (ps : List Value) {k : Nat} (tl : Led) (ap : Apart tl ((fl, listOf #[] 0) :: rest)) (lp : ps.length = j) (zp : Zip (PairAt tl) (prs.take j) ps) :
    JE nm fl rest prs j (over nm u) ((fl, listOf ps.toArray k) :: (rest ++ tl))
theorem JE.start {nm : List (Str × Value)} {fl : Addr} {rest : Led} {prs : List (Option Str × Value)} {m : Str → Option Value} {k : Nat} (hm : Has m nm) : JE nm fl rest prs 0 m ((fl, listOf #[] k) :: rest) := by
  have W : JE nm fl rest prs 0 (over nm m) ((fl, listOf #[] k) :: (rest ++ [])) := .mk m [] [] Apart.nil rfl Zip.nil
  rw [over_self hm]
  rwa [List.append_nil] at W
theorem JE.step {nm : List (Str × Value)} {fl : Addr} {rest : Led} {prs : List (Option Str × Value)} {j : Nat} {ps : List Value} {k1 k9 : Nat} {tl own all : Led} {o1 : Obj} {g v : Value} {o : Option Str} {tp : Addr}
    {h₀ : Heap} {L : Addr} {s₁ : Shared} {h' : Heap} {tk : Nat} {m' : Str → Option Value}
    (ap : Apart tl ((fl, listOf #[] 0) :: rest)) (lp : ps.length = j) (zp : Zip (PairAt tl) (prs.take j) ps) (hoff : Apart own ((fl, o1) :: (rest ++ tl))) (F : Fr h₀ L h' m') (N : News h₀ L h' all)
    (ha1 : ∀ p ∈ (fl, listOf (ps.toArray.push (.ref tp)) k1) :: (tp, ({ cls := .type "tuple", data := .seq #[g, v] k9 } : Obj)) :: (rest ++ tl), p ∈ all) (ha2 : ∀ p ∈ own, p ∈ all) (hm : Has m' nm)
    (ep : prs[j]? = some (o, v)) (hg : TagIs o g) (ha : ∀ p ∈ (fl, o1) :: (rest ++ (tl ++ own)), p.1 ≠ tp) :
    TbEnd h₀ L (JE nm fl rest prs (j + 1)) own s₁ { s₁ with heap := h', toks := tk } := by
  have W : JE nm fl rest prs (j + 1) m' ((fl, listOf (ps ++ [Value.ref tp]).toArray k1) :: (rest ++ ((tp, ({ cls := .type "tuple", data := .seq #[g, v] k9 } : Obj)) :: tl))) := by
    rw [over_self hm]
    refine .mk m' _ _ ?_ (by simp [lp]) ?_
    · exact Apart.consNe (fun q hq => by
        rcases List.mem_cons.mp hq with rfl | hq
        · exact ha (fl, o1) (.head _)
        · exact ha q (.tail _ (List.mem_append_left _ hq))) ap
    · exact (zp.mono fun _ _ h => h.mono fun _ h => .tail _ h).take_snoc ep ⟨tp, g, k9, rfl, .head _, hg⟩
  refine turn_end F N ?_ ha2 ?_ W
  · intro p hp
    rw [← List.push_toArray] at hp
    refine ha1 p ?_
    simp only [List.mem_cons, List.mem_append] at hp ⊢
    rcases hp with h | h | h | h <;> simp only [h, true_or, or_true]
  · exact Apart.consR (Apart.ne2 hoff (.head _)) (Apart.appR (hoff.sub fun p hp => .tail _ (List.mem_append_left _ hp)) (Apart.consR (fun p hp => ha p (.tail _ (List.mem_append_right _ (List.mem_append_right _ hp)))) (hoff.sub fun p hp => .tail _ (List.mem_append_right _ hp))))
section
variable {w : World} {p : Program} {loose : List Str} {mean : ExcName → Option Value} {mg mb : Str → Option Value}
theorem elem_ctr {nb : Bool} {vs gs : List Value} {cs : List Str} {v : Value} {Z news : Led} (hr : RowAt w vs gs Z nb v) (hz : ∀ p ∈ Z, p ∈ news) (zg : Zip StrIs cs gs) (lg : gs.length = vs.length) (lv : vs.length ≤ 20) :
    Ctr w p loose mean mg mb 175 16 [v] news (ElemR ((cs.map (told nb)).zip vs) news) := by
  cases hr with
  | plain x dx l hx hdx hl =>
    replace hx := hz _ hx; replace hdx := hz _ hdx; replace hl := hz _ hl
    unfold Ctr
    k_fill
    intro dp un gd cn cs' a ccd cl outer A₀ base h₀ L m s Q E B F X N T hk hd hu hret
    refine wpAny_call ?_
    k_dflt (walk_at "my_enter")
    k_steps
    rename_i o9 dval0 _ _ _ fl hA l1a hB F0 N0
    have dval : o9.data = Data.cell (some (.ref x)) := dval0
    clear dval0 F0 N0
    refine Stop.mk ?_
    refine rloop vs.length (fun j m nw => JE [(Str.ofString "found", .ref fl), (Str.ofString "names", .none)] fl ((L' + 1, o9) :: news) ((cs.map (told false)).zip vs) j m nw) rfl rg' rfl (by omega) F' N' (.start (by walk_at "my_over")) ?_ ?_
    · rintro j tj m1 nw h2 tk2 own hj hoff ⟨u, ps, tl, ap, lp, zp⟩ F2 N2
      simp only [List.cons_append, List.append_assoc, List.nil_append] at N2
      obtain ⟨c, gc, ec, eg, hc⟩ := zg.at (i := j) (by omega)
      obtain ⟨vi, ev⟩ : ∃ vi, vs[j]? = some vi := ⟨_, List.getElem?_eq_getElem hj⟩
      have ev' : vs[((j : Nat) : Int).toNat]? = some vi := ev
      have eg' : gs[((j : Nat) : Int).toNat]? = some gc := eg
      have ep : ((cs.map (told false)).zip vs)[j]? = some (told false c, vi) := by rw [List.getElem?_zip_eq_some, List.getElem?_map, ec]; exact ⟨rfl, ev⟩
      obtain ⟨okc, tc, rfl⟩ := hc
      k_steps
      exact JE.step ap lp zp hoff (by k_asm) (by k_asm) (by walk_at "my_sub") (by walk_at "my_sub") (by walk_at "my_over") ep rfl (by walk_at "my_all")
    · rintro m1 nw h2 tk2 ⟨u, ps, tl, ap, lp, zp⟩ F2 N2
      rw [show ((cs.map (told false)).zip vs).take vs.length = (cs.map (told false)).zip vs from List.take_of_length_le (by rw [List.length_zip]; exact Nat.min_le_right _ _)] at zp
      k_steps
      exact hret _ _ _ _ (by k_asm) (nsub (by k_asm) (by walk_at "my_sub")) (.mk fl ps ((fl, listOf ps.toArray _) :: tl) (.head _) (zp.mono fun _ _ h => h.mono fun _ h => .tail _ h) (by walk_at "my_apart"))
  | tags x dx l ad nx ndx nl hx hdx hl had hod lo hkv hnx hndx hnl =>
    replace hx := hz _ hx; replace hdx := hz _ hdx; replace hl := hz _ hl; replace had := hz _ had; replace hnx := hz _ hnx; replace hndx := hz _ hndx; replace hnl := hz _ hnl
    unfold Ctr
    k_fill
    intro dp un gd cn cs' a ccd cl outer A₀ base h₀ L m s Q E B F X N T hk hd hu hret
    refine wpAny_call ?_
    k_dflt (walk_at "my_enter")
    k_steps
    rename_i o9 dval0 _ _ _ _ _ fl hA l1a hB F0 N0
    have dval : o9.data = Data.cell (some (.ref x)) := dval0
    clear dval0 F0 N0
    refine Stop.mk ?_
    refine rloop vs.length (fun j m nw => JE [(Str.ofString "found", .ref fl), (Str.ofString "names", .ref nx)] fl ((L' + 1, o9) :: news) ((cs.map (told true)).zip vs) j m nw) rfl rg' rfl (by omega) F' N' (.start (by walk_at "my_over")) ?_ ?_
    · rintro j tj m1 nw h2 tk2 own hj hoff ⟨u, ps, tl, ap, lp, zp⟩ F2 N2
      simp only [List.cons_append, List.append_assoc, List.nil_append] at N2
      obtain ⟨c, gc, ec, eg, hc⟩ := zg.at (i := j) (by omega)
      obtain ⟨vi, ev⟩ : ∃ vi, vs[j]? = some vi := ⟨_, List.getElem?_eq_getElem hj⟩
      have ev' : vs[((j : Nat) : Int).toNat]? = some vi := ev
      have eg' : gs[((j : Nat) : Int).toNat]? = some gc := eg
      have ep : ((cs.map (told true)).zip vs)[j]? = some (told true c, vi) := by rw [List.getElem?_zip_eq_some, List.getElem?_map, ec]; exact ⟨rfl, ev⟩
      obtain ⟨okc, tc, rfl⟩ := hc
      by_cases hne : c = Str.ofString ""
      · subst hne
        k_steps
        exact JE.step ap lp zp hoff (by k_asm) (by k_asm) (by walk_at "my_sub") (by walk_at "my_sub") (by walk_at "my_over") ep (by simp [told, TagIs]) (by walk_at "my_all")
      · have htd : told true c = some c := by simp [told, hne]
        k_steps
        exact JE.step ap lp zp hoff (by k_asm) (by k_asm) (by walk_at "my_sub") (by walk_at "my_sub") (by walk_at "my_over") ep (by rw [htd]; exact ⟨okc, _, rfl⟩) (by walk_at "my_all")
    · rintro m1 nw h2 tk2 ⟨u, ps, tl, ap, lp, zp⟩ F2 N2
      rw [show ((cs.map (told true)).zip vs).take vs.length = (cs.map (told true)).zip vs from List.take_of_length_le (by rw [List.length_zip]; exact Nat.min_le_right _ _)] at zp
      k_steps
      exact hret _ _ _ _ (by k_asm) (nsub (by k_asm) (by walk_at "my_sub")) (.mk fl ps ((fl, listOf ps.toArray _) :: tl) (.head _) (zp.mono fun _ _ h => h.mono fun _ h => .tail _ h) (by walk_at "my_apart"))
end
end Mine
namespace Mine
abbrev symT (s : String) : Tr := .sym (Str.ofString s)
def rowTs (ts : List Tr) : Nat → List Tr
  | 0 => []
  | 1 => [symT "f"]
  | 2 => [symT "f", symT "a"]
  | 3 => [symT "f", symT "a"] ++ ts
  | _ => [symT "f", symT "a"] ++ ts ++ [symT "b"]
def rowOs (os : List (Option Str)) : Nat → List (Option Str)
  | 0 => []
  | 1 => [none]
  | 2 => [none, none]
  | 3 => [none, none] ++ os
  | _ => [none, none] ++ os ++ [some (Str.ofString "z")]
abbrev rowT (ts : List Tr) (os : List (Option Str)) : Tr := .call (rowTs ts 4) (rowOs os 4)
abbrev beforeT : Tr := .call [symT "f", symT "a", .call [symT "..", symT "row"] [none, none], symT "b"] [none, none, none, some (Str.ofString "z")]
abbrev plainT : Tr := .call [symT "f", symT "a", symT "...", symT "b"] [none, none, none, some (Str.ofString "z")]
/-- items and tags grow, the flags of the values may be set -/
inductive JR (nm : List (Str × Value)) (a1 a2 : Addr) (Z Zb base : Led) (T : List Tr) (O : List (Option Str)) : (Str → Option Value) → Led → Prop
  | mk (u : Str → Option Value) (ys gs : List Value) {k1 k2 : Nat} (Z' : Led) (hs : Sh Z Z') (hw : Within Z' Z) (zt : Zip (TIn (Z' ++ Zb) 1) T ys) (zg : Zip TagIs O gs) :
    JR nm a1 a2 Z Zb base T O (over nm u) ((a2, listOf gs.toArray k2) :: (a1, listOf ys.toArray k1) :: (Z' ++ base))
theorem JR.start {nm : List (Str × Value)} {a1 a2 : Addr} {Z Zb base : Led} {m : Str → Option Value} {k1 k2 : Nat} (hm : Has m nm) : JR nm a1 a2 Z Zb base [] [] m ((a2, listOf #[] k2) :: (a1, listOf #[] k1) :: (Z ++ base)) := by
  rw [over_self hm]
  exact .mk m [] [] Z Sh.refl Within.refl Zip.nil Zip.nil
theorem JR.at {nm : List (Str × Value)} {a1 a2 : Addr} {Z Zb base : Led} {T : List Tr} {O : List (Option Str)} {ys gs : List Value} {k1 k2 : Nat} {Z' : Led} {m : Str → Option Value} (hm : Has m nm) (hs : Sh Z Z') (hw : Within Z' Z) (zt : Zip (TIn (Z' ++ Zb) 1) T ys) (zg : Zip TagIs O gs) :
    JR nm a1 a2 Z Zb base T O m ((a2, listOf gs.toArray k2) :: (a1, listOf ys.toArray k1) :: (Z' ++ base)) := by
  rw [over_self hm]
  exact .mk m ys gs Z' hs hw zt zg
theorem Apart.unsh {t Z Z' : Led} (h : Apart t Z') (s : Sh Z Z') : Apart Z t := fun p hp q hq e => by
  obtain ⟨o', m, _⟩ := s p hp
  exact h q hq (p.1, o') m e.symm
theorem zip_at {os : List (Option Str)} {vs : List Value} {i : Nat} {x : Option Str × Value} (h : (os.zip vs)[i]? = some x) : os[i]? = some x.1 ∧ vs[i]? = some x.2 := List.getElem?_zip_eq_some.mp h
theorem take_next {α : Type} {A l : List α} {i : Nat} {x : α} (h : l[i]? = some x) : A ++ l.take (i + 1) = (A ++ l.take i) ++ [x] := by
  rw [List.take_add_one, h, List.append_assoc]; rfl
theorem JR.fin {nm : List (Str × Value)} {a1 a2 : Addr} {Z Zb base : Led} {T : List Tr} {O : List (Option Str)} {ys gs : List Value} {k1 k2 : Nat} {Z1 Z2 own all : Led} {o1 o2 : Obj} {h₀ : Heap} {L : Addr} {s₁ : Shared} {h' : Heap} {tk : Nat} {m' : Str → Option Value}
    (hs : Sh Z Z2) (hw : Within Z2 Z) (zt : Zip (TIn (Z2 ++ Zb) 1) T ys) (zg : Zip TagIs O gs) (hoff : Apart own ((a2, o2) :: (a1, o1) :: (Z1 ++ base))) (hw2 : Within Z2 Z1) (F : Fr h₀ L h' m') (N : News h₀ L h' all)
    (ha1 : ∀ p ∈ (a2, listOf gs.toArray k2) :: (a1, listOf ys.toArray k1) :: (Z2 ++ base), p ∈ all) (ha2 : ∀ p ∈ own, p ∈ all) (hm : Has m' nm) :
    TbEnd h₀ L (JR nm a1 a2 Z Zb base T O) own s₁ { s₁ with heap := h', toks := tk } := by
  have W : JR nm a1 a2 Z Zb base T O m' ((a2, listOf gs.toArray k2) :: (a1, listOf ys.toArray k1) :: (Z2 ++ base)) := by
    rw [over_self hm]
    exact .mk m' ys gs Z2 hs hw zt zg
  refine turn_end F N ha1 ha2 ?_ W
  exact Apart.consR (Apart.ne2 hoff (.head _)) (Apart.consR (Apart.ne2 hoff (.tail _ (.head _))) (Apart.appR (Apart.withinR (hoff.sub fun p hp => .tail _ (.tail _ (List.mem_append_left _ hp))) hw2) (hoff.sub fun p hp => .tail _ (.tail _ (List.mem_append_right _ hp)))))
theorem JR.step {nm : List (Str × Value)} {a1 a2 : Addr} {Z Zb base : Led} {T : List Tr} {O : List (Option Str)} {ys gs : List Value} {k1 k2 : Nat} {Z1 Z2 own all : Led} {o1 o2 : Obj} {h₀ : Heap} {L : Addr} {s₁ : Shared} {h' : Heap} {tk : Nat} {m' : Str → Option Value} {t : Tr} {o : Option Str} {r9 g9 : Value}
    (hs : Sh Z Z1) (hw : Within Z1 Z) (zt : Zip (TIn (Z1 ++ Zb) 1) T ys) (zg : Zip TagIs O gs) (hoff : Apart own ((a2, o2) :: (a1, o1) :: (Z1 ++ base))) (hs2 : Sh Z1 Z2) (hw2 : Within Z2 Z1) (hr : TIn (Z2 ++ Zb) 1 t r9) (hg : TagIs o g9) (F : Fr h₀ L h' m') (N : News h₀ L h' all)
    (ha1 : ∀ p ∈ (a2, listOf (gs.toArray.push g9) k2) :: (a1, listOf (ys.toArray.push r9) k1) :: (Z2 ++ base), p ∈ all) (ha2 : ∀ p ∈ own, p ∈ all) (hm : Has m' nm) :
    TbEnd h₀ L (JR nm a1 a2 Z Zb base (T ++ [t]) (O ++ [o])) own s₁ { s₁ with heap := h', toks := tk } :=
  JR.fin (hs.trans hs2) (hw2.trans hw) ((zt.mono fun _ _ h => h.sh hs2.app).snoc hr) (zg.snoc hg) hoff hw2 F N (by rw [← List.push_toArray, ← List.push_toArray]; exact ha1) ha2 hm
/-- what the law says of spread -/
def SpreadC (w : World) (p : Program) (loose : List Str) (mean : ExcName → Option Value) (mg mb : Str → Option Value) (Z0 : Led) (pk : Addr) (rv : Value) : Prop :=
  ∀ {news : Led} {v : Value} (_h0 : ∀ p ∈ Z0, p ∈ news) (_hs : SymAt news (Str.ofString "row") v), Ctr w p loose mean mg mb pk 16 [v] news (fun r news' => r = rv ∧ news' = news)
theorem SpreadC.use {w : World} {p : Program} {loose : List Str} {mean : ExcName → Option Value} {mg mb : Str → Option Value} {Z0 : Led} {pk : Addr} {rv : Value} (C : SpreadC w p loose mean mg mb Z0 pk rv) {Zs news : Led} {v : Value} (h0 : ∀ p ∈ Z0, p ∈ news) (hs : SymAt Zs (Str.ofString "row") v) (hz : ∀ p ∈ Zs, p ∈ news) :
    Ctr w p loose mean mg mb pk 16 [v] news (fun r news' => r = rv ∧ news' = news) := C h0 (hs.mono hz)
inductive RowR (ts : List Tr) (os : List (Option Str)) (Z Zb base : Led) : Value → Led → Prop
  | mk (r : Value) (Z' tl : Led) (hs : Sh Z Z') (hw : Within Z' Z) (ht : TIn (Z' ++ (Zb ++ tl)) 2 (rowT ts os) r) (ha : Apart tl (Z ++ base)) : RowR ts os Z Zb base r (Z' ++ (base ++ tl))
theorem rowTs_len {ts : List Tr} {j : Nat} : (rowTs ts j).length ≤ 3 + ts.length := by
  unfold rowTs; split <;> simp <;> omega
theorem rowOs_len {os : List (Option Str)} {j : Nat} : (rowOs os j).length ≤ 3 + os.length := by
  unfold rowOs; split <;> simp <;> omega
theorem row_sym {X : Tr} {ts : List Tr} {os : List (Option Str)} {j : Nat} {ti : Tr} {oi : Option Str} (hj : j = 0 ∨ j = 1 ∨ j = 3) (et : [symT "f", symT "a", X, symT "b"][j]? = some ti) (eo : [none, none, none, some (Str.ofString "z")][j]? = some oi) :
    ∃ n, ti = .sym n ∧ n ∈ [Str.ofString "f", Str.ofString "a", Str.ofString "b"] ∧ rowTs ts (j + 1) = rowTs ts j ++ [.sym n] ∧ rowOs os (j + 1) = rowOs os j ++ [oi] := by
  rcases hj with rfl | rfl | rfl <;> cases et <;> cases eo
  · exact ⟨_, rfl, .head _, rfl, rfl⟩
  · exact ⟨_, rfl, .tail _ (.head _), rfl, rfl⟩
  · exact ⟨_, rfl, .tail _ (.tail _ (.head _)), rfl, rfl⟩
section
variable {w : World} {p : Program} {loose : List Str} {mean : ExcName → Option Value} {mg mb : Str → Option Value}
theorem hole_dots {d : Nat} {n : Str} {v : Value} {Z news : Led} (ht : TIn Z (d + 1) (.call [.sym (Str.ofString ".."), .sym n] [none, none]) v) (hz : ∀ p ∈ Z, p ∈ news) : Ctr w p loose mean mg mb 182 16 [v] news (HoleR (Str.ofString "..") news) := by
  replace ht := ht.mono hz
  unfold Ctr
  k_fill
  intro dp un gd cn cs a ccd cl outer A₀ base h₀ L m s Q E B F X N T hk hd hu hret
  obtain ⟨d', vs, gs, hd', hc, ht20, zt⟩ := Tr_size ht
  obtain ⟨x, l, g, hx, hdx, hl, hg⟩ := hc
  have lv : vs.length = 2 := zt.1.symm
  obtain ⟨t0, v0, e0, ev0, hz0⟩ := zt.at (i := 0) (by omega)
  have ev' : vs[(0 : Int).toNat]? = some v0 := ev0
  cases e0
  obtain ⟨y, hy, hdy⟩ := (TIn_sym ▸ hz0 : SymAt news _ v0)
  refine wpAny_call ?_
  k_dflt (walk_at "my_enter")
  k_steps
  all_goals first | (exfalso; omega) | exact hret _ _ _ _ (by k_asm) (nsub (by k_asm) (by walk_at "my_sub")) .mk
end
end Mine
namespace Mine
section
variable {w : World} {p : Program} {loose : List Str} {mean : ExcName → Option Value} {mg mb : Str → Option Value}
theorem bq_row {nb : Bool} {ts : List Tr} {vs gs : List Value} {cs : List Str} {Z Zb base Z0 : Led} {bv rv : Value} {pk : Addr} {oc : Value} {od : Option Addr} {fd : FuncData} {sl : Array (Option Value)} (hpk : (pk, (⟨oc, od, .func fd, sl⟩ : Obj)) ∈ Z0) (S : SpreadC w p loose mean mg mb Z0 pk rv) (h0 : ∀ p ∈ Z0, p ∈ base)
    (zt : Zip (TIn Z 1) ts vs) (zg : Zip StrIs cs gs) (lg : gs.length = vs.length) (lv4 : vs.length ≤ 4) (ha : Apart Z base) (hb : TIn Zb 2 beforeT bv) (hzb : ∀ p ∈ Zb, p ∈ base) (hr : RowAt w vs gs base nb rv) :
    Ctr w p loose mean mg mb 189 64 [bv, .ref pk] (Z ++ base) (RowR ts (cs.map (told nb)) Z Zb base) := by
  have hnh : NotHole beforeT := fun n hn => by cases hn; exact ⟨by decide +kernel, by decide +kernel⟩
  have hb0 := hb
  rw [TIn_call] at hb
  obtain ⟨vs0, gs0, hc, lt20, ltg, zg0, zt0⟩ := hb
  obtain ⟨x, l, gg, hx, hdx, hl, hgl⟩ := hc.mono hzb
  have lv : vs0.length = 4 := zt0.1.symm
  have lgg : gs0.length = 4 := zg0.1.symm
  have hpkb := h0 _ hpk
  clear hc
  unfold Ctr
  k_fill
  intro dp un gd cn cs' a ccd cl outer A₀ base' h₀ L m s Q E B F X N T hk hd hu hret
  refine wpAny_call ?_
  k_dflt (walk_at "my_enter")
  k_steps
  refine Stop.mk ?_
  rename_i a1 _ la1 _ _ a2 _ la2 _ _ _
  (rename IsRange _ _ _ _ _ _ _ _ => rg); (rename News _ _ _ _ => N1); (rename Fr _ _ _ _ => F1)
  have hn1 : ∀ p ∈ Z ++ base, p.1 ≠ a1 := fun p hp => Nat.ne_of_lt (la1 p hp)
  have hn2 : ∀ p ∈ Z ++ base, p.1 ≠ a2 := ne_of_allLt la2.2
  have hn12 := la2.1
  refine rloop vs0.length (fun j m nw => JR [(Str.ofString "items", .ref a1), (Str.ofString "tags", .ref a2), (Str.ofString "e", .ref x), (Str.ofString "pick", .ref pk)] a1 a2 Z Zb base (rowTs ts j) (rowOs (cs.map (told nb)) j) m nw) rfl rg rfl (by omega) F1 N1 (.start (by walk_at "my_over")) ?_ ?_
  · rintro j tj m1 nw hh2 tk2 own hj hoff ⟨u, ys, gs', Z', hs, hw, hzt, hzg'⟩ F2 N2
    simp only [List.cons_append, List.append_assoc] at N2
    have hq1 : ∀ p ∈ Z', p.1 ≠ a1 := ne_within (all_left hn1) hw
    have hq2 : ∀ p ∈ Z', p.1 ≠ a2 := ne_within (all_left hn2) hw
    have lys : ys.length ≤ 7 := by have := hzt.1; have := rowTs_len (ts := ts) (j := j); have := zt.1; omega
    have lgs : gs'.length ≤ 7 := by have := hzg'.1; have := rowOs_len (os := cs.map (told nb)) (j := j); have e1 := zg.1; rw [List.length_map] at *; omega
    obtain ⟨ti, vi, et, ev, hzi⟩ := zt0.at hj
    obtain ⟨oi, gi, eo, eg, hgi⟩ := zg0.at (i := j) (by omega)
    have ev' : vs0[((j : Nat) : Int).toNat]? = some vi := ev
    have eg' : gs0[((j : Nat) : Int).toNat]? = some gi := eg
    have hj4 : j = 0 ∨ j = 2 ∨ j = 1 ∨ j = 3 := by omega
    rcases hj4 with rfl | rfl | hj4
    · cases et; cases eo
      have hnh' : NotHole (symT "f") := trivial
      have hzi0 := hzi
      obtain ⟨y, hy, hdy⟩ := ((TIn_sym ▸ hzi : SymAt Zb _ vi)).mono hzb
      k_steps
      exact JR.step hs hw hzt hzg' hoff Sh.refl Within.refl (TIn.mono (sub_appR2 fun _ h => h) hzi0) hgi (by k_asm) (by k_asm) (by walk_at "my_sub") (by walk_at "my_sub") (by walk_at "my_over")
    · cases et; cases eo
      obtain ⟨d', vs1, gs1, _, hc1, _, zt1⟩ := Tr_size hzi
      obtain ⟨y, ly, gy, hy, hdy, hly, hgy⟩ := hc1.mono hzb
      have lv1 : vs1.length = 2 := zt1.1.symm
      obtain ⟨t1, v1, e1, ev1, hz1⟩ := zt1.at (i := 1) (by omega)
      have ev1' : vs1[(1 : Int).toNat]? = some v1 := ev1
      cases e1
      have hs1 := (TIn_sym ▸ hz1 : SymAt Zb _ v1)
      k_steps
      have hZown : Apart Z own := (hoff.sub (b' := Z') fun p hp => .tail _ (.tail _ (List.mem_append_left _ hp))).unsh hs
      have hZtl : Apart Z tl9 := (ha9.sub (b' := Z') fun p hp => .tail _ (.tail _ (List.mem_append_left _ hp))).unsh hs
      refine lloop (vs := ps9) (fun i m nw => JR [(Str.ofString "items", .ref a1), (Str.ofString "tags", .ref a2), (Str.ofString "e", .ref x), (Str.ofString "pick", .ref pk)] a1 a2 Z Zb (base ++ (own ++ tl9)) (rowTs ts 2 ++ ts.take i) (rowOs (cs.map (told nb)) 2 ++ (cs.map (told nb)).take i) m nw) rfl F9 N9 (List.mem_cons_of_mem _ (List.mem_cons_of_mem _ (List.mem_append_right _ (List.mem_append_right _ (List.mem_append_right _ hfl9))))) (JR.at (by walk_at "my_over") hs hw (by simpa using hzt) (by simpa using hzg')) ?_ ?_ ?_
      · rintro i m nx ⟨u2, ys2, gs2, Z2, hs2, hw2, zt2, zg2⟩
        exact .tail _ (.tail _ (List.mem_append_right _ (List.mem_append_right _ (List.mem_append_right _ hfl9))))
      · rintro i v3 m3 nx3 h3 tk3 own3 hv3 hap3 ⟨u2, ys2, gs2, Z2, hs2, hw2, zt2, zg2⟩ F3 N3
        rename_i kA kB
        simp only [List.cons_append, List.append_assoc] at N3
        obtain ⟨ov, p3, eov, ep3, ⟨tp, g3, k9, rfl, htp, htg⟩⟩ := zp9.at (List.getElem?_eq_some_iff.mp hv3).1
        obtain rfl : Value.ref tp = v3 := Option.some.inj (ep3.symm.trans hv3)
        obtain ⟨eo3, evv⟩ := zip_at eov
        obtain ⟨t3, v3, et3, ev3, hz3⟩ := zt.at (List.getElem?_eq_some_iff.mp evv).1
        obtain rfl : ov.2 = v3 := Option.some.inj (evv.symm.trans ev3)
        have hq1' : ∀ p ∈ Z2, p.1 ≠ a1 := ne_within (all_left hn1) hw2
        have hq2' : ∀ p ∈ Z2, p.1 ≠ a2 := ne_within (all_left hn2) hw2
        have lys2 : ys2.length ≤ 7 := by have e1 := zt2.1; have e2 := zt.1; rw [List.length_append, List.length_take] at e1; simp only [rowTs, List.length_cons, List.length_nil] at e1; omega
        have lgs2 : gs2.length ≤ 7 := by have e1 := zg2.1; have e2 := zg.1; rw [List.length_append, List.length_take, List.length_map] at e1; simp only [rowOs, List.length_cons, List.length_nil] at e1; omega
        have hz4 := hz3.sh hs2
        have hap4 : Apart Z2 own3 := (hap3.sub (b' := Z2) fun p hp => .tail _ (.tail _ (List.mem_append_left _ hp))).symm
        have hap5 : Apart Z2 base := ha.within hw2
        have hap6 : Apart Z2 own := hZown.within hw2
        have hap7 : Apart Z2 tl9 := hZtl.within hw2
        k_steps
        refine Stop.mk ?_
        refine' Ctr.use ?k1 ?k2 ?k3 (nsub (l' := Z2 ++ ((a2, listOf gs2.toArray kB) :: (a1, listOf ys2.toArray kA) :: (base ++ (own ++ (tl9 ++ own3))))) ?k9 ?k4) ?k5 ?k6 (share_ctr hz4 (Apart.consR hq2' (Apart.consR hq1' (Apart.appR hap5 (Apart.appR hap6 (Apart.appR hap7 hap4)))))) ?k7 ?k8 ?_
        (case k1 => k_asm); (case k2 => k_asm); (case k3 => k_asm); (case k9 => k_asm); (case k4 => walk_at "my_sub"); (case k5 => k_asm); (case k6 => first | exact rfl | assumption); (case k7 => ktr_room); (case k8 => ktr_units)
        rintro r9 n9 h9 tk9 F9 N9 ⟨Z3, hs3, hw3⟩
        replace N9 : News _ _ h9 ((a2, listOf gs2.toArray kB) :: (a1, listOf ys2.toArray kA) :: (Z3 ++ (base ++ (own ++ (tl9 ++ own3))))) := nsub N9 (by walk_at "my_sub")
        have hq1'' : ∀ p ∈ Z3, p.1 ≠ a1 := ne_within hq1' hw3
        have hq2'' : ∀ p ∈ Z3, p.1 ≠ a2 := ne_within hq2' hw3
        k_steps
        rw [take_next et3, take_next eo3]
        exact JR.step hs2 hw2 zt2 zg2 hap3 hs3 hw3 (TIn.mono (sub_appR1 fun _ h => h) (hz4.sh hs3)) htg (by k_asm) (by k_asm) (by walk_at "my_sub") (by walk_at "my_sub") (by walk_at "my_over")
      · rintro m3 nx3 h3 tk3 ⟨u2, ys2, gs2, Z2, hs2, hw2, zt2, zg2⟩ F3 N3
        have e1 : ts.take ps9.length = ts := List.take_of_length_le (by have e1 := zp9.1; have e2 := zt.1; have e3 := zg.1; rw [List.length_zip, List.length_map] at e1; omega)
        have e2 : (cs.map (told nb)).take ps9.length = cs.map (told nb) := List.take_of_length_le (by have e1 := zp9.1; have e2 := zt.1; have e3 := zg.1; rw [List.length_zip, List.length_map] at e1; rw [List.length_map]; omega)
        rw [e1] at zt2
        rw [e2] at zg2
        k_steps
        exact JR.fin hs2 hw2 zt2 zg2 hoff (hw2.trans hs.within) (by k_asm) (by k_asm) (by walk_at "my_sub") (by walk_at "my_sub") (by walk_at "my_over")
    · obtain ⟨nm, rfl, _, eT, eO⟩ := row_sym (ts := ts) (os := cs.map (told nb)) (hj4.elim (fun h => .inr (.inl h)) fun h => .inr (.inr h)) et eo
      have hj0 : 0 < j := by omega
      have hnh' : NotHole (.sym nm) := trivial
      have hzi0 := hzi
      obtain ⟨y, hy, hdy⟩ := ((TIn_sym ▸ hzi : SymAt Zb _ vi)).mono hzb
      rw [eT, eO]
      clear hj4 et eo
      k_steps
      exact JR.step hs hw hzt hzg' hoff Sh.refl Within.refl (TIn.mono (sub_appR2 fun _ h => h) hzi0) hgi (by k_asm) (by k_asm) (by walk_at "my_sub") (by walk_at "my_sub") (by walk_at "my_over")
  · rintro m1 nw hh2 tk2 ⟨u, ys, gs', Z', hs, hw, hzt, hzg'⟩ F2 N2
    rw [lv] at hzt hzg'
    k_steps
    have hq1 : ∀ p ∈ Z', p.1 ≠ a1 := ne_within (all_left hn1) hw
    have hq2 : ∀ p ∈ Z', p.1 ≠ a2 := ne_within (all_left hn2) hw
    have e1 := zt.1
    have e3 := zg.1
    refine hret _ _ _ _ (by k_asm) (nsub (by k_asm) (by walk_at "my_sub")) (.mk _ Z' [(x', _), (d', _), (a1, _), (a2, _)] hs hw (TIn.mono (by walk_at "my_sub") (TIn.mk_call2 (Z := Z' ++ Zb) (tl := []) (by have := rowTs_len (ts := ts) (j := 4); omega) (by simp [rowTs, rowOs]; omega) hzg' (by rw [List.append_nil]; exact hzt))) (Apart.shR ?_ hs))
    walk_at "my_apart"
end
end Mine
namespace Mine
section
variable {w : World} {p : Program} {loose : List Str} {mean : ExcName → Option Value} {mg mb : Str → Option Value}
theorem sub_row {os : List (Option Str)} {ts : List Tr} {vs ps9 : List Value} {Z Zb base : Led} {bv : Value} {tb pl : Addr} {o9 : Obj} {k9' : Nat} {kvs : List (Str × Value)} (ht : (tb, o9) ∈ base) (hdo : o9.IsDictOf (PySem.strKind PySem.Challenge.rw_pq1394_01.row.prog w) kvs) (lo : (tb == sysModules) = false)
    (hv0 : PySem.valueAt kvs (Str.ofString "...") = some (.ref pl)) (hv1 : PySem.valueAt kvs (Str.ofString "f") = none) (hv2 : PySem.valueAt kvs (Str.ofString "a") = none) (hv3 : PySem.valueAt kvs (Str.ofString "b") = none) (hpl : (pl, listOf ps9.toArray k9') ∈ base) (zp9 : Zip (PairAt base) (os.zip vs) ps9)
    (zt : Zip (TIn Z 1) ts vs) (lo4 : os.length = vs.length) (lv4 : vs.length ≤ 4) (ha : Apart Z base) (hb : TIn Zb 2 plainT bv) (hzb : ∀ p ∈ Zb, p ∈ base) :
    Ctr w p loose mean mg mb 149 64 [bv, .ref tb] (Z ++ base) (RowR ts os Z Zb base) := by
  have hb0 := hb
  rw [TIn_call] at hb
  obtain ⟨vs0, gs0, hc, lt20, ltg, zg0, zt0⟩ := hb
  obtain ⟨x, l, gg, hx, hdx, hl, hgl⟩ := hc.mono hzb
  have lv : vs0.length = 4 := zt0.1.symm
  have lgg : gs0.length = 4 := zg0.1.symm
  clear hc
  unfold Ctr
  k_fill
  intro dp un gd cn cs' a ccd cl outer A₀ base' h₀ L m s Q E B F X N T hk hd hu hret
  refine wpAny_call ?_
  k_dflt (walk_at "my_enter")
  k_steps
  refine Stop.mk ?_
  rename_i a1 _ la1 _ _ a2 _ la2 _ _ _
  (rename IsRange _ _ _ _ _ _ _ _ => rg); (rename News _ _ _ _ => N1); (rename Fr _ _ _ _ => F1)
  have hn1 : ∀ p ∈ Z ++ base, p.1 ≠ a1 := fun p hp => Nat.ne_of_lt (la1 p hp)
  have hn2 : ∀ p ∈ Z ++ base, p.1 ≠ a2 := ne_of_allLt la2.2
  have hn12 := la2.1
  refine rloop vs0.length (fun j m nw => JR [(Str.ofString "items", .ref a1), (Str.ofString "tags", .ref a2), (Str.ofString "e", .ref x), (Str.ofString "table", .ref tb)] a1 a2 Z Zb base (rowTs ts j) (rowOs os j) m nw) rfl rg rfl (by omega) F1 N1 (.start (by walk_at "my_over")) ?_ ?_
  · rintro j tj m1 nw hh2 tk2 own hj hoff ⟨u, ys, gs', Z', hs, hw, hzt, hzg'⟩ F2 N2
    simp only [List.cons_append, List.append_assoc] at N2
    have hq1 : ∀ p ∈ Z', p.1 ≠ a1 := ne_within (all_left hn1) hw
    have hq2 : ∀ p ∈ Z', p.1 ≠ a2 := ne_within (all_left hn2) hw
    have lys : ys.length ≤ 7 := by have := hzt.1; have := rowTs_len (ts := ts) (j := j); have := zt.1; omega
    have lgs : gs'.length ≤ 7 := by have := hzg'.1; have := rowOs_len (os := os) (j := j); omega
    obtain ⟨ti, vi, et, ev, hzi⟩ := zt0.at hj
    obtain ⟨oi, gi, eo, eg, hgi⟩ := zg0.at (i := j) (by omega)
    have ev' : vs0[((j : Nat) : Int).toNat]? = some vi := ev
    have eg' : gs0[((j : Nat) : Int).toNat]? = some gi := eg
    have hj4 : j = 2 ∨ j = 0 ∨ j = 1 ∨ j = 3 := by omega
    rcases hj4 with rfl | hj4
    · cases et; cases eo
      obtain ⟨y, hy, hdy⟩ := ((TIn_sym ▸ hzi : SymAt Zb _ vi)).mono hzb
      k_steps
      have hZown : Apart Z own := (hoff.sub (b' := Z') fun p hp => .tail _ (.tail _ (List.mem_append_left _ hp))).unsh hs
      (rename News _ _ _ _ => N9); (rename Fr _ _ _ _ => F9)
      refine lloop (vs := ps9) (fun i m nw => JR [(Str.ofString "items", .ref a1), (Str.ofString "tags", .ref a2), (Str.ofString "e", .ref x), (Str.ofString "table", .ref tb)] a1 a2 Z Zb (base ++ own) (rowTs ts 2 ++ ts.take i) (rowOs os 2 ++ os.take i) m nw) rfl F9 N9 (List.mem_cons_of_mem _ (List.mem_cons_of_mem _ (List.mem_append_right _ (List.mem_append_left _ hpl)))) (JR.at (by walk_at "my_over") hs hw (by simpa using hzt) (by simpa using hzg')) ?_ ?_ ?_
      · rintro i m nx ⟨u2, ys2, gs2, Z2, hs2, hw2, zt2, zg2⟩
        exact .tail _ (.tail _ (List.mem_append_right _ (List.mem_append_left _ hpl)))
      · rintro i v3 m3 nx3 h3 tk3 own3 hv3 hap3 ⟨u2, ys2, gs2, Z2, hs2, hw2, zt2, zg2⟩ F3 N3
        rename_i kA kB
        simp only [List.cons_append, List.append_assoc] at N3
        obtain ⟨ov, p3, eov, ep3, ⟨tp, g3, k9, rfl, htp, htg⟩⟩ := zp9.at (List.getElem?_eq_some_iff.mp hv3).1
        obtain rfl : Value.ref tp = v3 := Option.some.inj (ep3.symm.trans hv3)
        obtain ⟨eo3, evv⟩ := zip_at eov
        obtain ⟨t3, v3, et3, ev3, hz3⟩ := zt.at (List.getElem?_eq_some_iff.mp evv).1
        obtain rfl : ov.2 = v3 := Option.some.inj (evv.symm.trans ev3)
        have hq1' : ∀ p ∈ Z2, p.1 ≠ a1 := ne_within (all_left hn1) hw2
        have hq2' : ∀ p ∈ Z2, p.1 ≠ a2 := ne_within (all_left hn2) hw2
        have lys2 : ys2.length ≤ 7 := by have e1 := zt2.1; have e2 := zt.1; rw [List.length_append, List.length_take] at e1; simp only [rowTs, List.length_cons, List.length_nil] at e1; omega
        have lgs2 : gs2.length ≤ 7 := by have e1 := zg2.1; rw [List.length_append, List.length_take] at e1; simp only [rowOs, List.length_cons, List.length_nil] at e1; omega
        have hz4 := hz3.sh hs2
        have hap4 : Apart Z2 own3 := (hap3.sub (b' := Z2) fun p hp => .tail _ (.tail _ (List.mem_append_left _ hp))).symm
        have hap5 : Apart Z2 base := ha.within hw2
        have hap6 : Apart Z2 own := hZown.within hw2
        k_steps
        refine Stop.mk ?_
        refine' Ctr.use ?k1 ?k2 ?k3 (nsub (l' := Z2 ++ ((a2, listOf gs2.toArray kB) :: (a1, listOf ys2.toArray kA) :: (base ++ (own ++ own3)))) ?k9 ?k4) ?k5 ?k6 (share_ctr hz4 (Apart.consR hq2' (Apart.consR hq1' (Apart.appR hap5 (Apart.appR hap6 hap4))))) ?k7 ?k8 ?_
        (case k1 => k_asm); (case k2 => k_asm); (case k3 => k_asm); (case k9 => k_asm); (case k4 => walk_at "my_sub"); (case k5 => k_asm); (case k6 => first | exact rfl | assumption); (case k7 => ktr_room); (case k8 => ktr_units)
        rintro r9 n9 h9 tk9 F9 N9 ⟨Z3, hs3, hw3⟩
        replace N9 : News _ _ h9 ((a2, listOf gs2.toArray kB) :: (a1, listOf ys2.toArray kA) :: (Z3 ++ (base ++ (own ++ own3)))) := nsub N9 (by walk_at "my_sub")
        have hq1'' : ∀ p ∈ Z3, p.1 ≠ a1 := ne_within hq1' hw3
        have hq2'' : ∀ p ∈ Z3, p.1 ≠ a2 := ne_within hq2' hw3
        k_steps
        rw [take_next et3, take_next eo3]
        exact JR.step hs2 hw2 zt2 zg2 hap3 hs3 hw3 (TIn.mono (sub_appR1 fun _ h => h) (hz4.sh hs3)) htg (by k_asm) (by k_asm) (by walk_at "my_sub") (by walk_at "my_sub") (by walk_at "my_over")
      · rintro m3 nx3 h3 tk3 ⟨u2, ys2, gs2, Z2, hs2, hw2, zt2, zg2⟩ F3 N3
        have e1 : ts.take ps9.length = ts := List.take_of_length_le (by have e1 := zp9.1; have e2 := zt.1; rw [List.length_zip] at e1; omega)
        have e2 : os.take ps9.length = os := List.take_of_length_le (by have e1 := zp9.1; rw [List.length_zip] at e1; omega)
        rw [e1] at zt2
        rw [e2] at zg2
        k_steps
        exact JR.fin hs2 hw2 zt2 zg2 hoff (hw2.trans hs.within) (by k_asm) (by k_asm) (by walk_at "my_sub") (by walk_at "my_sub") (by walk_at "my_over")
    · obtain ⟨nm, rfl, hmem, eT, eO⟩ := row_sym (ts := ts) (os := os) hj4 et eo
      have hne : nm ≠ Str.ofString "..." := by
        rintro rfl
        revert hmem
        decide +kernel
      have hvn : PySem.valueAt kvs nm = none := by
        simp only [List.mem_cons, List.not_mem_nil, or_false] at hmem
        rcases hmem with rfl | rfl | rfl <;> assumption
      have hzi0 := hzi
      obtain ⟨y, hy, hdy⟩ := ((TIn_sym ▸ hzi : SymAt Zb _ vi)).mono hzb
      rw [eT, eO]
      clear hmem hv1 hv2 hv3 hj4 et eo
      k_steps
      refine Stop.mk ?_
      refine wpAny_call ?_
      k_dflt (walk_at "my_enter")
      k_steps
      exact JR.step hs hw hzt hzg' hoff Sh.refl Within.refl (TIn.mono (sub_appR2 fun _ h => h) hzi0) hgi (by k_asm) (by k_asm) (by walk_at "my_sub") (by walk_at "my_sub") (by walk_at "my_over")
  · rintro m1 nw hh2 tk2 ⟨u, ys, gs', Z', hs, hw, hzt, hzg'⟩ F2 N2
    rw [lv] at hzt hzg'
    k_steps
    have hq1 : ∀ p ∈ Z', p.1 ≠ a1 := ne_within (all_left hn1) hw
    have hq2 : ∀ p ∈ Z', p.1 ≠ a2 := ne_within (all_left hn2) hw
    have e1 := zt.1
    refine hret _ _ _ _ (by k_asm) (nsub (by k_asm) (by walk_at "my_sub")) (.mk _ Z' [(x', _), (d', _), (a1, _), (a2, _)] hs hw (TIn.mono (by walk_at "my_sub") (TIn.mk_call2 (Z := Z' ++ Zb) (tl := []) (by have := rowTs_len (ts := ts) (j := 4); omega) (by simp [rowTs, rowOs]; omega) hzg' (by rw [List.append_nil]; exact hzt))) (Apart.shR ?_ hs))
    walk_at "my_apart"
end
end Mine
namespace Mine
/-- pick and holed stand too -/
inductive J8 (w : World) (p : Program) (loose : List Str) (mean : ExcName → Option Value) (mg mb : Str → Option Value) (sp D cT cR cA cG cV : Addr) (its : List Value) (k : Nat) (nas : Nat) : (Str → Option Value) → Led → Prop
  | mk (u : Str → Option Value) (eV kV hV : Value) (eT : Tr) (i : Int) {t k' ka : Nat} (tb aq pk c1 : Addr) (as : List Value) {o oT oR oA oG oV : Obj} {oc : Value} {od : Option Addr} {fd : FuncData} {sl : Array (Option Value)} {ps : Array Value} {vR vG vV : Option Value} (Z : Led) {kvs : List (Str × Value)} {ρ : Str → Option Tr}
    (hE : TIn Z 2 eT eV) (hg : GoodT 2 eT) (hK : TIn Z 2 eT kV) (hH : TIn Z 3 (inM true 2 eT) hV) (hd : o.IsDictOf (PySem.strKind PySem.Challenge.rw_pq1394_01.row.prog w) kvs) (hf : Fits ρ Z kvs)
    (dT : oT.data = .cell (some (.ref tb))) (dR : oR.data = .cell vR) (dA : oA.data = .cell (some (.ref aq))) (dG : oG.data = .cell vG) (dV : oV.data = .cell vV) (lo : 0 ≤ i) (hi : i ≤ 142) (htb : @LT.lt Nat _ sp tb)
    (PC : PickC w p loose mean mg mb ρ ((pk, ⟨oc, od, .func fd, sl⟩) :: (cT, oT) :: (cA, oA) :: (tb, o) :: Z) aq pk) (hal : as.length ≤ nas) (haq : @LT.lt Nat _ tb aq) (hps : ps = #[rawInt 190, rawInt 4, .ref c1])
    (hpq : @LT.lt Nat _ aq pk) (z : Apart Z ((pk, nil0) :: (aq, nil0) :: (tb, nil0) :: fixA sp D cT cR cA cG cV)) :
    J8 w p loose mean mg mb sp D cT cR cA cG cV its k nas (over [(Str.ofString "spring", .ref sp), (Str.ofString "e", eV), (Str.ofString "kept_now", kV), (Str.ofString "pick", .ref pk), (Str.ofString "holed", hV)] u)
      ((aq, listOf as.toArray ka) :: (pk, ⟨oc, od, .func fd, sl⟩) :: (tb, o) :: (sp, listOf #[.int i t, .ref D] k') :: (D, listOf its.toArray k) :: (cT, oT) :: (cR, oR) :: (cA, oA) :: (cG, oG) :: (cV, oV) :: (222, tabObj ps) :: Z)
end Mine
namespace Mine
theorem ne_fst {l l' : Led} {a : Addr} (h : ∀ p ∈ l, p.1 ≠ a) (e : l.map Prod.fst = l'.map Prod.fst) : ∀ p ∈ l', p.1 ≠ a := fun p hp => by
  obtain ⟨q, hq, e'⟩ := List.mem_map.mp (e.symm ▸ List.mem_map_of_mem (f := Prod.fst) hp : p.1 ∈ l.map Prod.fst)
  exact e' ▸ h q hq
theorem Apart.fst {l l' b : Led} (h : Apart l b) (e : l.map Prod.fst = l'.map Prod.fst) : Apart l' b := fun p hp q hq => by
  obtain ⟨r, hr, e'⟩ := List.mem_map.mp (e.symm ▸ List.mem_map_of_mem (f := Prod.fst) hp : p.1 ∈ l.map Prod.fst)
  exact e' ▸ h r hr q hq
theorem TIn.out {Z : Led} {d : Nat} {t u : Tr} {v : Value} (h : TIn Z d t v) (e : t = u) : TIn Z d u v := e ▸ h
end Mine
namespace Mine
/-- spring, e, kept_now, pick stand -/
inductive J9 (sp D cT cR cA cG cV : Addr) (its : List Value) (k : Nat) : (Str → Option Value) → Led → Prop
  | mk (u : Str → Option Value) (eV kV : Value) (eT : Tr) (i : Int) {t k' : Nat} (pk c1 : Addr) {oT oR oA oG oV : Obj} {oc : Value} {od : Option Addr} {fd : FuncData} {sl : Array (Option Value)} {ps : Array Value} {vT vR vA vG vV : Option Value} (Z : Led)
    (hE : TIn Z 2 eT eV) (hg : GoodT 2 eT) (hK : TIn Z 2 eT kV) (dT : oT.data = .cell vT) (dR : oR.data = .cell vR) (dA : oA.data = .cell vA) (dG : oG.data = .cell vG) (dV : oV.data = .cell vV) (lo : 0 ≤ i) (hi : i ≤ 142) (hpq : @LT.lt Nat _ sp pk) (hps : ps = #[rawInt 190, rawInt 4, .ref c1])
    (z : Apart Z ((pk, nil0) :: fixA sp D cT cR cA cG cV)) :
    J9 sp D cT cR cA cG cV its k (over [(Str.ofString "spring", .ref sp), (Str.ofString "e", eV), (Str.ofString "kept_now", kV), (Str.ofString "pick", .ref pk)] u)
      ((pk, ⟨oc, od, .func fd, sl⟩) :: (sp, listOf #[.int i t, .ref D] k') :: (D, listOf its.toArray k) :: (cT, oT) :: (cR, oR) :: (cA, oA) :: (cG, oG) :: (cV, oV) :: (222, tabObj ps) :: Z)
/-- spring stands -/
inductive J11 (sp D cT cR cA cG cV : Addr) (its : List Value) (k : Nat) : (Str → Option Value) → Led → Prop
  | mk (u : Str → Option Value) (i : Int) {t k' : Nat} (c1 : Addr) {oT oR oA oG oV : Obj} {ps : Array Value} {vT vR vA vG vV : Option Value}
    (dT : oT.data = .cell vT) (dR : oR.data = .cell vR) (dA : oA.data = .cell vA) (dG : oG.data = .cell vG) (dV : oV.data = .cell vV) (lo : 0 ≤ i) (hi : i ≤ 142) (hps : ps = #[rawInt 190, rawInt 4, .ref c1]) :
    J11 sp D cT cR cA cG cV its k (over [(Str.ofString "spring", .ref sp)] u)
      [(sp, listOf #[.int i t, .ref D] k'), (D, listOf its.toArray k), (cT, oT), (cR, oR), (cA, oA), (cG, oG), (cV, oV), (222, tabObj ps)]
end Mine
namespace Mine
/-- and asked is a new list -/
inductive J10 (sp D cT cR cA cG cV : Addr) (its : List Value) (k : Nat) : (Str → Option Value) → Led → Prop
  | mk (u : Str → Option Value) (eV kV : Value) (eT : Tr) (i : Int) {t k' ka : Nat} (aq pk c1 : Addr) (as : List Value) {oT oR oA oG oV : Obj} {oc : Value} {od : Option Addr} {fd : FuncData} {sl : Array (Option Value)} {ps : Array Value} {vT vR vG vV : Option Value} (Z : Led) (has : as = [])
    (hE : TIn Z 2 eT eV) (hg : GoodT 2 eT) (hK : TIn Z 2 eT kV) (dT : oT.data = .cell vT) (dR : oR.data = .cell vR) (dA : oA.data = .cell (some (.ref aq))) (dG : oG.data = .cell vG) (dV : oV.data = .cell vV) (lo : 0 ≤ i) (hi : i ≤ 142) (hpq : @LT.lt Nat _ sp pk) (haq : @LT.lt Nat _ pk aq) (hps : ps = #[rawInt 190, rawInt 4, .ref c1])
    (z : Apart Z ((aq, nil0) :: (pk, nil0) :: fixA sp D cT cR cA cG cV)) :
    J10 sp D cT cR cA cG cV its k (over [(Str.ofString "spring", .ref sp), (Str.ofString "e", eV), (Str.ofString "kept_now", kV), (Str.ofString "pick", .ref pk)] u)
      ((aq, listOf as.toArray ka) :: (pk, ⟨oc, od, .func fd, sl⟩) :: (sp, listOf #[.int i t, .ref D] k') :: (D, listOf its.toArray k) :: (cT, oT) :: (cR, oR) :: (cA, oA) :: (cG, oG) :: (cV, oV) :: (222, tabObj ps) :: Z)
end Mine
namespace Mine
theorem ne_nil_led {prog : Program} {w : World} {A : Around} {E : Value → Shared → Prop} {s : Shared} {h₀ : Heap} {L : Addr} {news : Led} {Q : Value → Shared → Prop} {a b : Addr} {as : List Value} {k k' : Nat} (N : News h₀ L s.heap news) (ha : (a, listOf as.toArray k) ∈ news) (hb : (b, listOf #[] k') ∈ news) (e : as = [])
    (hu : A.units + 64 < cLine) (h : Q (.bool false) s) : wpAny (model prog w) A (compareOp .NotEq (.ref a) (.ref b)) Q E s := by
  subst e
  have sh : SeqAt.shaped (.list []) = true := tags_shaped (tags := []) Zip.nil
  exact ne_dataH (reads_list_at (N _ ha).1 rfl rfl .nil) (reads_list_at (N _ hb).1 rfl rfl .nil) sh sh hu (by rw [PySem.SeqAt.eqv_refl _ (PySem.SeqAt.canLay_of_shaped sh)]; exact h)
end Mine
namespace Mine
inductive JV (nm : List (Str × Value)) (gl vl sp l : Addr) (k' : Nat) (rest : Led) (i0 : Int) (j : Nat) : (Str → Option Value) → Led → Prop
  | mk (u : Str → Option Value) (vs gs : List Value) (ts : List Tr) (cs : List Str) (i' : Int) {t' k1 k2 : Nat} (tl : Led)
    (ap : Apart tl ((gl, listOf #[] 0) :: (vl, listOf #[] 0) :: (sp, listOf #[] 0) :: rest)) (lv : vs.length = j) (lg : gs.length = j) (zt : Zip (TIn tl 1) ts vs) (zg : Zip StrIs cs gs)
    (lo : i0 ≤ i') (hi : i' ≤ i0 + 33 * (j : Int)) :
    JV nm gl vl sp l k' rest i0 j (over nm u) ((gl, listOf gs.toArray k2) :: (vl, listOf vs.toArray k1) :: (sp, listOf #[.int i' t', .ref l] k') :: (rest ++ tl))
theorem JV.start {nm : List (Str × Value)} {gl vl sp l : Addr} {k' : Nat} {rest : Led} {i0 : Int} {m : Str → Option Value} {t' k1 k2 : Nat} (hm : Has m nm) :
    JV nm gl vl sp l k' rest i0 0 m ((gl, listOf #[] k2) :: (vl, listOf #[] k1) :: (sp, listOf #[.int i0 t', .ref l] k') :: rest) := by
  have W : JV nm gl vl sp l k' rest i0 0 (over nm m) ((gl, listOf #[] k2) :: (vl, listOf #[] k1) :: (sp, listOf #[.int i0 t', .ref l] k') :: (rest ++ [])) := .mk m [] [] [] [] i0 [] Apart.nil rfl rfl Zip.nil Zip.nil (Int.le_refl _) (by omega)
  rw [over_self hm]
  rwa [List.append_nil] at W
theorem JV.step {nm : List (Str × Value)} {gl vl sp l : Addr} {k' : Nat} {rest : Led} {i0 : Int} {j : Nat} {vs gs : List Value} {ts : List Tr} {cs : List Str} {i' i1 : Int} {k1' k2' : Nat} {tl tl9 own all : Led} {u9 : Tok}
    {h₀ : Heap} {L : Addr} {s₁ : Shared} {h' : Heap} {tk : Nat} {m' : Str → Option Value} {c : Tr} {g9 r9 : Value} {c9 : Str} {o1 o2 o3 : Obj}
    (ap : Apart tl ((gl, listOf #[] 0) :: (vl, listOf #[] 0) :: (sp, listOf #[] 0) :: rest)) (lv : vs.length = j) (lg : gs.length = j) (zt : Zip (TIn tl 1) ts vs) (zg : Zip StrIs cs gs) (lo : i0 ≤ i') (hi : i' ≤ i0 + 33 * (j : Int))
    (hoff : Apart own ((gl, o1) :: (vl, o2) :: (sp, o3) :: (rest ++ tl)))
    (F : Fr h₀ L h' m') (N : News h₀ L h' all) (ha1 : ∀ p ∈ (gl, listOf (gs.toArray.push g9) k2') :: (vl, listOf (vs.toArray.push r9) k1') :: (sp, listOf #[.int i1 u9, .ref l] k') :: (rest ++ (tl ++ tl9)), p ∈ all) (ha2 : ∀ p ∈ own, p ∈ all)
    (hm : Has m' nm) (hr : TIn tl9 1 c r9) (hg : StrIs c9 g9) (ha : Apart tl9 ((gl, o1) :: (vl, o2) :: (sp, o3) :: (rest ++ (tl ++ own)))) (hi8 : i' ≤ i1) (hi9 : i1 ≤ i' + 33) :
    TbEnd h₀ L (JV nm gl vl sp l k' rest i0 (j + 1)) own s₁ { s₁ with heap := h', toks := tk } := by
  have W : JV nm gl vl sp l k' rest i0 (j + 1) m' ((gl, listOf (gs ++ [g9]).toArray k2') :: (vl, listOf (vs ++ [r9]).toArray k1') :: (sp, listOf #[.int i1 u9, .ref l] k') :: (rest ++ (tl ++ tl9))) := by
    rw [over_self hm]
    refine .mk m' (vs ++ [r9]) (gs ++ [g9]) (ts ++ [c]) (cs ++ [c9]) i1 (tl ++ tl9) ?_ (by simp [lv]) (by simp [lg]) ((zt.mono fun _ _ h => h.mono (sub_appR1 fun _ h => h)).snoc (hr.mono (sub_appR2 fun _ h => h))) (zg.snoc hg) (by omega) (by omega)
    exact Apart.append ap (Apart.consR (Apart.ne2 ha (.head _)) (Apart.consR (Apart.ne2 ha (.tail _ (.head _))) (Apart.consR (Apart.ne2 ha (.tail _ (.tail _ (.head _)))) (ha.sub fun p hp => .tail _ (.tail _ (.tail _ (List.mem_append.mpr (.inl hp))))))))
  refine turn_end F N ?_ ha2 ?_ W
  · intro p hp
    simp only [← List.push_toArray] at hp
    exact ha1 p hp
  · exact Apart.consR (Apart.ne2 hoff (.head _)) (Apart.consR (Apart.ne2 hoff (.tail _ (.head _))) (Apart.consR (Apart.ne2 hoff (.tail _ (.tail _ (.head _)))) (Apart.appR (hoff.sub fun p hp => .tail _ (.tail _ (.tail _ (List.mem_append.mpr (.inl hp))))) (Apart.appR (hoff.sub fun p hp => .tail _ (.tail _ (.tail _ (List.mem_append.mpr (.inr hp)))))
      (Apart.symm (ha.sub fun p hp => .tail _ (.tail _ (.tail _ (List.mem_append.mpr (.inr (List.mem_append.mpr (.inr hp))))))))))))
/-- values and tags stand -/
inductive J14 (sp D cT cR cA cG cV : Addr) (its : List Value) (k : Nat) : (Str → Option Value) → Led → Prop
  | mk (u : Str → Option Value) (i : Int) {t k' k1 k2 : Nat} (c1 vl gl : Addr) (vs gs : List Value) (ts : List Tr) (cs : List Str) {oT oR oA oG oV : Obj} {ps : Array Value} {vT vR vA vG : Option Value} (Z : Led)
    (zt : Zip (TIn Z 1) ts vs) (zg : Zip StrIs cs gs) (lv : vs.length ≤ 4) (lg : gs.length = vs.length)
    (dT : oT.data = .cell vT) (dR : oR.data = .cell vR) (dA : oA.data = .cell vA) (dG : oG.data = .cell vG) (dV : oV.data = .cell (some (.ref vl))) (lo : 0 ≤ i) (hi : i ≤ 300) (hps : ps = #[rawInt 190, rawInt 4, .ref c1])
    (hvl : @LT.lt Nat _ sp vl) (hgl : @LT.lt Nat _ vl gl) (z : Apart Z ((gl, nil0) :: (vl, nil0) :: fixA sp D cT cR cA cG cV)) :
    J14 sp D cT cR cA cG cV its k (over [(Str.ofString "spring", .ref sp), (Str.ofString "tags", .ref gl)] u)
      ((gl, listOf gs.toArray k2) :: (vl, listOf vs.toArray k1) :: (sp, listOf #[.int i t, .ref D] k') :: (D, listOf its.toArray k) :: (cT, oT) :: (cR, oR) :: (cA, oA) :: (cG, oG) :: (cV, oV) :: (222, tabObj ps) :: Z)
end Mine
namespace Mine
/-- row stands too -/
inductive J15 (w : World) (sp D cT cR cA cG cV : Addr) : (Str → Option Value) → Led → Prop
  | mk (u : Str → Option Value) {k1 k2 : Nat} (c1 vl gl : Addr) (vs gs : List Value) (ts : List Tr) (cs : List Str) (nb : Bool) (rv : Value) {oT oR oA oG oV : Obj} {ps : Array Value} {vT vA vG : Option Value} (Zr Z : Led)
    (zt : Zip (TIn Z 1) ts vs) (zg : Zip StrIs cs gs) (lv : vs.length ≤ 4) (lg : gs.length = vs.length) (hr : RowAt w vs gs Zr nb rv)
    (dT : oT.data = .cell vT) (dR : oR.data = .cell (some rv)) (dA : oA.data = .cell vA) (dG : oG.data = .cell vG) (dV : oV.data = .cell (some (.ref vl))) (hps : ps = #[rawInt 190, rawInt 4, .ref c1])
    (hvl : @LT.lt Nat _ sp vl) (hgl : @LT.lt Nat _ vl gl) (z : Apart Z ((gl, nil0) :: (vl, nil0) :: fixA sp D cT cR cA cG cV)) (zr : Apart Zr ((gl, nil0) :: (vl, nil0) :: fixA sp D cT cR cA cG cV)) (zz : Apart Z Zr) :
    J15 w sp D cT cR cA cG cV (over [(Str.ofString "tags", .ref gl)] u)
      ((gl, listOf gs.toArray k2) :: (vl, listOf vs.toArray k1) :: (cT, oT) :: (cR, oR) :: (cA, oA) :: (cG, oG) :: (cV, oV) :: (222, tabObj ps) :: (Zr ++ Z))
end Mine
namespace Mine
/-- told_tags stands too -/
inductive J16 (w : World) (sp D cT cR cA cG cV : Addr) : (Str → Option Value) → Led → Prop
  | mk (u : Str → Option Value) {k1 k2 : Nat} (c1 vl gl : Addr) (vs gs os' : List Value) (ts : List Tr) (cs : List Str) (nb : Bool) (rv : Value) {oT oR oA oG oV : Obj} {ps : Array Value} {vT vA : Option Value} (Zr Z : Led)
    (zt : Zip (TIn Z 1) ts vs) (zg : Zip StrIs cs gs) (zo : Zip TagIs (cs.map (told nb)) os') (lv : vs.length ≤ 4) (lg : gs.length = vs.length) (hr : RowAt w vs gs Zr nb rv)
    (dT : oT.data = .cell vT) (dR : oR.data = .cell (some rv)) (dA : oA.data = .cell vA) (dG : oG.data = .cell (some (.ref gl))) (dV : oV.data = .cell (some (.ref vl))) (hps : ps = #[rawInt 190, rawInt 4, .ref c1])
    (hvl : @LT.lt Nat _ sp vl) (hg2 : @Ne Nat gl 222) (z : Apart Z ((gl, nil0) :: (vl, nil0) :: fixA sp D cT cR cA cG cV)) (zr : Apart Zr ((gl, nil0) :: (vl, nil0) :: fixA sp D cT cR cA cG cV)) (zz : Apart Z Zr) :
    J16 w sp D cT cR cA cG cV (over [] u)
      ((gl, listOf os'.toArray k2) :: (vl, listOf vs.toArray k1) :: (cT, oT) :: (cR, oR) :: (cA, oA) :: (cG, oG) :: (cV, oV) :: (222, tabObj ps) :: (Zr ++ Z))
end Mine
namespace Mine
/-- spread stands too -/
inductive J17 (w : World) (p : Program) (loose : List Str) (mean : ExcName → Option Value) (mg mb : Str → Option Value) (cT cR cA cG cV : Addr) : (Str → Option Value) → Led → Prop
  | mk (u : Str → Option Value) {k1 k2 : Nat} (vl gl pk : Addr) (vs gs os' : List Value) (ts : List Tr) (cs : List Str) (nb : Bool) (rv : Value) {oG oV : Obj} {oc : Value} {od : Option Addr} {fd : FuncData} {sl : Array (Option Value)} {ps : Array Value} (Zs Z : Led)
    (zt : Zip (TIn Z 1) ts vs) (zg : Zip StrIs cs gs) (zo : Zip TagIs (cs.map (told nb)) os') (lv : vs.length ≤ 4) (lg : gs.length = vs.length) (hr : RowAt w vs gs Zs nb rv) (hpk : (pk, (⟨oc, od, .func fd, sl⟩ : Obj)) ∈ Zs) (S : SpreadC w p loose mean mg mb Zs pk rv)
    (dG : oG.data = .cell (some (.ref gl))) (dV : oV.data = .cell (some (.ref vl)))
    (z : Apart Z ((gl, nil0) :: (vl, nil0) :: (cG, nil0) :: (cV, nil0) :: (222, nil0) :: Zs)) :
    J17 w p loose mean mg mb cT cR cA cG cV (over [(Str.ofString "spread", .ref pk)] u)
      ((gl, listOf os'.toArray k2) :: (vl, listOf vs.toArray k1) :: (cG, oG) :: (cV, oV) :: (222, tabObj ps) :: (Zs ++ Z))
end Mine
namespace Mine
/-- before stands too -/
inductive J18 (w : World) (p : Program) (loose : List Str) (mean : ExcName → Option Value) (mg mb : Str → Option Value) (cT cR cA cG cV : Addr) : (Str → Option Value) → Led → Prop
  | mk (u : Str → Option Value) {k1 k2 : Nat} (vl gl pk : Addr) (bv : Value) (vs gs os' : List Value) (ts : List Tr) (cs : List Str) (nb : Bool) (rv : Value) {oG oV : Obj} {oc : Value} {od : Option Addr} {fd : FuncData} {sl : Array (Option Value)} {ps : Array Value} (Zs Zb Z : Led) (hb : TIn Zb 2 beforeT bv)
    (zt : Zip (TIn Z 1) ts vs) (zg : Zip StrIs cs gs) (zo : Zip TagIs (cs.map (told nb)) os') (lv : vs.length ≤ 4) (lg : gs.length = vs.length) (hr : RowAt w vs gs Zs nb rv) (hpk : (pk, (⟨oc, od, .func fd, sl⟩ : Obj)) ∈ Zs) (S : SpreadC w p loose mean mg mb Zs pk rv)
    (dG : oG.data = .cell (some (.ref gl))) (dV : oV.data = .cell (some (.ref vl)))
    (z : Apart Z ((gl, nil0) :: (vl, nil0) :: (cG, nil0) :: (cV, nil0) :: (222, nil0) :: (Zs ++ Zb))) :
    J18 w p loose mean mg mb cT cR cA cG cV (over [(Str.ofString "spread", .ref pk), (Str.ofString "before", bv)] u)
      ((gl, listOf os'.toArray k2) :: (vl, listOf vs.toArray k1) :: (cG, oG) :: (cV, oV) :: (222, tabObj ps) :: (Zs ++ (Zb ++ Z)))
/-- plain_one stands too -/
inductive J19 (w : World) (p : Program) (loose : List Str) (mean : ExcName → Option Value) (mg mb : Str → Option Value) (cT cR cA cG cV : Addr) : (Str → Option Value) → Led → Prop
  | mk (u : Str → Option Value) {k1 k2 : Nat} (vl gl pk : Addr) (bv pv : Value) (vs gs os' : List Value) (ts : List Tr) (cs : List Str) (nb : Bool) (rv : Value) {oG oV : Obj} {oc : Value} {od : Option Addr} {fd : FuncData} {sl : Array (Option Value)} {ps : Array Value} (Zs Zb Zp Z : Led) (hp : TIn Zp 2 plainT pv) (hb : TIn Zb 2 beforeT bv)
    (zt : Zip (TIn Z 1) ts vs) (zg : Zip StrIs cs gs) (zo : Zip TagIs (cs.map (told nb)) os') (lv : vs.length ≤ 4) (lg : gs.length = vs.length) (hr : RowAt w vs gs Zs nb rv) (hpk : (pk, (⟨oc, od, .func fd, sl⟩ : Obj)) ∈ Zs) (S : SpreadC w p loose mean mg mb Zs pk rv)
    (dG : oG.data = .cell (some (.ref gl))) (dV : oV.data = .cell (some (.ref vl)))
    (z : Apart Z ((gl, nil0) :: (vl, nil0) :: (cG, nil0) :: (cV, nil0) :: (222, nil0) :: (Zs ++ (Zb ++ Zp)))) :
    J19 w p loose mean mg mb cT cR cA cG cV (over [(Str.ofString "spread", .ref pk), (Str.ofString "before", bv), (Str.ofString "plain_one", pv)] u)
      ((gl, listOf os'.toArray k2) :: (vl, listOf vs.toArray k1) :: (cG, oG) :: (cV, oV) :: (222, tabObj ps) :: (Zs ++ (Zb ++ (Zp ++ Z))))
end Mine
namespace Mine
theorem TIn.mkc {Z : Led} {d : Nat} {x dx l g : Addr} {k k' k'' : Nat} {h1 h2 h3 h4 h5 : Int} {t1 t2 t3 t4 t5 t6 : Tok} {vs gs : List Value} {ts : List Tr} {tags : List (Option Str)} (hx : (x, instObj 89 dx) ∈ Z)
    (hdx : (dx, dictOf [⟨h1, .str (Str.ofString "kind") t1, .str (Str.ofString "language") t6⟩, ⟨h2, .str (Str.ofString "items") t2, .ref l⟩, ⟨h3, .str (Str.ofString "tags") t3, .ref g⟩, ⟨h4, .str (Str.ofString "attrs") t4, .none⟩, ⟨h5, .str (Str.ofString "code") t5, .none⟩] k) ∈ Z)
    (hl : (l, listOf vs.toArray k') ∈ Z) (hg : (g, listOf gs.toArray k'') ∈ Z) (a : ts.length ≤ 20) (b : ts.length = tags.length) (c : Zip TagIs tags gs) (e : Zip (TIn Z d) ts vs) : TIn Z (d + 1) (.call ts tags) (.ref x) := by
  rw [TIn_call]
  exact ⟨vs, gs, .mk x l g hx hdx hl hg, a, b, c, e⟩
theorem tags_nnnz {t : Tok} : Zip TagIs [none, none, none, some (Str.ofString "z")] [.none, .none, .none, .str (Str.ofString "z") t] := (((Zip.nil.snoc tag_none).snoc tag_none).snoc tag_none).snoc ⟨strOk_ofString _, t, rfl⟩
theorem mk_before {x dx l g xb db xc dc gc lc xr dr xo dO xa da xf df : Addr} {q1 q2 q3 q4 q5 q6 q7 q8 q9 q10 q11 : Nat} {a11 a12 a13 a21 a22 a23 a31 a32 a33 a41 a42 a43 a51 a52 a53 b61 b62 b63 b64 b65 b71 b72 b73 b74 b75 : Int} {tz u11 u12 u13 u14 u15 u21 u22 u23 u24 u25 u31 u32 u33 u34 u35 u41 u42 u43 u44 u45 u51 u52 u53 u54 u55 w61 w62 w63 w64 w65 w66 w71 w72 w73 w74 w75 w76 : Tok} :
    TIn [(x, instObj 89 dx), (dx, dictOf [⟨b61, .str (Str.ofString "kind") w61, .str (Str.ofString "language") w66⟩, ⟨b62, .str (Str.ofString "items") w62, .ref l⟩, ⟨b63, .str (Str.ofString "tags") w63, .ref g⟩, ⟨b64, .str (Str.ofString "attrs") w64, .none⟩, ⟨b65, .str (Str.ofString "code") w65, .none⟩] q6), (g, listOf #[.none, .none, .none, .str (Str.ofString "z") tz] q8), (l, listOf #[.ref xf, .ref xa, .ref xc, .ref xb] q9), (xb, instObj 67 db), (db, symD a11 a12 a13 u11 u12 u13 u14 u15 (Str.ofString "b") q1), (xc, instObj 89 dc), (dc, dictOf [⟨b71, .str (Str.ofString "kind") w71, .str (Str.ofString "language") w76⟩, ⟨b72, .str (Str.ofString "items") w72, .ref lc⟩, ⟨b73, .str (Str.ofString "tags") w73, .ref gc⟩, ⟨b74, .str (Str.ofString "attrs") w74, .none⟩, ⟨b75, .str (Str.ofString "code") w75, .none⟩] q7), (gc, listOf #[.none, .none] q10), (lc, listOf #[.ref xo, .ref xr] q11), (xr, instObj 67 dr), (dr, symD a21 a22 a23 u21 u22 u23 u24 u25 (Str.ofString "row") q2), (xo, instObj 67 dO), (dO, symD a31 a32 a33 u31 u32 u33 u34 u35 (Str.ofString "..") q3), (xa, instObj 67 da), (da, symD a41 a42 a43 u41 u42 u43 u44 u45 (Str.ofString "a") q4), (xf, instObj 67 df), (df, symD a51 a52 a53 u51 u52 u53 u54 u55 (Str.ofString "f") q5)] 2 beforeT (.ref x) :=
  TIn.mkc (vs := [.ref xf, .ref xa, .ref xc, .ref xb]) (gs := [.none, .none, .none, .str (Str.ofString "z") tz]) (.head _) (.tail _ (.head _)) (.tail _ (.tail _ (.tail _ (.head _)))) (.tail _ (.tail _ (.head _))) (by decide) rfl tags_nnnz ((((Zip.nil.snoc (TIn.of_sym (.mk _ (.tail _ (.tail _ (.tail _ (.tail _ (.tail _ (.tail _ (.tail _ (.tail _ (.tail _ (.tail _ (.tail _ (.tail _ (.tail _ (.tail _ (.tail _ (.tail _ (.head _))))))))))))))))) (.tail _ (.tail _ (.tail _ (.tail _ (.tail _ (.tail _ (.tail _ (.tail _ (.tail _ (.tail _ (.tail _ (.tail _ (.tail _ (.tail _ (.tail _ (.tail _ (.tail _ (.head _))))))))))))))))))))).snoc (TIn.of_sym (.mk _ (.tail _ (.tail _ (.tail _ (.tail _ (.tail _ (.tail _ (.tail _ (.tail _ (.tail _ (.tail _ (.tail _ (.tail _ (.tail _ (.tail _ (.head _))))))))))))))) (.tail _ (.tail _ (.tail _ (.tail _ (.tail _ (.tail _ (.tail _ (.tail _ (.tail _ (.tail _ (.tail _ (.tail _ (.tail _ (.tail _ (.tail _ (.head _))))))))))))))))))).snoc (TIn.mkc (vs := [.ref xo, .ref xr]) (gs := [.none, .none]) (.tail _ (.tail _ (.tail _ (.tail _ (.tail _ (.tail _ (.head _))))))) (.tail _ (.tail _ (.tail _ (.tail _ (.tail _ (.tail _ (.tail _ (.head _)))))))) (.tail _ (.tail _ (.tail _ (.tail _ (.tail _ (.tail _ (.tail _ (.tail _ (.tail _ (.head _)))))))))) (.tail _ (.tail _ (.tail _ (.tail _ (.tail _ (.tail _ (.tail _ (.tail _ (.head _))))))))) (by decide) rfl tags_nn ((Zip.nil.snoc (TIn.of_sym (.mk _ (.tail _ (.tail _ (.tail _ (.tail _ (.tail _ (.tail _ (.tail _ (.tail _ (.tail _ (.tail _ (.tail _ (.tail _ (.head _))))))))))))) (.tail _ (.tail _ (.tail _ (.tail _ (.tail _ (.tail _ (.tail _ (.tail _ (.tail _ (.tail _ (.tail _ (.tail _ (.tail _ (.head _))))))))))))))))).snoc (TIn.of_sym (.mk _ (.tail _ (.tail _ (.tail _ (.tail _ (.tail _ (.tail _ (.tail _ (.tail _ (.tail _ (.tail _ (.head _))))))))))) (.tail _ (.tail _ (.tail _ (.tail _ (.tail _ (.tail _ (.tail _ (.tail _ (.tail _ (.tail _ (.tail _ (.head _))))))))))))))))).snoc (TIn.of_sym (.mk _ (.tail _ (.tail _ (.tail _ (.tail _ (.head _))))) (.tail _ (.tail _ (.tail _ (.tail _ (.tail _ (.head _)))))))))
theorem mk_plain {x dx l g xb db xo dO xa da xf df : Addr} {q1 q3 q4 q5 q6 q8 q9 : Nat} {a11 a12 a13 a31 a32 a33 a41 a42 a43 a51 a52 a53 b61 b62 b63 b64 b65 : Int} {tz u11 u12 u13 u14 u15 u31 u32 u33 u34 u35 u41 u42 u43 u44 u45 u51 u52 u53 u54 u55 w61 w62 w63 w64 w65 w66 : Tok} :
    TIn [(x, instObj 89 dx), (dx, dictOf [⟨b61, .str (Str.ofString "kind") w61, .str (Str.ofString "language") w66⟩, ⟨b62, .str (Str.ofString "items") w62, .ref l⟩, ⟨b63, .str (Str.ofString "tags") w63, .ref g⟩, ⟨b64, .str (Str.ofString "attrs") w64, .none⟩, ⟨b65, .str (Str.ofString "code") w65, .none⟩] q6), (g, listOf #[.none, .none, .none, .str (Str.ofString "z") tz] q8), (l, listOf #[.ref xf, .ref xa, .ref xo, .ref xb] q9), (xb, instObj 67 db), (db, symD a11 a12 a13 u11 u12 u13 u14 u15 (Str.ofString "b") q1), (xo, instObj 67 dO), (dO, symD a31 a32 a33 u31 u32 u33 u34 u35 (Str.ofString "...") q3), (xa, instObj 67 da), (da, symD a41 a42 a43 u41 u42 u43 u44 u45 (Str.ofString "a") q4), (xf, instObj 67 df), (df, symD a51 a52 a53 u51 u52 u53 u54 u55 (Str.ofString "f") q5)] 2 plainT (.ref x) :=
  TIn.mkc (vs := [.ref xf, .ref xa, .ref xo, .ref xb]) (gs := [.none, .none, .none, .str (Str.ofString "z") tz]) (.head _) (.tail _ (.head _)) (.tail _ (.tail _ (.tail _ (.head _)))) (.tail _ (.tail _ (.head _))) (by decide) rfl tags_nnnz ((((Zip.nil.snoc (TIn.of_sym (.mk _ (.tail _ (.tail _ (.tail _ (.tail _ (.tail _ (.tail _ (.tail _ (.tail _ (.tail _ (.tail _ (.head _))))))))))) (.tail _ (.tail _ (.tail _ (.tail _ (.tail _ (.tail _ (.tail _ (.tail _ (.tail _ (.tail _ (.tail _ (.head _))))))))))))))).snoc (TIn.of_sym (.mk _ (.tail _ (.tail _ (.tail _ (.tail _ (.tail _ (.tail _ (.tail _ (.tail _ (.head _))))))))) (.tail _ (.tail _ (.tail _ (.tail _ (.tail _ (.tail _ (.tail _ (.tail _ (.tail _ (.head _))))))))))))).snoc (TIn.of_sym (.mk _ (.tail _ (.tail _ (.tail _ (.tail _ (.tail _ (.tail _ (.head _))))))) (.tail _ (.tail _ (.tail _ (.tail _ (.tail _ (.tail _ (.tail _ (.head _))))))))))).snoc (TIn.of_sym (.mk _ (.tail _ (.tail _ (.tail _ (.tail _ (.head _))))) (.tail _ (.tail _ (.tail _ (.tail _ (.tail _ (.head _)))))))))
end Mine
namespace Mine
/-- due stands too -/
inductive J20 (w : World) (p : Program) (loose : List Str) (mean : ExcName → Option Value) (mg mb : Str → Option Value) (cT cR cA cG cV : Addr) : (Str → Option Value) → Led → Prop
  | mk (u : Str → Option Value) {k1 k2 : Nat} (vl gl pk : Addr) (bv dv : Value) (vs gs os' : List Value) (ts : List Tr) (cs : List Str) (nb : Bool) (rv : Value) {oG oV : Obj} {oc : Value} {od : Option Addr} {fd : FuncData} {sl : Array (Option Value)} {ps : Array Value} (Zs Zb Zd Z : Led) (hdue : TIn (Z ++ Zd) 2 (rowT ts (cs.map (told nb))) dv) (hb : TIn Zb 2 beforeT bv)
    (zt : Zip (TIn Z 1) ts vs) (zg : Zip StrIs cs gs) (zo : Zip TagIs (cs.map (told nb)) os') (lv : vs.length ≤ 4) (lg : gs.length = vs.length) (hr : RowAt w vs gs Zs nb rv) (hpk : (pk, (⟨oc, od, .func fd, sl⟩ : Obj)) ∈ Zs) (S : SpreadC w p loose mean mg mb Zs pk rv)
    (dG : oG.data = .cell (some (.ref gl))) (dV : oV.data = .cell (some (.ref vl)))
    (z : Apart Z ((gl, nil0) :: (vl, nil0) :: (cG, nil0) :: (cV, nil0) :: (222, nil0) :: (Zs ++ (Zb ++ Zd)))) :
    J20 w p loose mean mg mb cT cR cA cG cV (over [(Str.ofString "spread", .ref pk), (Str.ofString "before", bv), (Str.ofString "due", dv)] u)
      ((gl, listOf os'.toArray k2) :: (vl, listOf vs.toArray k1) :: (cG, oG) :: (cV, oV) :: (222, tabObj ps) :: (Zs ++ (Zb ++ (Zd ++ Z))))
end Mine
namespace Mine
def StopAt : Prop := True
end Mine
namespace Mine
/-- what a def statement of the law makes -/
noncomputable def defOf (w : World) (k : Nat) : Option (Str × Arguments × List Stmt × Scope) := match (lawBody w)[k]? with
  | some (.FunctionDef name params body _ _ _ scope _ _ _) => some (name, params, body, scope)
  | _ => none
theorem push_list {as : List Value} {x : Value} {k : Nat} : listOf (as.toArray.push x) k = listOf (as ++ [x]).toArray k := by rw [List.push_toArray]
theorem mem_ne {x : Addr × Obj} {aq : Addr} {o' : Obj} {rest : Led} (h : x ∈ (aq, o') :: rest) (hne : x.2 ≠ o') : x ∈ rest := by
  rcases List.mem_cons.mp h with h | h
  · exact absurd (congrArg Prod.snd h) hne
  · exact h
theorem SymAt.offList {aq : Addr} {its : Array Value} {k : Nat} {rest : Led} {n : Str} {v : Value} (h : SymAt ((aq, listOf its k) :: rest) n v) : SymAt rest n v := by
  obtain ⟨x, hx, hdx⟩ := h
  exact .mk x (mem_ne hx fun e => absurd (congrArg Obj.cls e) nofun) (mem_ne hdx fun e => absurd (congrArg Obj.data e) nofun)
theorem pick_ctr {hx : Heap} (CH : CodeHd hx 224 222) {w : World} {p : Program} {loose : List Str} {mean : ExcName → Option Value} {mg mb : Str → Option Value} {name qual : Str} {params : Arguments} {body : List Stmt} {scope : Scope} (hdef : defOf w 6 = some (name, params, body, scope))
    {pk c' cT cA tb aq : Addr} {oT oA o oc : Obj} {vs : Array Value} {t : Tok} {doc pm ctv : Value} {kvs : List (Str × Value)} {ρ : Str → Option Tr} {Z0 : Led}
    (h1 : (pk, fnMade name qual params body scope [(Str.ofString "table", cT), (Str.ofString "asked", cA)] doc pm c' ctv) ∈ Z0) (h2 : (c', oc) ∈ Z0) (d1 : oc.data = .fields vs) (d2 : vs[1]? = some (.str qual t))
    (h3 : (cT, oT) ∈ Z0) (dT : oT.data = .cell (some (.ref tb))) (h4 : (cA, oA) ∈ Z0) (dA : oA.data = .cell (some (.ref aq))) (h5 : (tb, o) ∈ Z0) (hdo : o.IsDictOf (PySem.strKind PySem.Challenge.rw_pq1394_01.row.prog w) kvs) (hf : Fits ρ Z0 kvs)
    (hq : ∀ p ∈ Z0, p.1 ≠ aq) (lo : (tb == sysModules) = false) : PickC w p loose mean mg mb ρ Z0 aq pk := by
  rw [show defOf w 6 = some (_, _, _, _) from rfl] at hdef
  cases hdef
  intro as k news g n v U h0 hs hl
  obtain ⟨rest, hsub, hsub', hoff, hto, hfrom⟩ := upd_rest U
  have off : ∀ p ∈ Z0, p ∈ rest := fun p hp => by
    rcases List.mem_cons.mp (hfrom p (h0 p hp)) with rfl | h
    · exact absurd rfl (hq _ hp)
    · exact h
  replace h1 := off _ h1; replace h2 := off _ h2; replace h3 := off _ h3; replace h4 := off _ h4; replace h5 := off _ h5
  obtain ⟨x, hxr, hdr⟩ := (hs.mono hfrom).offList
  unfold Ctr
  k_fill
  intro dp un gd cn cs a ccd cl outer A₀ base h₀ L m s Q E B F X N0 T hk hd hu hret
  have N : News h₀ L s.heap ((aq, listOf as.toArray k) :: rest) := nsub N0 hto
  clear N0 hto hfrom
  rcases hf n with ⟨e1, e2⟩ | ⟨v', t', e1, e2, ht1, hnv⟩
  · refine wpAny_call ?_
    (refine' code_nest ?k1 ?k2 ?k3 ?k4 ?k5 ?kA ?kF ?kK ?k6 ?k7 ?k8 ?k9 ?kB ?_ ?c2 ?c3 ?c4 ?c5; (case kA => exact rfl); (case kF => exact rfl); (case kK => first | exact rfl | assumption); (case k1 => k_asm); (case k2 => k_asm); (case k3 => k_asm); (case k4 => k_asm); (case k5 => k_asm); (case k6 => k_mem); (case k7 => exact codeRec_news (by k_asm) (by k_mem) (by assumption) (by assumption)); (case k8 => ktr_room); (case k9 => exact BindsTo.of_eq rfl); (case c5 => decide); (case kB => exact locs rfl); (case c2 => exact rfl); (case c3 => exact rfl); (case c4 => exact rfl); k_whole; intro g' L' h' FG' F' N' B' X' T'; (try dsimp only); (try k_lift B'); (try k_fold))
    k_steps
    exact hret _ (g (listOf (as ++ [Value.str n _]).toArray _)) _ _ (by k_asm) (nsub (by k_asm) (fun p hp => by rw [push_list]; exact hsub _ p hp)) (.none (by simp) e2)
  · refine wpAny_call ?_
    (refine' code_nest ?k1 ?k2 ?k3 ?k4 ?k5 ?kA ?kF ?kK ?k6 ?k7 ?k8 ?k9 ?kB ?_ ?c2 ?c3 ?c4 ?c5; (case kA => exact rfl); (case kF => exact rfl); (case kK => first | exact rfl | assumption); (case k1 => k_asm); (case k2 => k_asm); (case k3 => k_asm); (case k4 => k_asm); (case k5 => k_asm); (case k6 => k_mem); (case k7 => exact codeRec_news (by k_asm) (by k_mem) (by assumption) (by assumption)); (case k8 => ktr_room); (case k9 => exact BindsTo.of_eq rfl); (case c5 => decide); (case kB => exact locs rfl); (case c2 => exact rfl); (case c3 => exact rfl); (case c4 => exact rfl); k_whole; intro g' L' h' FG' F' N' B' X' T'; (try dsimp only); (try k_lift B'); (try k_fold))
    k_steps
    exact hret _ (g (listOf (as ++ [Value.str n _]).toArray _)) _ _ (by k_asm) (nsub (by k_asm) (fun p hp => by rw [push_list]; exact hsub _ p hp)) (.some _ (by simp) e2 ht1 hnv)
end Mine
namespace Mine
theorem spread_ctr {hx : Heap} (CH : CodeHd hx 224 222) {w : World} {p : Program} {loose : List Str} {mean : ExcName → Option Value} {mg mb : Str → Option Value} {name qual : Str} {params : Arguments} {body : List Stmt} {scope : Scope} (hdef : defOf w 16 = some (name, params, body, scope))
    {pk c' cR : Addr} {oR oc : Obj} {vs : Array Value} {t : Tok} {doc pm ctv rv : Value} {Z0 : Led}
    (h1 : (pk, fnMade name qual params body scope [(Str.ofString "row", cR)] doc pm c' ctv) ∈ Z0) (h2 : (c', oc) ∈ Z0) (d1 : oc.data = .fields vs) (d2 : vs[1]? = some (.str qual t))
    (h3 : (cR, oR) ∈ Z0) (dR : oR.data = .cell (some rv)) : SpreadC w p loose mean mg mb Z0 pk rv := by
  rw [show defOf w 16 = some (_, _, _, _) from rfl] at hdef
  cases hdef
  intro news v h0 hs
  replace h1 := h0 _ h1; replace h2 := h0 _ h2; replace h3 := h0 _ h3
  obtain ⟨x, hxr, hdr⟩ := hs
  unfold Ctr
  k_fill
  intro dp un gd cn cs a ccd cl outer A₀ base h₀ L m s Q E B F X N T hk hd hu hret
  refine wpAny_call ?_
  (refine' code_nest ?k1 ?k2 ?k3 ?k4 ?k5 ?kA ?kF ?kK ?k6 ?k7 ?k8 ?k9 ?kB ?_ ?c2 ?c3 ?c4 ?c5; (case kA => exact rfl); (case kF => exact rfl); (case kK => first | exact rfl | assumption); (case k1 => k_asm); (case k2 => k_asm); (case k3 => k_asm); (case k4 => k_asm); (case k5 => k_asm); (case k6 => k_mem); (case k7 => exact codeRec_news (by k_asm) (by k_mem) (by assumption) (by assumption)); (case k8 => ktr_room); (case k9 => exact BindsTo.of_eq rfl); (case c5 => decide); (case kB => exact locs rfl); (case c2 => exact rfl); (case c3 => exact rfl); (case c4 => exact rfl); k_whole; intro g' L' h' FG' F' N' B' X' T'; (try dsimp only); (try k_lift B'); (try k_fold))
  k_steps
  exact hret _ _ _ _ (by k_asm) (by k_asm) ⟨rfl, rfl⟩
end Mine
namespace Mine
theorem segA {w : World} {p : Program} {loose : List Str} {mean : ExcName → Option Value} {mg mb : Str → Option Value} {sp D cT cR cA cG cV : Addr} {its : List Value} {ns : List Int} {k : Nat} (hI : IntsAre its ns) (hlen : its.length ≤ 100) (O : Ord sp D cT cR cA cG cV) :
    Seg w p loose mean mg mb cT cR cA cG cV 1 3 (J1 sp D cT cR cA cG cV its k) (fun h₀ L s => SEnd h₀ L s (J5 136 0 w sp D cT cR cA cG cV its k)) := by
  unfold Seg
  k_fill
  intro dp un gd a outer A₀ base h₀ L m news s B F X N T CH hd hu hP
  obtain ⟨o1, o2, o3, o4, o5, o6, o7⟩ := O
  have hne : @Ne Nat sp D := by omega
  have CT := @tree_ctr w p loose mean mg mb sp D k
  rw [show ((lawBody w).drop 1).take 3 = [_, _, _] from rfl, show lawScope w = { kind := _, names := _, isGenerator := _, isCoroutine := _, more := _ } from rfl]
  obtain ⟨u, dT, dR, dA, dG, dV⟩ := hP
  rename_i k' _ _ _ _ _ _ _ _ _ _
  have CT2 := @tree_ctr w p loose mean mg mb sp D k k' its ns hI hlen hne 2
  clear CT
  have hB2 : Mine.Bd 2 = 136 := rfl
  k_steps
  (rename TIn _ _ _ _ => hsE); (rename GoodT _ _ => hgE); (rename Led => Z1)
  have CA2 := @again_ctr w p loose mean mg mb 2
  refine Stop.mk ?_
  k_steps
  exact SEnd.mkO (by k_asm) (by k_asm) (by walk_at "my_over") (J5.mk _ _ _ _ _ _ (Z1 ++ tl9) (TIn.mono (by walk_at "my_sub") hsE) hgE (TIn.mono (by walk_at "my_sub") hs9) (by assumption) (ρ := fun _ => none) (fun _ => .inl ⟨rfl, rfl⟩) (by decide) (by assumption) dR dA dG dV (by omega) (by omega) (by omega)
    (by walk_at "my_apart")) (by walk_at "my_sub")
end Mine
namespace Mine
theorem segB {w : World} {p : Program} {loose : List Str} {mean : ExcName → Option Value} {mg mb : Str → Option Value} {sp D cT cR cA cG cV : Addr} {its : List Value} {ns : List Int} {k : Nat} (hI : IntsAre its ns) (hlen : its.length ≤ 100) (O : Ord sp D cT cR cA cG cV) :
    Seg w p loose mean mg mb cT cR cA cG cV 4 1 (J5 136 0 w sp D cT cR cA cG cV its k) (fun h₀ L s => SEnd h₀ L s (J5 142 3 w sp D cT cR cA cG cV its k)) := by
  unfold Seg
  k_fill
  intro dp un gd a outer A₀ base h₀ L m news s B F X N T CH hd hu hP
  obtain ⟨o1, o2, o3, o4, o5, o6, o7⟩ := O
  have hne : @Ne Nat sp D := by omega
  rw [show ((lawBody w).drop 4).take 1 = [_] from rfl, show lawScope w = { kind := _, names := _, isGenerator := _, isCoroutine := _, more := _ } from rfl]
  obtain ⟨u, eV, kV, eT, i, tb, Z, hE, hg, hK, hdo, hf, hl, dT, dR, dA, dG, dV, lo, hi, htb, z⟩ := hP
  obtain rfl := List.length_eq_zero_iff.mp (Nat.le_zero.mp hl)
  k_steps
  (rename News _ _ _ _ => N1); (rename Fr _ _ _ _ => F1)
  refine Mine.tloop [(Str.ofString "spring", .ref sp), (Str.ofString "e", eV), (Str.ofString "kept_now", kV)] rfl F1 N1 (by assumption) (by walk_at "my_over") ?_ ?_
  · rintro j n tn m1 nx hh2 tk2 own hgood hj hoff ⟨u, i', tl, ap, hd, hf, hi, hi', hk9⟩ F2 N2
    simp only [List.cons_append, List.append_assoc] at N2
    have hly := Good.len hgood
    have hlx : (Str.ofString "x").length ≤ 1 := by decide +kernel
    k_steps
    · (rename News _ _ _ _ => N3); (rename Fr _ _ _ _ => F3); (rename Obj.IsDictOf _ _ _ => hd3)
      have hs := news_sym N3
      exact JTab.step ap hoff F3 N3 (by walk_at "my_sub") (by walk_at "my_sub") (by walk_at "my_over") hd3 (hf.set (sub_appR1 fun _ h => h) (TIn.mono (sub_appR2 fun _ h => h) (TIn.of_sym hs)) (hs.notVec.mono (sub_appR2 fun _ h => h))) (by omega) (by omega) (Nat.le_trans stored_len (by omega)) (by walk_at "my_apart")
    · (rename News _ _ _ _ => N3); (rename Fr _ _ _ _ => F3); (rename Obj.IsDictOf _ _ _ => hd3); (rename NumAt _ _ _ => hn3); (rename CallAt _ _ _ _ => hc3); (rename SymAt _ _ _ => hy3)
      have hs := news_sym (nsub N3 (sub_cons fun _ h => h))
      exact JTab.step ap hoff F3 N3 (by walk_at "my_sub") (by walk_at "my_sub") (by walk_at "my_over") hd3 (hf.set (sub_appR1 fun _ h => h) (TIn.mono (sub_appR2 fun _ h => h) (tin_callof hc3 hy3 hn3 hs)) (hc3.notVec.mono (sub_appR2 (sub_appR2 (sub_appR2 fun _ h => h))))) (by omega) (by omega) (Nat.le_trans stored_len (by omega)) (by walk_at "my_apart")
    · (rename News _ _ _ _ => N3); (rename Fr _ _ _ _ => F3)
      exact JTab.step (tl9 := []) ap hoff F3 N3 (by walk_at "my_sub") (by walk_at "my_sub") (by walk_at "my_over") hd (hf.mono (sub_appR1 fun _ h => h)) (by omega) (by omega) (by omega) (by walk_at "my_apart")
  · rintro m1 nx hh2 tk2 ⟨u, i', tl, ap, hd, hf, hi, hi', hk9⟩ F2 N2
    simp only [List.cons_append, List.append_assoc] at N2
    k_steps
    exact SEnd.mkO (by k_asm) (by k_asm) (by walk_at "my_over") (J5.mk _ eV kV eT i' tb (Z ++ tl) (TIn.mono (by walk_at "my_sub") hE) hg (TIn.mono (by walk_at "my_sub") hK) hd (hf.mono (by walk_at "my_sub")) (by omega) dT dR dA dG dV (by omega) (by omega) htb
      (by walk_at "my_apart")) (by walk_at "my_sub")
end Mine
namespace Mine
theorem segC {w : World} {p : Program} {loose : List Str} {mean : ExcName → Option Value} {mg mb : Str → Option Value} {sp D cT cR cA cG cV : Addr} {its : List Value} {k : Nat} (O : Ord sp D cT cR cA cG cV) :
    Seg w p loose mean mg mb cT cR cA cG cV 5 3 (J5 142 3 w sp D cT cR cA cG cV its k) (fun h₀ L s => SEnd h₀ L s (J8 w p loose mean mg mb sp D cT cR cA cG cV its k 0)) := by
  unfold Seg
  k_fill
  intro dp un gd a outer A₀ base h₀ L m news s B F X N T CH hd hu hP
  obtain ⟨o1, o2, o3, o4, o5, o6, o7⟩ := O
  rw [show ((lawBody w).drop 5).take 3 = [_, _, _] from rfl, show lawScope w = { kind := _, names := _, isGenerator := _, isCoroutine := _, more := _ } from rfl]
  obtain ⟨u, eV, kV, eT, i, tb, Z, hE, hg, hK, hdo, hf, hl, dT, dR, dA, dG, dV, lo, hi, htb, z⟩ := hP
  have CA2 := @holed_ctr w p loose mean mg mb 2
  k_steps
  (rename News _ _ _ _ => N3); (rename Fr _ _ _ _ => F3); (rename TIn _ _ _ _ => hH); (rename _[_]? = _ => d2); (rename _ = Data.fields _ => d1); (rename (_ : Obj).data = Data.cell (some _) => dA'); (rename Led => tl); (rename Apart _ _ => ha9)
  rename_i aq _ l1a _ oA' _ pk c' oc' vs' t' ct' dc' _ _ l1b l2b _ _
  have lzp : ∀ p ∈ Z, p.1 < pk := lt_all_trans (by walk_at "my_lt") l2b
  have z1 : Apart ((c', oc') :: (Z ++ tl)) ((pk, nil0) :: (aq, nil0) :: (tb, nil0) :: fixA sp D cT cR cA cG cV) := by walk_at "my_apart"
  have hq : ∀ p ∈ (pk, nil0) :: (cT, nil0) :: (cA, oA') :: (tb, nil0) :: (c', oc') :: (Z ++ tl), p.1 ≠ aq := by k_all
  have PC : PickC w p loose mean mg mb _ _ aq pk := pick_ctr (w := w) (p := p) (loose := loose) (mean := mean) (mg := mg) (mb := mb) CH rfl (doc := dc') (pm := (mg (Str.ofString "__name__")).getD .none) (ctv := ct') (Z0 := (pk, _) :: (cT, _) :: (cA, oA') :: (tb, _) :: (c', oc') :: (Z ++ tl)) (.head _) (.tail _ (.tail _ (.tail _ (.tail _ (.head _))))) d1 d2 (.tail _ (.head _)) dT (.tail _ (.tail _ (.head _))) dA' (.tail _ (.tail _ (.tail _ (.head _)))) hdo (hf.mono fun p hp => .tail _ (.tail _ (.tail _ (.tail _ (.tail _ (List.mem_append_left _ hp))))))
    (ne_fst hq rfl) (sys_ne (by omega))
  exact SEnd.mkO F3 N3 (by walk_at "my_over") (J8.mk _ eV kV r9 eT i tb aq pk c' [] ((c', oc') :: (Z ++ tl)) (TIn.mono (by walk_at "my_sub") hE) hg (TIn.mono (by walk_at "my_sub") hK) (TIn.mono (by walk_at "my_sub") (show TIn _ 3 (inM true 2 eT) _ from hH)) hdo (hf.mono (by walk_at "my_sub")) dT dR dA' dG dV lo hi htb PC (by decide) (by omega) rfl (by omega) z1) (by walk_at "my_sub")
end Mine
namespace Mine
theorem segD {w : World} {p : Program} {loose : List Str} {mean : ExcName → Option Value} {mg mb : Str → Option Value} {sp D cT cR cA cG cV : Addr} {its : List Value} {k : Nat} (O : Ord sp D cT cR cA cG cV) :
    Seg w p loose mean mg mb cT cR cA cG cV 8 1 (J8 w p loose mean mg mb sp D cT cR cA cG cV its k 0) (fun h₀ L s => SEnd h₀ L s (J9 sp D cT cR cA cG cV its k)) := by
  unfold Seg
  k_fill
  intro dp un gd a outer A₀ base h₀ L m news s B F X N T CH hd hu hP
  obtain ⟨o1, o2, o3, o4, o5, o6, o7⟩ := O
  rw [show ((lawBody w).drop 8).take 1 = [_] from rfl, show lawScope w = { kind := _, names := _, isGenerator := _, isCoroutine := _, more := _ } from rfl]
  obtain ⟨u, eV, kV, hV, eT, i, tb, aq, pk, c1, as, Z, hE, hg, hK, hH, hdo, hf, dT, dR, dA, dG, dV, lo, hi, htb, PC, hal, haq, hps, hpq, z⟩ := hP
  rename_i o oT oR oA oG oV oc od fd sl ps vR vG vV kvs ρ
  have los := sys_ne (tb := tb) (by omega)
  obtain ⟨Z0, eZ0⟩ : ∃ Z0, Z0 = (pk, (⟨oc, od, .func fd, sl⟩ : Obj)) :: (cT, oT) :: (cA, oA) :: (tb, o) :: Z := ⟨_, rfl⟩
  rw [← eZ0] at PC
  have hpk : (pk, (⟨oc, od, .func fd, sl⟩ : Obj)) ∈ Z0 := by rw [eZ0]; exact .head _
  have hZZ : ∀ p ∈ Z, p ∈ Z0 := fun p hp => by rw [eZ0]; exact .tail _ (.tail _ (.tail _ (.tail _ hp)))
  have hZq : ∀ p ∈ Z0, p.1 ≠ aq := by rw [eZ0]; k_all
  have hH' := hH.mono hZZ
  have BC : BqC w p loose mean mg mb ρ Z0 aq pk true 2 := bq_ctr (m := true) hpk (fun _ => PC) 2
  have SC2 := @subst_ctr w p loose mean mg mb ρ 2
  have LC := @leq_ctr w p loose mean mg mb 3
  have CA2 := @holed_ctr w p loose mean mg mb 2
  have hBq : Bq 2 = 421 := rfl
  have h00 : ∀ p ∈ Z0, p ∈ Z0 := fun _ h => h
  subst eZ0
  k_steps
  (rename TIn _ _ (outM _ _ _ _) _ => hB)
  replace hB : TIn _ 3 (subst ρ 2 eT) _ := hB
  refine Stop.mk ?_
  k_steps
  (rename News _ _ _ _ => N3); (rename Fr _ _ _ _ => F3)
  exact SEnd.mkO F3 N3 (by walk_at "my_over") (J9.mk _ eV kV eT i pk c1 Z hE hg hK dT dR dA dG dV lo hi (by omega) hps (z.sub (by walk_at "my_sub"))) (by walk_at "my_sub")
end Mine
namespace Mine
theorem segE {w : World} {p : Program} {loose : List Str} {mean : ExcName → Option Value} {mg mb : Str → Option Value} {sp D cT cR cA cG cV : Addr} {its : List Value} {k : Nat} (O : Ord sp D cT cR cA cG cV) :
    Seg w p loose mean mg mb cT cR cA cG cV 9 1 (J9 sp D cT cR cA cG cV its k) (fun h₀ L s => SEnd h₀ L s (J10 sp D cT cR cA cG cV its k)) := by
  unfold Seg
  k_fill
  intro dp un gd a outer A₀ base h₀ L m news s B F X N T CH hd hu hP
  obtain ⟨o1, o2, o3, o4, o5, o6, o7⟩ := O
  rw [show ((lawBody w).drop 9).take 1 = [_] from rfl, show lawScope w = { kind := _, names := _, isGenerator := _, isCoroutine := _, more := _ } from rfl]
  obtain ⟨u, eV, kV, eT, i, pk, c1, Z, hE, hg, hK, dT, dR, dA, dG, dV, lo, hi, hpq, hps, z⟩ := hP
  rename_i t k' oT oR oA oG oV oc od fd sl ps vT vR vA vG vV
  k_steps
  (rename News _ _ _ _ => N3); (rename Fr _ _ _ _ => F3); (rename (_ : Obj).data = Data.cell (some _) => dA')
  rename_i l1 _ _ _ _
  exact SEnd.mkO F3 N3 (by walk_at "my_over") (J10.mk _ eV kV eT i _ pk c1 [] Z rfl hE hg hK dT dR dA' dG dV lo hi hpq (by omega) hps (by walk_at "my_apart")) (by walk_at "my_sub")
theorem segE2 {w : World} {p : Program} {loose : List Str} {mean : ExcName → Option Value} {mg mb : Str → Option Value} {sp D cT cR cA cG cV : Addr} {its : List Value} {k : Nat} (O : Ord sp D cT cR cA cG cV) :
    Seg w p loose mean mg mb cT cR cA cG cV 10 1 (J10 sp D cT cR cA cG cV its k) (fun h₀ L s => SEnd h₀ L s (J11 sp D cT cR cA cG cV its k)) := by
  unfold Seg
  k_fill
  intro dp un gd a outer A₀ base h₀ L m news s B F X N T CH hd hu hP
  obtain ⟨o1, o2, o3, o4, o5, o6, o7⟩ := O
  rw [show ((lawBody w).drop 10).take 1 = [_] from rfl, show lawScope w = { kind := _, names := _, isGenerator := _, isCoroutine := _, more := _ } from rfl]
  obtain ⟨u, eV, kV, eT, i, aq, pk, c1, as, Z, has, hE, hg, hK, dT, dR, dA, dG, dV, lo, hi, hpq, haq, hps, z⟩ := hP
  rename_i t k' ka oT oR oA oG oV oc od fd sl ps vT vR vG vV
  have lpq : (pk == aq) = false := by rw [beq_eq_false_iff_ne]; exact Nat.ne_of_lt haq
  obtain ⟨Z0, eZ0⟩ : ∃ Z0, Z0 = (pk, (⟨oc, od, .func fd, sl⟩ : Obj)) :: Z := ⟨_, rfl⟩
  have hpk : (pk, (⟨oc, od, .func fd, sl⟩ : Obj)) ∈ Z0 := by rw [eZ0]; exact .head _
  have hZZ : ∀ p ∈ Z, p ∈ Z0 := fun p hp => by rw [eZ0]; exact .tail _ hp
  have hZq : ∀ p ∈ Z0, p.1 ≠ aq := by rw [eZ0]; k_all
  have BC : BqC w p loose mean mg mb (fun _ => none) Z0 aq pk false 2 := bq_ctr (m := false) hpk nofun 2
  have hE' : TIn Z0 3 (inM false 2 eT) eV := (hE.up).mono hZZ
  have h00 : ∀ p ∈ Z0, p ∈ Z0 := fun _ h => h
  have LC := @leq_ctr w p loose mean mg mb 3
  have hK3 : TIn Z 3 eT kV := hK.up
  have hBq : Bq 2 = 421 := rfl
  have hE3 : TIn Z0 3 eT eV := hE'
  subst eZ0
  have hal : as.length = 0 := by rw [has]; rfl
  k_steps
  obtain ⟨rfl, rfl⟩ := h9' rfl
  have hs8 : TIn _ 3 eT r9 := hs9
  clear hal BC
  refine Stop.mk ?_
  k_steps
  (rename News _ _ _ _ => N3); (rename Fr _ _ _ _ => F3)
  exact SEnd.mkO F3 N3 (by walk_at "my_over") (J11.mk _ i c1 dT dR dA dG dV lo hi hps) (by walk_at "my_sub")
end Mine
namespace Mine
theorem segF {w : World} {p : Program} {loose : List Str} {mean : ExcName → Option Value} {mg mb : Str → Option Value} {sp D cT cR cA cG cV : Addr} {its : List Value} {ns : List Int} {k : Nat} (hI : IntsAre its ns) (hlen : its.length ≤ 100) (O : Ord sp D cT cR cA cG cV) :
    Seg w p loose mean mg mb cT cR cA cG cV 11 3 (J11 sp D cT cR cA cG cV its k) (fun h₀ L s => SEnd h₀ L s (J14 sp D cT cR cA cG cV its k)) := by
  unfold Seg
  k_fill
  intro dp un gd a outer A₀ base h₀ L m news s B F X N T CH hd hu hP
  obtain ⟨o1, o2, o3, o4, o5, o6, o7⟩ := O
  have hne : @Ne Nat sp D := by omega
  rw [show ((lawBody w).drop 11).take 3 = [_, _, _] from rfl, show lawScope w = { kind := _, names := _, isGenerator := _, isCoroutine := _, more := _ } from rfl]
  obtain ⟨u, i, c1, dT, dR, dA, dG, dV, lo, hi, hps⟩ := hP
  rename_i t k' oT oR oA oG oV ps vT vR vA vG vV
  have CT := @tree_ctr w p loose mean mg mb sp D k k' its ns hI hlen hne 1
  have hB1 : Mine.Bd 1 = 32 := rfl
  k_steps
  rename_i vl hA l1a hB oV' dV' tkA gl hC l1b hD F0 t0 t1 N0
  refine Stop.mk ?_
  obtain ⟨n, hn⟩ : ∃ n : Nat, v9 = (n : Int) := ⟨_, (Int.toNat_of_nonneg hv0).symm⟩
  clear F0 N0
  refine rloop n (fun j m nx => JV [(Str.ofString "spring", .ref sp), (Str.ofString "tags", .ref gl)] gl vl sp D k' [(D, listOf its.toArray k), (cT, oT), (cR, oR), (cA, oA), (cG, oG), (cV, oV'), (222, tabObj ps)] (i + 1) j m nx) rfl rg' hn (by omega) F' N' (.start (by walk_at "my_over")) ?_ ?_
  · rintro j tj m1 nx h2 tk2 own hj hoff ⟨u, vs, gs, ts, cs, i', tl, ap, lv, lg, zt, zg, lo', hi'⟩ F2 N2
    simp only [List.cons_append, List.append_assoc, List.nil_append] at N2
    have hj3 : j ≤ 3 := by omega
    k_steps
    (rename News _ _ _ _ => N3); (rename Fr _ _ _ _ => F3)
    exact JV.step ap lv lg zt zg lo' hi' hoff F3 N3 (by walk_at "my_sub") (by walk_at "my_sub") (by walk_at "my_over") hs9 hto' ha9 (by omega) (by omega)
  · rintro m1 nx h2 tk2 ⟨u, vs, gs, ts, cs, i', tl, ap, lv, lg, zt, zg, lo', hi'⟩ F2 N2
    simp only [List.cons_append, List.append_assoc, List.nil_append] at N2
    k_steps
    exact SEnd.mkO (by k_asm) (by k_asm) (by walk_at "my_over") (J14.mk _ i' c1 vl gl vs gs ts cs tl zt zg (by omega) (by omega) dT dR dA dG dV' (by omega) (by omega) hps (by omega) (by omega) (by walk_at "my_apart")) (by walk_at "my_sub")
end Mine
namespace Mine
theorem segG {w : World} {p : Program} {loose : List Str} {mean : ExcName → Option Value} {mg mb : Str → Option Value} {sp D cT cR cA cG cV : Addr} {its : List Value} {ns : List Int} {k : Nat} (hI : IntsAre its ns) (hlen : its.length ≤ 100) (O : Ord sp D cT cR cA cG cV) :
    Seg w p loose mean mg mb cT cR cA cG cV 14 1 (J14 sp D cT cR cA cG cV its k) (fun h₀ L s => SEnd h₀ L s (J15 w sp D cT cR cA cG cV)) := by
  unfold Seg
  k_fill
  intro dp un gd a outer A₀ base h₀ L m news s B F X N T CH hd hu hP
  obtain ⟨o1, o2, o3, o4, o5, o6, o7⟩ := O
  have hne : @Ne Nat sp D := by omega
  rw [show ((lawBody w).drop 14).take 1 = [_] from rfl, show lawScope w = { kind := _, names := _, isGenerator := _, isCoroutine := _, more := _ } from rfl]
  obtain ⟨u, i, c1, vl, gl, vs, gs, ts, cs, Z, zt, zg, lv, lg, dT, dR, dA, dG, dV, lo, hi, hps, hvl, hgl, z⟩ := hP
  rename_i t k' k1 k2 oT oR oA oG oV ps vT vR vA vG
  k_steps
  · refine Stop.mk ?_
    rename_i t9 _
    refine' Ctr.use ?k1 ?k2 ?k3 (nsub (l' := Z ++ [(gl, listOf gs.toArray k2), (vl, listOf vs.toArray k1), (sp, listOf #[.int (i + 1) t9, .ref D] k'), (D, listOf its.toArray k), (cT, oT), (cR, oR), (cA, oA), (cG, oG), (cV, oV), (222, tabObj ps)]) ?k9 ?k4) ?k5 ?k6 (listof_tags zt (by walk_at "my_apart") (.tail _ (.head _)) (.head _) (o22 := tabObj ps) (by walk_at "my_mem") (by omega) (by omega)) ?k7 ?k8 ?_
    (case k1 => k_asm); (case k2 => k_asm); (case k3 => k_asm); (case k9 => k_asm); (case k4 => walk_at "my_sub"); (case k5 => k_asm); (case k6 => first | exact rfl | assumption); (case k7 => ktr_room); (case k8 => ktr_units)
    rintro r9 n9 h8 tk8 F8 N8 ⟨Z', tl, hs, hw, hr, hap⟩
    have z' := z.within hw
    replace N8 : News h₀ L h8 ((gl, listOf gs.toArray k2) :: (vl, listOf vs.toArray k1) :: (cT, oT) :: (cR, oR) :: (cA, oA) :: (cG, oG) :: (cV, oV) :: (222, tabObj ps) :: (tl ++ Z')) := nsub N8 (by walk_at "my_sub")
    clear N9
    k_steps
    (rename News _ _ _ _ => N3); (rename Fr _ _ _ _ => F3)
    exact SEnd.mkO F3 N3 (by walk_at "my_over") (J15.mk _ c1 vl gl vs gs ts cs true r9 tl Z' (zt.mono fun _ _ h => h.sh hs) zg lv lg hr dT (by assumption) dA dG dV hps hvl hgl z' (by walk_at "my_apart") ((hap.sub (b' := Z) fun p hp => List.mem_append_left _ hp).symm.within hw)) (by walk_at "my_sub")
  · refine Stop.mk ?_
    rename_i t9 _
    refine' Ctr.use ?k1 ?k2 ?k3 (nsub (l' := Z ++ [(gl, listOf gs.toArray k2), (vl, listOf vs.toArray k1), (sp, listOf #[.int (i + 1) t9, .ref D] k'), (D, listOf its.toArray k), (cT, oT), (cR, oR), (cA, oA), (cG, oG), (cV, oV), (222, tabObj ps)]) ?k9 ?k4) ?k5 ?k6 (listof_plain (gs := gs) zt (by walk_at "my_apart") (.tail _ (.head _)) (by omega)) ?k7 ?k8 ?_
    (case k1 => k_asm); (case k2 => k_asm); (case k3 => k_asm); (case k9 => k_asm); (case k4 => walk_at "my_sub"); (case k5 => k_asm); (case k6 => first | exact rfl | assumption); (case k7 => ktr_room); (case k8 => ktr_units)
    rintro r9 n9 h8 tk8 F8 N8 ⟨Z', tl, hs, hw, hr, hap⟩
    have z' := z.within hw
    replace N8 : News h₀ L h8 ((gl, listOf gs.toArray k2) :: (vl, listOf vs.toArray k1) :: (cT, oT) :: (cR, oR) :: (cA, oA) :: (cG, oG) :: (cV, oV) :: (222, tabObj ps) :: (tl ++ Z')) := nsub N8 (by walk_at "my_sub")
    clear N9
    k_steps
    (rename News _ _ _ _ => N3); (rename Fr _ _ _ _ => F3)
    exact SEnd.mkO F3 N3 (by walk_at "my_over") (J15.mk _ c1 vl gl vs gs ts cs false r9 tl Z' (zt.mono fun _ _ h => h.sh hs) zg lv lg hr dT (by assumption) dA dG dV hps hvl hgl z' (by walk_at "my_apart") ((hap.sub (b' := Z) fun p hp => List.mem_append_left _ hp).symm.within hw)) (by walk_at "my_sub")
end Mine
namespace Mine
theorem segH {w : World} {p : Program} {loose : List Str} {mean : ExcName → Option Value} {mg mb : Str → Option Value} {sp D cT cR cA cG cV : Addr} (O : Ord sp D cT cR cA cG cV) :
    Seg w p loose mean mg mb cT cR cA cG cV 15 1 (J15 w sp D cT cR cA cG cV) (fun h₀ L s => SEnd h₀ L s (J16 w sp D cT cR cA cG cV)) := by
  unfold Seg
  k_fill
  intro dp un gd a outer A₀ base h₀ L m news s B F X N T CH hd hu hP
  obtain ⟨o1, o2, o3, o4, o5, o6, o7⟩ := O
  rw [show ((lawBody w).drop 15).take 1 = [_] from rfl, show lawScope w = { kind := _, names := _, isGenerator := _, isCoroutine := _, more := _ } from rfl]
  obtain ⟨u, c1, vl, gl, vs, gs, ts, cs, nb, rv, Zr, Z, zt, zg, lv, lg, hr, dT, dR, dA, dG, dV, hps, hvl, hgl, z, zr, zz⟩ := hP
  rename_i k1 k2 oT oR oA oG oV ps vT vA vG
  have zz' : Stop (Apart Z Zr) := zz
  clear zz
  k_steps
  refine Stop.mk ?_
  refine comp_inv (fun i ys nw => nw = (gl, listOf gs.toArray k2) :: (vl, listOf vs.toArray k1) :: (cT, oT) :: (cR, oR) :: (cA, oA) :: (cG, oG) :: (cV, oV) :: (222, tabObj ps) :: (Zr ++ Z) ∧ Zip TagIs ((cs.map (told nb)).take i) ys) ⟨rfl, Zip.nil⟩ ?_ ?_
  · rintro i v ys nw I oI C oC DD m₂ h2 tk2 E' hi hPi ⟨rfl, hzp⟩ hC hx2 F2 N2 off hIC hID hCD
    have hi' : i < gs.length := by simpa using hi
    obtain ⟨c, v', et, ev, okc, tc, ec⟩ := zg.at hi'
    obtain rfl : v' = v := by
      have hP' : gs[i]? = some v := by simpa using hPi
      exact Option.some.inj (ev.symm.trans hP')
    subst ec
    have etd : (cs.map (told nb))[i]? = some (told nb c) := by rw [List.getElem?_map, et]; rfl
    cases hr with
    | plain x dx l hx hdx hl =>
      k_steps
      exact comp_end _ (by k_asm) (by k_asm) (by walk_at "my_sub") (fun p hp => (off p hp).1) (fun p hp => (off p hp).2.1) (fun p hp => (off p hp).2.2) (.inr ⟨_, .head _, rfl, _, rfl⟩) ⟨rfl, hzp.take_snoc etd (by simp [told, TagIs])⟩
    | tags x dx l ad nx ndx nl hx hdx hl had hod lo hkv hnx hndx hnl =>
      by_cases hne : c = Str.ofString ""
      · subst hne
        k_steps
        exact comp_end _ (by k_asm) (by k_asm) (by walk_at "my_sub") (fun p hp => (off p hp).1) (fun p hp => (off p hp).2.1) (fun p hp => (off p hp).2.2) (.inr ⟨_, .head _, rfl, _, rfl⟩) ⟨rfl, hzp.take_snoc etd (by simp [told, TagIs])⟩
      · have htd : told true c = some c := by simp [told, hne]
        k_steps
        exact comp_end _ (by k_asm) (by k_asm) (by walk_at "my_sub") (fun p hp => (off p hp).1) (fun p hp => (off p hp).2.1) (fun p hp => (off p hp).2.2) (.inr ⟨_, .head _, rfl, _, rfl⟩) ⟨rfl, hzp.take_snoc etd (by rw [htd]; exact ⟨okc, _, rfl⟩)⟩
  · rintro ys nw ⟨rfl, hzp⟩
    k_steps
    have n1 : @Ne Nat gl D' := o2' (gl, _) (by walk_at "my_mem")
    have n2 : @Ne Nat vl D' := o2' (vl, _) (by walk_at "my_mem")
    have n3 : @Ne Nat cT D' := o2' (cT, _) (by walk_at "my_mem")
    have n4 : @Ne Nat cR D' := o2' (cR, _) (by walk_at "my_mem")
    have n5 : @Ne Nat cA D' := o2' (cA, _) (by walk_at "my_mem")
    have n6 : @Ne Nat cG D' := o2' (cG, _) (by walk_at "my_mem")
    have n7 : @Ne Nat cV D' := o2' (cV, _) (by walk_at "my_mem")
    have n8 : @Ne Nat 222 D' := o2' (222, _) (by walk_at "my_mem")
    have m1 : ∀ p ∈ Zr, p.1 ≠ D' := fun p hp => o2' p (by simp [hp])
    have m2 : ∀ p ∈ Z, p.1 ≠ D' := fun p hp => o2' p (by simp [hp])
    k_steps
    (rename News _ _ _ _ => N3); (rename Fr _ _ _ _ => F3)
    have hts : (cs.map (told nb)).take gs.toArray.size = cs.map (told nb) := List.take_of_length_le (by have := zg.1; rw [List.length_map, List.size_toArray]; omega)
    rw [hts] at hzp
    exact SEnd.mkO F3 N3 (by walk_at "my_over") (J16.mk _ c1 vl D' vs gs ys ts cs nb rv Zr Z zt zg hzp lv lg hr dT dR dA (by assumption) dV hps hvl (Ne.symm n8) (by walk_at "my_apart") (by walk_at "my_apart") zz') (by walk_at "my_sub")
end Mine
namespace Mine
theorem segI {w : World} {p : Program} {loose : List Str} {mean : ExcName → Option Value} {mg mb : Str → Option Value} {sp D cT cR cA cG cV : Addr} (O : Ord sp D cT cR cA cG cV) :
    Seg w p loose mean mg mb cT cR cA cG cV 16 1 (J16 w sp D cT cR cA cG cV) (fun h₀ L s => SEnd h₀ L s (J17 w p loose mean mg mb cT cR cA cG cV)) := by
  unfold Seg
  k_fill
  intro dp un gd a outer A₀ base h₀ L m news s B F X N T CH hd hu hP
  obtain ⟨o1, o2, o3, o4, o5, o6, o7⟩ := O
  rw [show ((lawBody w).drop 16).take 1 = [_] from rfl, show lawScope w = { kind := _, names := _, isGenerator := _, isCoroutine := _, more := _ } from rfl]
  obtain ⟨u, c1, vl, gl, vs, gs, os', ts, cs, nb, rv, Zr, Z, zt, zg, zo, lv, lg, hr, dT, dR, dA, dG, dV, hps, hvl, hg2, z, zr, zz⟩ := hP
  rename_i k1 k2 oT oR oA oG oV ps vT vA
  have zz' : Stop (Apart Z Zr) := zz
  clear zz
  subst hps
  k_steps
  rename_i pk c' oc' vs' t' ct' dc' hA tkA d1 d2 l1a l2a hB F3 N3
  have l1a' : AllLt c' (Zr ++ Z) := by walk_at "my_allLt"
  have lzc : ∀ p ∈ Z, p.1 < c' := lt_right l1a'
  have lzp : ∀ p ∈ Z, p.1 < pk := lt_all_trans lzc l2a
  have z1 : Apart Z ((gl, nil0) :: (vl, nil0) :: (cG, nil0) :: (cV, nil0) :: (222, nil0) :: (pk, nil0) :: (c', oc') :: (cR, oR) :: []) := by walk_at "my_apart"
  have S : SpreadC w p loose mean mg mb _ pk rv := spread_ctr (w := w) (p := p) (loose := loose) (mean := mean) (mg := mg) (mb := mb) CH rfl (doc := dc') (pm := (mg (Str.ofString "__name__")).getD .none) (ctv := ct') (Z0 := (pk, _) :: (c', oc') :: (cR, oR) :: Zr) (.head _) (.tail _ (.head _)) d1 d2 (.tail _ (.tail _ (.head _))) dR
  exact SEnd.mkO F3 N3 (by walk_at "my_over") (J17.mk _ vl gl pk vs gs os' ts cs nb rv ((pk, _) :: (c', oc') :: (cR, oR) :: Zr) Z zt zg zo lv lg (hr.mono fun p hp => .tail _ (.tail _ (.tail _ hp))) (.head _) S dG dV (Apart.consR (Apart.ne2 z1 (by walk_at "my_mem")) (Apart.consR (Apart.ne2 z1 (by walk_at "my_mem")) (Apart.consR (Apart.ne2 z1 (by walk_at "my_mem")) (Apart.consR (Apart.ne2 z1 (by walk_at "my_mem")) (Apart.consR (Apart.ne2 z1 (by walk_at "my_mem")) (Apart.consR (ne_of_lt_all lzp) (Apart.consR (ne_of_lt_all lzc) (Apart.consR (Apart.ne2 z1 (by walk_at "my_mem")) zz'))))))))) (by walk_at "my_sub")
end Mine
namespace Mine
theorem segK {w : World} {p : Program} {loose : List Str} {mean : ExcName → Option Value} {mg mb : Str → Option Value} {sp D cT cR cA cG cV : Addr} (O : Ord sp D cT cR cA cG cV) :
    Seg w p loose mean mg mb cT cR cA cG cV 17 1 (J17 w p loose mean mg mb cT cR cA cG cV) (fun h₀ L s => SEnd h₀ L s (J18 w p loose mean mg mb cT cR cA cG cV)) := by
  unfold Seg
  k_fill
  intro dp un gd a outer A₀ base h₀ L m news s B F X N T CH hd hu hP
  obtain ⟨o1, o2, o3, o4, o5, o6, o7⟩ := O
  rw [show ((lawBody w).drop 17).take 1 = [_] from rfl, show lawScope w = { kind := _, names := _, isGenerator := _, isCoroutine := _, more := _ } from rfl]
  obtain ⟨u, vl, gl, pk, vs, gs, os', ts, cs, nb, rv, Zs, Z, zt, zg, zo, lv, lg, hr, hpk, S, dG, dV, z⟩ := hP
  rename_i k1 k2 oG oV oc od fd sl ps
  k_steps
  (rename News _ _ _ _ => N3); (rename Fr _ _ _ _ => F3)
  refine SEnd.mkO F3 N3 (by walk_at "my_over") (J18.mk _ vl gl pk _ vs gs os' ts cs nb rv Zs _ Z mk_before zt zg zo lv lg hr hpk S dG dV ?_) (by walk_at "my_sub")
  walk_at "my_apart"
theorem segL {w : World} {p : Program} {loose : List Str} {mean : ExcName → Option Value} {mg mb : Str → Option Value} {sp D cT cR cA cG cV : Addr} (O : Ord sp D cT cR cA cG cV) :
    Seg w p loose mean mg mb cT cR cA cG cV 18 1 (J18 w p loose mean mg mb cT cR cA cG cV) (fun h₀ L s => SEnd h₀ L s (J19 w p loose mean mg mb cT cR cA cG cV)) := by
  unfold Seg
  k_fill
  intro dp un gd a outer A₀ base h₀ L m news s B F X N T CH hd hu hP
  obtain ⟨o1, o2, o3, o4, o5, o6, o7⟩ := O
  rw [show ((lawBody w).drop 18).take 1 = [_] from rfl, show lawScope w = { kind := _, names := _, isGenerator := _, isCoroutine := _, more := _ } from rfl]
  obtain ⟨u, vl, gl, pk, bv, vs, gs, os', ts, cs, nb, rv, Zs, Zb, Z, hb, zt, zg, zo, lv, lg, hr, hpk, S, dG, dV, z⟩ := hP
  rename_i k1 k2 oG oV oc od fd sl ps
  k_steps
  (rename News _ _ _ _ => N3); (rename Fr _ _ _ _ => F3)
  refine SEnd.mkO F3 N3 (by walk_at "my_over") (J19.mk _ vl gl pk bv _ vs gs os' ts cs nb rv Zs Zb _ Z mk_plain hb zt zg zo lv lg hr hpk S dG dV ?_) (by walk_at "my_sub")
  walk_at "my_apart"
end Mine
namespace Mine
theorem segM {w : World} {p : Program} {loose : List Str} {mean : ExcName → Option Value} {mg mb : Str → Option Value} {sp D cT cR cA cG cV : Addr} (O : Ord sp D cT cR cA cG cV) :
    Seg w p loose mean mg mb cT cR cA cG cV 19 1 (J19 w p loose mean mg mb cT cR cA cG cV) (fun h₀ L s => SEnd h₀ L s (J20 w p loose mean mg mb cT cR cA cG cV)) := by
  unfold Seg
  k_fill
  intro dp un gd a outer A₀ base h₀ L m news s B F X N T CH hd hu hP
  obtain ⟨o1, o2, o3, o4, o5, o6, o7⟩ := O
  rw [show ((lawBody w).drop 19).take 1 = [_] from rfl, show lawScope w = { kind := _, names := _, isGenerator := _, isCoroutine := _, more := _ } from rfl]
  obtain ⟨u, vl, gl, pk, bv, pv, vs, gs, os', ts, cs, nb, rv, Zs, Zb, Zp, Z, hp, hb, zt, zg, zo, lv, lg, hr, hpk, S, dG, dV, z⟩ := hP
  rename_i k1 k2 oG oV oc od fd sl ps
  k_steps
  refine Stop.mk ?_
  rename_i d9 hA o9 F0 N0 lo9 hd9 l1d
  clear F0 N0
  refine comp_inv (fun i ys nw => ∃ tl, nw = tl ++ ((d9, o9) :: (gl, listOf os'.toArray k2) :: (vl, listOf vs.toArray k1) :: (cG, oG) :: (cV, oV) :: (222, tabObj ps) :: (Zs ++ (Zb ++ (Zp ++ Z)))) ∧ Apart tl ((d9, o9) :: (gl, listOf os'.toArray k2) :: (vl, listOf vs.toArray k1) :: (cG, oG) :: (cV, oV) :: (222, tabObj ps) :: (Zs ++ (Zb ++ (Zp ++ Z)))) ∧ Zip (PairAt tl) (((cs.map (told nb)).zip vs).take i) ys) ⟨[], rfl, Apart.nil, Zip.nil⟩ ?_ ?_
  · rintro i v ys nw I oI C oC DD m₂ h2 tk2 E' hi hPi ⟨tl, rfl, hap, hzp⟩ hC hx2 F2 N2 off hIC hID hCD
    obtain ⟨t9, rfl⟩ := hPi
    have hi' : i < vs.length := hi
    obtain ⟨oi, gi, eo, eg, hgi⟩ := zo.at (i := i) (by have e1 := zo.1; have e2 := zg.1; rw [List.length_map] at e1; omega)
    obtain ⟨vi, ev⟩ : ∃ vi, vs[i]? = some vi := ⟨_, List.getElem?_eq_getElem hi'⟩
    have ev' : vs[((0 : Int) + (i : Int)).toNat]? = some vi := by rw [Int.zero_add]; exact ev
    have eg' : os'[((0 : Int) + (i : Int)).toNat]? = some gi := by rw [Int.zero_add]; exact eg
    have ep : ((cs.map (told nb)).zip vs)[i]? = some (oi, vi) := by rw [List.getElem?_zip_eq_some]; exact ⟨eo, ev⟩
    k_steps
    rename_i tp hB FB NB lB
    exact comp_end ((tp, ({ cls := .type "tuple", data := .seq #[gi, vi] } : Obj)) :: (tl ++ ((d9, o9) :: (gl, listOf os'.toArray k2) :: (vl, listOf vs.toArray k1) :: (cG, oG) :: (cV, oV) :: (222, tabObj ps) :: (Zs ++ (Zb ++ (Zp ++ Z)))))) (by k_asm) (by k_asm) (by walk_at "my_sub") (ne_cons (Nat.ne_of_gt lB.1) fun p hp => (off p hp).1) (ne_cons (Nat.ne_of_gt lB.2.1) fun p hp => (off p hp).2.1) (ne_cons (Nat.ne_of_gt lB.2.2.1) fun p hp => (off p hp).2.2) trivial
      ⟨(tp, _) :: tl, rfl, Apart.cons (lt_right lB.2.2.2) hap, (hzp.mono fun _ _ h => h.mono fun _ h => .tail _ h).take_snoc ep ⟨tp, gi, _, rfl, .head _, hgi⟩⟩
  · rintro ys nw ⟨tl, rfl, hap, hzp⟩
    rw [show ((cs.map (told nb)).zip vs).take ((vs.length : Int) - 0).toNat = (cs.map (told nb)).zip vs from List.take_of_length_le (by rw [List.length_zip]; have := Nat.min_le_right (cs.map (told nb)).length vs.length; omega)] at hzp
    k_steps
    replace N' : News h₀ L _ ((d9, o9) :: (D', listOf ys.toArray _) :: (gl, listOf os'.toArray k2) :: (vl, listOf vs.toArray k1) :: (cG, oG) :: (cV, oV) :: (222, tabObj ps) :: (tl ++ (Zs ++ (Zb ++ (Zp ++ Z))))) := nsub N' (by walk_at "my_sub")
    have n1 : @Ne Nat d9 D' := o2' (d9, o9) (by walk_at "my_mem")
    k_steps
    rename_i hB o8 FB NB hd8
    refine Stop.mk ?_
    have lzd : ∀ p ∈ Z, p.1 < d9 := lt_of_allLt (allLt_append (allLt_append (allLt_append (by walk_at "my_allLt")).2).2).2
    have m2 : ∀ p ∈ Z, p.1 ≠ D' := fun p hp => o2' p (by simp [hp])
    have hZtl : Stop (Apart Z tl) := (hap.sub (b' := Z) (by walk_at "my_sub")).symm
    have ha : Apart Z ((d9, o8) :: (D', listOf ys.toArray ys.length) :: (gl, listOf os'.toArray k2) :: (vl, listOf vs.toArray k1) :: (cG, oG) :: (cV, oV) :: (222, tabObj ps) :: (tl ++ (Zs ++ (Zb ++ Zp)))) :=
      Apart.consR (ne_of_lt_all lzd) (Apart.consR m2 (Apart.consR (Apart.ne2 z (by walk_at "my_mem")) (Apart.consR (Apart.ne2 z (by walk_at "my_mem")) (Apart.consR (Apart.ne2 z (by walk_at "my_mem")) (Apart.consR (Apart.ne2 z (by walk_at "my_mem")) (Apart.consR (Apart.ne2 z (by walk_at "my_mem")) (Apart.appR hZtl (z.sub fun p hp => .tail _ (.tail _ (.tail _ (.tail _ (.tail _ hp))))))))))))
    refine' Ctr.use ?k1 ?k2 ?k3 (nsub (l' := Z ++ ((d9, o8) :: (D', listOf ys.toArray ys.length) :: (gl, listOf os'.toArray k2) :: (vl, listOf vs.toArray k1) :: (cG, oG) :: (cV, oV) :: (222, tabObj ps) :: (tl ++ (Zs ++ (Zb ++ Zp))))) ?k9 ?k4) ?k5 ?k6
      (sub_row (os := cs.map (told nb)) (Zb := Zp) (.head _) hd8 lo9 (by with_unfolding_all rfl) (by with_unfolding_all rfl) (by with_unfolding_all rfl) (by with_unfolding_all rfl) (.tail _ (.head _)) (hzp.mono fun _ _ h => h.mono (by walk_at "my_sub")) zt (by have e1 := zg.1; rw [List.length_map]; omega) lv ha hp (by walk_at "my_sub")) ?k7 ?k8 ?_
    (case k1 => k_asm); (case k2 => k_asm); (case k3 => k_asm); (case k9 => k_asm); (case k4 => walk_at "my_sub"); (case k5 => k_asm); (case k6 => first | exact rfl | assumption); (case k7 => ktr_room); (case k8 => ktr_units)
    rintro r9 n9 h8 tk8 F8 N8 ⟨Z', tl2, hs, hw, hdue, hap2⟩
    have zA := z.within hw
    have zB : Apart Z' tl2 := (hap2.sub (b' := Z) (by walk_at "my_sub")).symm.within hw
    clear N' NB
    k_steps
    (rename News _ _ _ _ => N3); (rename Fr _ _ _ _ => F3)
    refine SEnd.mkO F3 N3 (by walk_at "my_over") (J20.mk _ vl gl pk bv r9 vs gs os' ts cs nb rv Zs Zb (Zp ++ tl2) Z' hdue hb (zt.mono fun _ _ h => h.sh hs) zg zo lv lg hr hpk S dG dV ?_) (by walk_at "my_sub")
    exact Apart.consR (Apart.ne2 zA (by walk_at "my_mem")) (Apart.consR (Apart.ne2 zA (by walk_at "my_mem")) (Apart.consR (Apart.ne2 zA (by walk_at "my_mem")) (Apart.consR (Apart.ne2 zA (by walk_at "my_mem")) (Apart.consR (Apart.ne2 zA (by walk_at "my_mem")) (Apart.appR (zA.sub (by walk_at "my_sub")) (Apart.appR (zA.sub (by walk_at "my_sub")) (Apart.appR (zA.sub (by walk_at "my_sub")) zB)))))))
end Mine
namespace Mine
theorem segN {w : World} {p : Program} {loose : List Str} {mean : ExcName → Option Value} {mg mb : Str → Option Value} {sp D cT cR cA cG cV : Addr} (O : Ord sp D cT cR cA cG cV) :
    Seg w p loose mean mg mb cT cR cA cG cV 20 1 (J20 w p loose mean mg mb cT cR cA cG cV) LawEnd := by
  unfold Seg
  k_fill
  intro dp un gd a outer A₀ base h₀ L m news s B F X N T CH hd hu hP
  obtain ⟨o1, o2, o3, o4, o5, o6, o7⟩ := O
  rw [show ((lawBody w).drop 20).take 1 = [_] from rfl, show lawScope w = { kind := _, names := _, isGenerator := _, isCoroutine := _, more := _ } from rfl]
  obtain ⟨u, vl, gl, pk, bv, dv, vs, gs, os', ts, cs, nb, rv, Zs, Zb, Zd, Z, hdue, hb, zt, zg, zo, lv, lg, hr, hpk, S, dG, dV, z⟩ := hP
  rename_i k1 k2 oG oV oc od fd sl ps
  have hst : StopAt := trivial
  k_steps
  refine Stop.mk ?_
  refine' Ctr.use ?k1 ?k2 ?k3 (nsub (l' := Z ++ ((gl, listOf os'.toArray k2) :: (vl, listOf vs.toArray k1) :: (cG, oG) :: (cV, oV) :: (222, tabObj ps) :: (Zs ++ (Zb ++ Zd)))) ?k9 ?k4) ?k5 ?k6
    (bq_row (Z0 := Zs) hpk S (by walk_at "my_sub") zt zg lg lv (Apart.consR (Apart.ne2 z (by walk_at "my_mem")) (Apart.consR (Apart.ne2 z (by walk_at "my_mem")) (Apart.consR (Apart.ne2 z (by walk_at "my_mem")) (Apart.consR (Apart.ne2 z (by walk_at "my_mem")) (Apart.consR (Apart.ne2 z (by walk_at "my_mem")) (z.sub (by walk_at "my_sub"))))))) hb (by walk_at "my_sub") (hr.mono (by walk_at "my_sub"))) ?k7 ?k8 ?_
  (case k1 => k_asm); (case k2 => k_asm); (case k3 => k_asm); (case k9 => k_asm); (case k4 => walk_at "my_sub"); (case k5 => k_asm); (case k6 => first | exact rfl | assumption); (case k7 => ktr_room); (case k8 => ktr_units)
  rintro r9 n9 h8 tk8 F8 N8 ⟨Z', tl2, hs, hw, ht, hap2⟩
  have zt' := zt.1
  obtain ⟨W, eW⟩ : ∃ W, W = Z' ++ (Zb ++ (Zd ++ tl2)) := ⟨_, rfl⟩
  have hdW : TIn W 2 (rowT ts (cs.map (told nb))) dv := by rw [eW]; exact (hdue.sh hs.app).mono (by walk_at "my_sub")
  have htW : TIn W 2 (rowT ts (cs.map (told nb))) r9 := by rw [eW]; exact ht.mono (by walk_at "my_sub")
  have NW : News h₀ L h8 ((vl, listOf vs.toArray k1) :: (cV, oV) :: (222, tabObj ps) :: W) := nsub N8 (by rw [eW]; walk_at "my_sub")
  have hdW' := hdW
  rw [TIn_call] at hdW'
  obtain ⟨vsd, gsd, hcd, _, _, _, zd⟩ := hdW'
  obtain ⟨xd, ld, gd', hxd, hdxd, hld, hgd⟩ := hcd
  have lvd : vsd.length = 3 + vs.length := by have e1 := zd.1; simp [rowTs] at e1; omega
  have LC := @leq_ctr w p loose mean mg mb 2
  clear N8 ht hdue hst' eW
  k_steps
  rw [show ((vsd.length : Int) == 3 + (vs.length : Int)) = true from by rw [beq_iff_eq]; omega]
  exact LawEnd.mk (by k_asm) (by k_asm) (.tail _ (.tail _ (.head _)))
end Mine
namespace Mine
theorem LawEnd.back {h₀ : Heap} {L : Addr} {s : Shared} {h1 : Heap} {t1 : Nat} {f : Flow} {s' : Shared} (h : LawEnd h₀ L { s with heap := h1, toks := t1 } f s') : LawEnd h₀ L s f s' := by
  cases h with
  | mk F N hq => exact .mk F N hq
theorem Seg.cons {w : World} {p : Program} {loose : List Str} {mean : ExcName → Option Value} {mg mb : Str → Option Value} {cT cR cA cG cV : Addr} {k n n' : Nat} {P Q : (Str → Option Value) → Led → Prop}
    (A : Seg w p loose mean mg mb cT cR cA cG cV k n P (fun h₀ L s => SEnd h₀ L s Q)) (B : Seg w p loose mean mg mb cT cR cA cG cV (k + n) n' Q LawEnd) : Seg w p loose mean mg mb cT cR cA cG cV k (n + n') P LawEnd := by
  intro dp un gd a outer A₀ base h₀ L m news s B0 F X N T CH hd hu hP
  refine cut (h₀ := h₀) (L := L) n Q ?_ ?_
  · rw [List.take_take, Nat.min_eq_left (Nat.le_add_right n n')]
    exact A dp un gd a outer A₀ base h₀ L m news s B0 F X N T CH hd hu hP
  · intro h1 t1 m1 n1 F1 N1 j1
    rw [List.drop_take, List.drop_drop, Nat.add_sub_cancel_left]
    exact wpAny_mono (B dp un gd a outer A₀ base h₀ L m1 n1 _ B0 F1 X N1 T CH hd hu j1) (fun _ _ h => h.back) fun _ _ e => e
theorem law_rest {w : World} {p : Program} {loose : List Str} {mean : ExcName → Option Value} {mg mb : Str → Option Value} {sp D cT cR cA cG cV : Addr} {its : List Value} {ns : List Int} {k : Nat} (hI : IntsAre its ns) (hlen : its.length ≤ 100) (O : Ord sp D cT cR cA cG cV) :
    Seg w p loose mean mg mb cT cR cA cG cV 1 20 (J1 sp D cT cR cA cG cV its k) LawEnd :=
  Seg.cons (n' := 17) (segA hI hlen O) (Seg.cons (n' := 16) (segB hI hlen O) (Seg.cons (n' := 13) (segC O) (Seg.cons (n' := 12) (segD O) (Seg.cons (n' := 11) (segE O) (Seg.cons (n' := 10) (segE2 O) (Seg.cons (n' := 7) (segF hI hlen O) (Seg.cons (n' := 6) (segG hI hlen O)
    (Seg.cons (n' := 5) (segH O) (Seg.cons (n' := 4) (segI O) (Seg.cons (n' := 3) (segK O) (Seg.cons (n' := 2) (segL O) (Seg.cons (n' := 1) (segM O) (segN O)))))))))))))
theorem cutF {prog : Program} {w : World} {A : Around} {E : Value → Shared → Prop} {env : Env} {Q : Flow → Shared → Prop} {h₀ : Heap} {L : Addr} {m : Str → Option Value} {l : List Stmt} {s : Shared} (_F : Fr h₀ L s.heap m) (n : Nat) (J : (Str → Option Value) → Led → Prop)
    (h1 : wpAny (model prog w) A (execs (l.take n) env) (SEnd h₀ L s J) (fun _ _ => False) s)
    (h2 : ∀ h' tk' m' n', Fr h₀ L h' m' → News h₀ L h' n' → J m' n' → wpAny (model prog w) A (execs (l.drop n) env) Q E { s with heap := h', toks := tk' }) : wpAny (model prog w) A (execs l env) Q E s := cut n J h1 h2
/-- after the first statement -/
def JA (cT cR cA cG cV : Addr) (m : Str → Option Value) (n : Led) : Prop := ∃ sp D its ns k, IntsAre its ns ∧ its.length ≤ 100 ∧ Ord sp D cT cR cA cG cV ∧ J1 sp D cT cR cA cG cV its k m n
theorem JA.mk {sp D cT cR cA cG cV : Addr} {its : List Value} {ns : List Int} {k t k' : Nat} {u : Str → Option Value} {oT oR oA oG oV : Obj} (hI : IntsAre its ns) (hlen : its.length ≤ 100) (O : Ord sp D cT cR cA cG cV)
    (dT : ∃ v, oT.data = .cell v) (dR : ∃ v, oR.data = .cell v) (dA : ∃ v, oA.data = .cell v) (dG : ∃ v, oG.data = .cell v) (dV : ∃ v, oV.data = .cell v) :
    JA cT cR cA cG cV (over [(Str.ofString "spring", .ref sp)] u) [(sp, listOf #[.int 0 t, .ref D] k'), (D, listOf its.toArray k), (cT, oT), (cR, oR), (cA, oA), (cG, oG), (cV, oV), (222, tabObj #[])] := by
  obtain ⟨_, dT⟩ := dT; obtain ⟨_, dR⟩ := dR; obtain ⟨_, dA⟩ := dA; obtain ⟨_, dG⟩ := dG; obtain ⟨_, dV⟩ := dV
  exact ⟨sp, D, its, ns, k, hI, hlen, O, .mk u dT dR dA dG dV⟩
end Mine
theorem PySem.Challenge.cw_pq1394_01_holds : PySem.Challenge.rw_pq1394_01.Holds :=
  Mine.hd (by
  k_go0
  (rename CodeHd _ _ _ => CH0); (rename Top _ _ _ _ _ _ => T0); (rename Below _ _ _ _ => B0); (rename Fr _ _ _ _ => F0); (rename News _ _ _ _ => N0); (rename World => w0); (rename Shared => s1)
  have X00 : (Mine.hd.heap_39 w0.params).In (ghostOf s1.heap [(224, 222)]) := by assumption
  refine Mine.cutF F0 1 (Mine.JA (s1.heap.objs.size + 1 + 1 + 1 + 1 + 1) (s1.heap.objs.size + 1 + 1 + 1 + 1) (s1.heap.objs.size + 1 + 1 + 1) (s1.heap.objs.size + 1 + 1) (s1.heap.objs.size + 1)) ?_ ?_
  · k_steps
    simp only [List.take_zero]
    k_steps
    (rename News _ _ _ _ => N3); (rename Fr _ _ _ _ => F3); (rename IntsAre _ _ => hI3)
    refine Mine.SEnd.mkO F3 N3 (by walk_at "my_over") (Mine.JA.mk hI3 ?_ ⟨?_, ?_, ?_, ?_, ?_, ?_, ?_⟩ ?_ ?_ ?_ ?_ ?_) (by walk_at "my_sub")
    · rw [hI3.length, List.length_take]; omega
    all_goals first | omega | exact ⟨_, by assumption⟩
  · rintro h1 t1 m1 n1 F1 N1 ⟨sp, D, its, ns, k, hI, hlen, O, j1⟩
    refine wpAny_mono (Mine.law_rest (w := w0) hI hlen O _ _ _ _ _ _ _ _ _ _ _ _ B0 F1 X00 N1 T0 CH0 ?_ ?_ j1) ?_ ?_
    · decide
    · decide
    · rintro f s' ⟨F2, N2, hq⟩
      k_steps
    · exact fun _ _ h => h.elim)
