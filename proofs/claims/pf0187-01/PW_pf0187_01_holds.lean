import PyProof.Rows.All
import Wide.All
import OpenK.AllK
import Wide.FinOn
import PySem.Challenge.RW_pf0187_01
set_option compiler.extract_closed false
set_option Elab.async false
set_option maxRecDepth 100000
set_option maxHeartbeats 8000000
set_option pp.deepTerms false
set_option pp.deepTerms.threshold 5
set_option pp.proofs false
set_option linter.all false
section
open PySem PySem.W PyProof.Rows
namespace Mine
/-- the text without its plain assignments -/
def vw : Program := PySem.W.view PySem.Challenge.pw_pf0187_01 [0, 2, 3, 4, 6, 7, 8, 9, 10, 12, 13, 14, 15, 16, 17, 18, 19, 20]
-- the head by one run of the kernel, in place of the kit's pieces (their twins take 13 MB of the compiled file)
local macro_rules | `(tactic| o_head $H) => `(tactic| (
  refine holds_open (q := Mine.vw) (loose := []) (Xt := fun s => xlAt Mine.vw [] s && recOk (RowW.records PySem.Challenge.rw_pf0187_01.row.toRowW) s) (XP := XL Mine.vw []) (Yf := Hook.obs $H) (Ya := Hook.val $H) (YP := Hook.says $H) (N := 2548) ?hl (Hook.of $H) (Hook.keeps $H) (fun s e => xl_of s (Bool.and_eq_true_iff.mp e).1) XL.keeps (by rfl) (by rfl) (by rfl) (fun s e => recFacts_of (Bool.and_eq_true_iff.mp e).2) (by rfl) (by assumption) (by decide +kernel) ⟨rfl, rfl, rfl, rfl, rfl, by decide +kernel⟩ ?hw ?hc
  case hl => (intro w; unfold openEnds fencedOpening topFrom; rw [Fast.te10274390034422433532,Fast.te14082659384304107361,Fast.te14289696077712309145,Fast.te1435165496053646825,Fast.te4187177175401517315,Fast.te14364793385576792824,Fast.te5923862056798008813,Fast.te8920871248978507458]; kernel_rfl)))
local macro_rules | `(tactic| o_law) => `(tactic| refine holds_law (by rw [Fast.te9446332074065402090]; decide +kernel) fun said => ?_)
open_top hd for PySem.Challenge.rw_pf0187_01
end Mine
end
section
open PySem PySem.W PySem.Spec PySem.Calls PyProof.Rows PyProof.V
namespace Mine
-- what is told by existence, in one constructor (an '∃ .. ∧ ..' keeps a copy of its body a witness)
inductive Ex1 {α1 : Type} (p : α1 → Prop) : Prop
  | mk (a : α1) (h : p a) : Ex1 p
inductive Ex2 {α1 α2 : Type} (p : α1 → α2 → Prop) : Prop
  | mk (a : α1) (b : α2) (h : p a b) : Ex2 p
inductive Ex3 {α1 α2 α3 : Type} (p : α1 → α2 → α3 → Prop) : Prop
  | mk (a : α1) (b : α2) (c : α3) (h : p a b c) : Ex3 p
inductive Ex4 {α1 α2 α3 α4 : Type} (p : α1 → α2 → α3 → α4 → Prop) : Prop
  | mk (a : α1) (b : α2) (c : α3) (d : α4) (h : p a b c d) : Ex4 p
inductive Ex5 {α1 α2 α3 α4 α5 : Type} (p : α1 → α2 → α3 → α4 → α5 → Prop) : Prop
  | mk (a : α1) (b : α2) (c : α3) (d : α4) (e : α5) (h : p a b c d e) : Ex5 p
inductive Ex6 {α1 α2 α3 α4 α5 α6 : Type} (p : α1 → α2 → α3 → α4 → α5 → α6 → Prop) : Prop
  | mk (a : α1) (b : α2) (c : α3) (d : α4) (e : α5) (f : α6) (h : p a b c d e f) : Ex6 p
inductive Ex7 {α1 α2 α3 α4 α5 α6 α7 : Type} (p : α1 → α2 → α3 → α4 → α5 → α6 → α7 → Prop) : Prop
  | mk (a : α1) (b : α2) (c : α3) (d : α4) (e : α5) (f : α6) (g : α7) (h : p a b c d e f g) : Ex7 p
inductive Ex8 {α1 α2 α3 α4 α5 α6 α7 α8 : Type} (p : α1 → α2 → α3 → α4 → α5 → α6 → α7 → α8 → Prop) : Prop
  | mk (a : α1) (b : α2) (c : α3) (d : α4) (e : α5) (f : α6) (g : α7) (h : α8) (h : p a b c d e f g h) : Ex8 p
inductive An2 (p1 p2 : Prop) : Prop
  | mk (h1 : p1) (h2 : p2) : An2 p1 p2
inductive An3 (p1 p2 p3 : Prop) : Prop
  | mk (h1 : p1) (h2 : p2) (h3 : p3) : An3 p1 p2 p3
inductive An4 (p1 p2 p3 p4 : Prop) : Prop
  | mk (h1 : p1) (h2 : p2) (h3 : p3) (h4 : p4) : An4 p1 p2 p3 p4
inductive An5 (p1 p2 p3 p4 p5 : Prop) : Prop
  | mk (h1 : p1) (h2 : p2) (h3 : p3) (h4 : p4) (h5 : p5) : An5 p1 p2 p3 p4 p5
inductive An6 (p1 p2 p3 p4 p5 p6 : Prop) : Prop
  | mk (h1 : p1) (h2 : p2) (h3 : p3) (h4 : p4) (h5 : p5) (h6 : p6) : An6 p1 p2 p3 p4 p5 p6
inductive An7 (p1 p2 p3 p4 p5 p6 p7 : Prop) : Prop
  | mk (h1 : p1) (h2 : p2) (h3 : p3) (h4 : p4) (h5 : p5) (h6 : p6) (h7 : p7) : An7 p1 p2 p3 p4 p5 p6 p7
inductive An8 (p1 p2 p3 p4 p5 p6 p7 p8 : Prop) : Prop
  | mk (h1 : p1) (h2 : p2) (h3 : p3) (h4 : p4) (h5 : p5) (h6 : p6) (h7 : p7) (h8 : p8) : An8 p1 p2 p3 p4 p5 p6 p7 p8
inductive An9 (p1 p2 p3 p4 p5 p6 p7 p8 p9 : Prop) : Prop
  | mk (h1 : p1) (h2 : p2) (h3 : p3) (h4 : p4) (h5 : p5) (h6 : p6) (h7 : p7) (h8 : p8) (h9 : p9) : An9 p1 p2 p3 p4 p5 p6 p7 p8 p9
-- one list within another
theorem sub_in {α : Type} {q : α} {A B : List α} (hq : q ∈ A) (h : ∀ q ∈ A, q ∈ B) : q ∈ B := h q hq
theorem sub_nil {α : Type} {B : List α} : ∀ q ∈ ([] : List α), q ∈ B := fun _ h => nomatch h
theorem sub_cons {α : Type} {a : α} {A B : List α} (h1 : a ∈ B) (h2 : ∀ q ∈ A, q ∈ B) : ∀ q ∈ a :: A, q ∈ B := List.forall_mem_cons.mpr ⟨h1, h2⟩
theorem sub_app {α : Type} {A A' B : List α} (h1 : ∀ q ∈ A, q ∈ B) (h2 : ∀ q ∈ A', q ∈ B) : ∀ q ∈ A ++ A', q ∈ B := fun q h => (List.mem_append.mp h).elim (h1 q) (h2 q)
theorem sub_refl {α : Type} {A : List α} : ∀ q ∈ A, q ∈ A := fun _ h => h
theorem sub_tail {α : Type} {b : α} {A B : List α} (h : ∀ q ∈ A, q ∈ B) : ∀ q ∈ A, q ∈ b :: B := fun q hq => .tail _ (h q hq)
theorem sub_left {α : Type} {A B B' : List α} (h : ∀ q ∈ A, q ∈ B) : ∀ q ∈ A, q ∈ B ++ B' := fun q hq => List.mem_append_left _ (h q hq)
theorem sub_right {α : Type} {A B B' : List α} (h : ∀ q ∈ A, q ∈ B') : ∀ q ∈ A, q ∈ B ++ B' := fun q hq => List.mem_append_right _ (h q hq)
theorem mem_cons_s {α : Type} {a b : α} {l : List α} (h : a ∈ b :: l) : b = a ∨ a ∈ l := (List.mem_cons.mp h).imp Eq.symm id
theorem mem_hd {α : Type} {a : α} {B : List α} : a ∈ a :: B := .head _
theorem mem_tl {α : Type} {a b : α} {B : List α} (h : a ∈ B) : a ∈ b :: B := .tail _ h
-- room without omega
theorem room3 {a b c n m : Nat} (h : a + n < m) (hle : b + c ≤ n) : a + b + c < m := Nat.lt_of_le_of_lt (Nat.add_assoc a b c ▸ Nat.add_le_add_left hle a) h
theorem room2 {a b n m : Nat} (h : a + n < m) (hle : b ≤ n) : a + b < m := Nat.lt_of_le_of_lt (Nat.add_le_add_left hle a) h
theorem room0 {a n m : Nat} (h : a + n < m) : a < m := Nat.lt_of_le_of_lt (Nat.le_add_right a n) h
/-- the goal put aside while hypotheses are taken apart -/
theorem fold_goal {G : Prop} (h : ∀ X : Prop, (G → X) → X) : G := h G id
section
variable {prog : Program} {w : World} {A : Around} {E : Value → Shared → Prop} {s : Shared} {h₀ : Heap} {L : Addr} {m : Str → Option Value} {env : Env} {target : Expr}

theorem subL_mem {l all : List (Addr × Obj)} : SubL l all → ∀ p ∈ l, p ∈ all := by
  induction l with
  | nil => intro _ p hp; cases hp
  | cons q r ih =>
    intro h p hp
    rcases List.mem_cons.mp hp with rfl | hp
    · exact h.1
    · exact ih h.2 p hp

/-- an iterator that stands at I and gives the items xs, one a turn -/
structure Source (prog : Program) (w : World) (A : Around) (target : Expr) (h₀ : Heap) (I : Addr) (ws : List (Addr × String)) (keep : List (Addr × Obj)) (xs : List Itm) (fp wr : List Addr) (P Md : Nat → Value → Heap → Prop) (St : Nat → Heap → Prop) : Prop where
  turns : KTurns prog w A target I fp wr xs.length P Md St
  self : ∀ i (s : Shared) (Q : Value → Shared → Prop) (E : Value → Shared → Prop), St i s.heap → Q (.ref I) s → wpAny (model prog w) A (pyIter (.ref I)) Q E s
  item : ∀ i v h, P i v h → ∃ a, xs[i]? = some a ∧ a.Is v h
  objs : ∀ i h, St i h → ∃ its, Objs ws its ∧ ∀ p ∈ its, h.get? p.1 = some p.2
  wsok : ∀ b ∈ ws.map (·.1), b ∈ fp ∧ h₀.get? b = none
  wrok : ∀ b ∈ wr, b ∈ ws.map (·.1)
  fpok : ∀ b ∈ fp, b ∈ ws.map (·.1) ∨ ∃ o, (b, o) ∈ keep

/-- what a loop or a comprehension is told of its iterator -/
def SrcAt (prog : Program) (w : World) (A : Around) (target : Expr) (h₀ : Heap) (L : Addr) (I : Addr) (ws : List (Addr × String)) (keep : List (Addr × Obj)) (xs : List Itm) (news : List (Addr × Obj)) (h : Heap) : Prop :=
  ∃ fp wr P Md St, Source prog w A target h₀ I ws keep xs fp wr P Md St ∧ St 0 h ∧ (∀ b ∈ ws.map (·.1), b < h.objs.size ∧ b ≠ L) ∧ (∀ p ∈ news, p.1 ∉ ws.map (·.1)) ∧ SubL keep news

theorem Itm.is_val {v u : Value} {h : Heap} (e : Itm.Is (.val v) u h) : u = v := e

theorem src_list {ax : Addr} {lo : Obj} {vs : List Value} {n : Nat} {news : List (Addr × Obj)} {Q : Value → Shared → Prop}
    (hh : A.handled = none) (F : Fr h₀ L s.heap m) (N : News h₀ L s.heap news) (hm : (ax, lo) ∈ news) (hc : lo.cls = .type "list") (hd : lo.data = .seq vs.toArray n)
    (k : ∀ I h', Fr h₀ L h' m → News h₀ L h' news → (∀ p ∈ news, p.1 < I) → SrcAt prog w A target h₀ L I [(I, "list_iterator")] [(ax, lo)] (vs.map .val) news h' → Q (.ref I) { s with heap := h' }) :
    wpAny (model prog w) A (pyIter (.ref ax)) Q E s := by
  have hax := N _ hm
  have hl : s.heap.IsList ax vs.toArray := ⟨lo, hax.1, hc, n, hd⟩
  have hlt : ax < s.heap.objs.size := Heap.lt_size hax.1
  have hne : ax ≠ s.heap.objs.size := Nat.ne_of_lt hlt
  have W := Walks.list (prog := prog) (w := w) hh s.heap.objs.size ax hne vs.toArray
  have e : vs.toArray.size = (vs.map Itm.val).length := by simp
  rw [e] at W
  refine wpAny_pyIter_list hl (k _ _ (F.push _) (fun p hp => ⟨Heap.get?_push_of_some _ (N p hp).1, (N p hp).2⟩) (fun p hp => Heap.lt_size (N p hp).1) ?_)
  refine ⟨_, _, _, _, _, ⟨KTurns.ofWalks W fun i v s Q E st q => letGo_listiter st.1 q, W.self, ?_, ?_, ?_, ?_, ?_⟩, ⟨⟨_, Heap.get?_push_size _ rfl, rfl, rfl⟩, hl.at fun o e => Heap.get?_push_of_some _ e⟩, ?_, ?_, ⟨hm, trivial⟩⟩
  · intro i v h hp
    refine ⟨.val v, ?_, rfl⟩
    have hp' : vs.toArray[i]? = some v := hp
    simpa using hp'
  · intro i h st
    obtain ⟨it, hit, hic, _⟩ := st.1
    exact ⟨[(s.heap.objs.size, it)], ⟨⟨rfl, hic⟩, trivial⟩, fun p hp => by rw [List.mem_singleton.mp hp]; exact hit⟩
  · intro b hb
    have hb' : b = s.heap.objs.size := by simpa using hb
    rw [hb']
    exact ⟨List.mem_cons_self .., next_is_new F⟩
  · intro b hb
    simpa using hb
  · intro b hb
    have hb' : b = s.heap.objs.size ∨ b = ax := by simpa using hb
    rcases hb' with e | e
    · exact .inl (by simp [e])
    · exact .inr ⟨lo, by simp [e]⟩
  · intro b hb
    have hb' : b = s.heap.objs.size := by simpa using hb
    rw [hb']
    refine ⟨?_, (Nat.ne_of_lt F.ns.lt).symm⟩
    show s.heap.objs.size < (s.heap.push _).objs.size
    rw [Heap.size_push]
    exact Nat.lt_succ_self _
  · intro p hp hb
    have hb' : p.1 = s.heap.objs.size := by simpa using hb
    exact Nat.ne_of_lt (Heap.lt_size (N p hp).1) hb'

/-- the items of a range by ones -/
def rangeItms (a : Int) (n : Nat) : List Itm := (rangeKs a n).map fun k => .tok fun t => .int k t

theorem src_range {r : Addr} {a b : Int} {t u v : Tok} {n : Nat} {news : List (Addr × Obj)} {Q : Value → Shared → Prop}
    (hh : A.handled = none) (F : Fr h₀ L s.heap m) (N : News h₀ L s.heap news) (hr : IsRange s.heap r a b 1 t u v) (hsm : Builtin.Range.small a b 1 = true) (hn : Builtin.Range.rangeSize a b 1 = ((n : Nat) : Int))
    (k : ∀ I h', Fr h₀ L h' m → News h₀ L h' news → (∀ p ∈ news, p.1 < I) → SrcAt prog w A target h₀ L I [(I, "range_iterator")] [] (rangeItms a n) news h' → Q (.ref I) { s with heap := h' })
    (hgo : ∀ I v (s : Shared) (Q : Unit → Shared → Prop) (E : Value → Shared → Prop), Q () s → wpAny (model prog w) A (letOwnedTupleGo target I v) Q E s) :
    wpAny (model prog w) A (pyIter (.ref r)) Q E s := by
  have W₀ : Walks prog w A s.heap.objs.size [s.heap.objs.size] [s.heap.objs.size] n (fun i v => i < n ∧ ∃ t, v = .int (a + i * 1) t) (fun i h => IsRangeIter h s.heap.objs.size (a + (i : Nat) * 1) ((n : Int) - (i : Nat)) 1) := (Walks.range hh _ a 1 n).bound
  have e : n = (rangeItms a n).length := by simp [rangeItms, rangeKs_length]
  have W : Walks prog w A s.heap.objs.size [s.heap.objs.size] [s.heap.objs.size] (rangeItms a n).length (fun i v => i < n ∧ ∃ t, v = .int (a + i * 1) t) (fun i h => IsRangeIter h s.heap.objs.size (a + (i : Nat) * 1) ((n : Int) - (i : Nat)) 1) := by rw [← e]; exact W₀
  refine wpAny_pyIter_range hr hsm (k _ _ (F.push _) (fun p hp => ⟨Heap.get?_push_of_some _ (N p hp).1, (N p hp).2⟩) (fun p hp => Heap.lt_size (N p hp).1) ?_)
  refine ⟨_, _, _, _, _, ⟨KTurns.ofWalks W fun i v s Q E st q => hgo _ _ _ _ _ q, W.self, ?_, ?_, ?_, ?_, ?_⟩, ?_, ?_, ?_, trivial⟩
  · rintro i v h ⟨hi, t, rfl⟩
    refine ⟨.tok fun t => .int (a + (i : Int)) t, ?_, t, by rw [Int.mul_one]⟩
    simp [rangeItms, rangeKs, hi]
  · intro i h st
    have st' : h.get? s.heap.objs.size = some _ := st
    exact ⟨[(s.heap.objs.size, _)], ⟨⟨rfl, rfl⟩, trivial⟩, fun p hp => by rw [List.mem_singleton.mp hp]; exact st'⟩
  · intro b hb
    have hb' : b = s.heap.objs.size := by simpa using hb
    rw [hb']
    exact ⟨List.mem_cons_self .., next_is_new F⟩
  · intro b hb
    simpa using hb
  · intro b hb
    have hb' : b = s.heap.objs.size := by simpa using hb
    exact .inl (by simp [hb'])
  · show IsRangeIter _ _ _ _ _
    rw [hn]
    simpa using Heap.get?_push_size _ rfl
  · intro b hb
    have hb' : b = s.heap.objs.size := by simpa using hb
    rw [hb']
    refine ⟨?_, (Nat.ne_of_lt F.ns.lt).symm⟩
    show s.heap.objs.size < (s.heap.push _).objs.size
    rw [Heap.size_push]
    exact Nat.lt_succ_self _
  · intro p hp hb
    have hb' : p.1 = s.heap.objs.size := by simpa using hb
    exact Nat.ne_of_lt (Heap.lt_size (N p hp).1) hb'

/-- the items of a dict's keys -/
def keyItms (kvs : List (Int × Value)) : List Itm := kvs.map fun p => .tok fun t => .int p.1 t

theorem intKind_out {k : Int} {v : Value} (h : (PySem.intKind prog w).is k v = true) : ∃ t, v = .int k t := by
  cases v with
  | int j t =>
    have e : j = k := by simpa [PySem.intKind, Value.isInt] using h
    exact ⟨t, by rw [e]⟩
  | _ => simp [PySem.intKind, Value.isInt] at h

theorem src_dict {d : Addr} {od : Obj} {kvs : List (Int × Value)} {news : List (Addr × Obj)} {Q : Value → Shared → Prop}
    (hh : A.handled = none) (F : Fr h₀ L s.heap m) (N : News h₀ L s.heap news) (hm : (d, od) ∈ news) (hd : od.IsDictOf (PySem.intKind prog w) kvs) (lo : (d == sysModules) = false)
    (k : ∀ I h', Fr h₀ L h' m → News h₀ L h' news → (∀ p ∈ news, p.1 < I) → SrcAt prog w A target h₀ L I [(I, "dict_keyiterator")] [(d, od)] (keyItms kvs) news h' → Q (.ref I) { s with heap := h' }) :
    wpAny (model prog w) A (pyIter (.ref d)) Q E s := by
  have hax := N _ hm
  obtain ⟨ep, hat⟩ := (kda_dict N hm hd).dictAt
  have hne : d ≠ s.heap.objs.size := Nat.ne_of_lt hat.lt_size
  have W := Walks.dictKeys (knd := PySem.intKind prog w) hh s.heap.objs.size d hne kvs ep
  have e : kvs.length = (keyItms kvs).length := by simp [keyItms]
  have W' : Walks prog w A s.heap.objs.size [s.heap.objs.size, d] [s.heap.objs.size] (keyItms kvs).length (fun i v => ∃ k x, kvs[i]? = some (k, x) ∧ (PySem.intKind prog w).is k v = true) (fun i h => h.IsKeyIter s.heap.objs.size d i kvs.length ep ∧ h.DictAt (PySem.intKind prog w) d kvs ep) := by rw [← e]; exact W
  refine wpAny_pyIter_dict lo hat (k _ _ (F.push _) (fun p hp => ⟨Heap.get?_push_of_some _ (N p hp).1, (N p hp).2⟩) (fun p hp => Heap.lt_size (N p hp).1) ?_)
  refine ⟨_, _, _, _, _, ⟨KTurns.ofWalks W' fun i v s Q E st q => letGo_keyiter st.1 q, W'.self, ?_, ?_, ?_, ?_, ?_⟩, ⟨⟨_, Heap.get?_push_size _ rfl, rfl, rfl⟩, hat.push _⟩, ?_, ?_, ⟨hm, trivial⟩⟩
  · rintro i v h ⟨k, x, hx, hk⟩
    refine ⟨.tok fun t => .int k t, by simp [keyItms, hx], intKind_out hk⟩
  · rintro i h ⟨⟨oi, g, c, _⟩, _⟩
    exact ⟨[(s.heap.objs.size, oi)], ⟨⟨rfl, c⟩, trivial⟩, fun p hp => by rw [List.mem_singleton.mp hp]; exact g⟩
  · intro b hb
    have hb' : b = s.heap.objs.size := by simpa using hb
    rw [hb']
    exact ⟨List.mem_cons_self .., next_is_new F⟩
  · intro b hb
    simpa using hb
  · intro b hb
    have hb' : b = s.heap.objs.size ∨ b = d := by simpa using hb
    rcases hb' with e | e
    · exact .inl (by simp [e])
    · exact .inr ⟨od, by simp [e]⟩
  · intro b hb
    have hb' : b = s.heap.objs.size := by simpa using hb
    rw [hb']
    refine ⟨?_, (Nat.ne_of_lt F.ns.lt).symm⟩
    show s.heap.objs.size < (s.heap.push _).objs.size
    rw [Heap.size_push]
    exact Nat.lt_succ_self _
  · intro p hp hb
    have hb' : p.1 = s.heap.objs.size := by simpa using hb
    exact Nat.ne_of_lt (Heap.lt_size (N p hp).1) hb'

/-- a for over a source: its turns by ItemsRest -/
theorem for_src {I : Addr} {ws : List (Addr × String)} {keep news : List (Addr × Obj)} {xs : List Itm} {body : List Stmt} {Q : Flow → Shared → Prop} {hp : Heap}
    (S : SrcAt prog w A target h₀ env.locals I ws keep xs news hp) (F : Fr h₀ env.locals hp m) (N : News h₀ env.locals hp news)
    (rest : ItemsRest prog w A E h₀ env target body Q s ws keep xs m news) : TurnsAt prog w A h₀ env target body Q E (.ref I) { s with heap := hp } := by
  obtain ⟨fp, wr, P, Md, St, S, hst, hb, hn, hk⟩ := S
  refine ktu_core (tk0 := s.toks) S.turns rfl S.item S.objs S.wsok S.wrok S.fpok (fun hL => ?_) (fun p hp' hw => hn p hp' (S.wrok _ hw)) hst F N hk rest
  rcases S.fpok _ hL with h | ⟨o, h⟩
  · exact (hb _ h).2 rfl
  · exact (N _ (subL_mem hk _ h)).2.1 rfl

theorem items_ind {body : List Stmt} {Q : Flow → Shared → Prop} {ws : List (Addr × String)} {keep : List (Addr × Obj)} {h₀ : Heap} (Inv : List Itm → (Str → Option Value) → List (Addr × Obj) → Prop)
    (hend : ∀ m news h tk, Inv [] m news → Fr h₀ env.locals h m → News h₀ env.locals h news → Q .next { s with heap := h, toks := tk })
    (hstep : ∀ a r m news, Inv (a :: r) m news → ∀ v h tk, a.Is v h → Fr h₀ env.locals h m → AllObj ws (fun its => News h₀ env.locals h (its ++ news) →
      wpAny (model prog w) A (assign target env v) (fun _ s₂ => wpAny (model prog w) A (execs body env) (UnrPostW h₀ env.locals { s with heap := h, toks := tk } its (fun m' n' => SubL keep n' ∧ Inv r m' n') Q) E s₂) E { s with heap := h, toks := tk })) :
    ∀ xs m news, Inv xs m news → ItemsRest prog w A E h₀ env target body Q s ws keep xs m news := by
  intro xs
  induction xs with
  | nil => intro m news h h' tk F N; exact hend m news h' tk h F N
  | cons a r ih =>
    intro m news hi v h tk ha F
    have st := hstep a r m news hi v h tk ha F
    have up : ∀ (wl : List (Addr × String)) (f g : List (Addr × Obj) → Prop), (∀ l, f l → g l) → AllObj wl f → AllObj wl g := by
      intro wl
      induction wl with
      | nil => intro f g hfg hf; exact hfg _ hf
      | cons q r' ih' => intro f g hfg hf o ho; exact ih' _ _ (fun l hl => hfg _ hl) (hf o ho)
    refine up ws _ _ (fun its hits N => ?_) st
    refine wpAny_mono (hits N) (fun _ s₂ h₂ => wpAny_mono h₂ (fun f s₃ p => ?_) fun _ _ e => e) fun _ _ e => e
    cases f with
    | ret v => exact p
    | brk => exact p
    | next =>
      obtain ⟨h', tk', m', news', e, F', N', ho, hk, hi'⟩ := p
      exact ⟨h', tk', m', news', e, F', N', ho, hk, ih m' news' hi'⟩
    | cont =>
      obtain ⟨h', tk', m', news', e, F', N', ho, hk, hi'⟩ := p
      exact ⟨h', tk', m', news', e, F', N', ho, hk, ih m' news' hi'⟩
end
end Mine
end
section
open PySem PySem.W PySem.Spec PySem.Calls PyProof.Rows PyProof.V PyProof.Rows.LCg
namespace Mine
section
variable {prog : Program} {w : World} {A : Around} {E : Value → Shared → Prop} {s : Shared} {h₀ : Heap} {L : Addr} {m : Str → Option Value} {env : Env} {target : Expr}

/-- the tests of a comprehension's clause -/
abbrev testsOf (ifs : List Expr) (env : Env) : Sem Bool := forIn ifs true fun c r => if r = true then do let ok ← isTrue c env (eval c env); pure (ForInStep.yield ok) else pure (ForInStep.yield r)

theorem comp_go {elt iter : Expr} {ifs : List Expr} {scope : Scope} {pos : Pos} {it acc : Value} {env : Env} {R : Result → Shared → Prop} (I : Nat → Shared → Prop)
    (turn : ∀ n s, I n s → wpAny (model prog w) A (pyNext it) (fun r s₁ => match r with
      | none => R (.ok .next) s₁
      | some v => wpAny (model prog w) A (letOwnedTupleGo target it v) (fun _ s₁' => wpAny (model prog w) A (assign target env v) (fun _ s₂ =>
          wpAny (model prog w) A (testsOf ifs env) (fun ok s₃ =>
            if ok = true then wpAny (model prog w) A (eval elt env) (fun x s₄ =>
              wpAny (model prog w) A (call (.builtin "list.append") [acc, x]) (fun _ s₅ => ∃ m, m < n ∧ I m s₅) (notedBy (model prog w) A env fun e s' => R (.error e) s') s₄) (notedBy (model prog w) A env fun e s' => R (.error e) s') s₃
            else ∃ m, m < n ∧ I m s₃) (notedBy (model prog w) A env fun e s' => R (.error e) s') s₂) (notedBy (model prog w) A env fun e s' => R (.error e) s') s₁') (notedBy (model prog w) A env fun e s' => R (.error e) s') s₁) (notedBy (model prog w) A env fun e s' => R (.error e) s') s)
    (n : Nat) (h : I n s) : codeAny (model prog w) A (.compLoop (.ListComp elt [⟨target, iter, ifs, 0⟩] scope pos) 0 it acc env) R s := by
  refine codeAny_loop rfl I (fun n s hI => ?_) n h
  show wpAny _ A ((compTurn (.ListComp elt [⟨target, iter, ifs, 0⟩] scope pos) 0 it acc env).onRaise (fun x => do noteFrame x env; theTreesLotGoes x)) _ _ s
  refine wpAny_noted ?_
  rw [compTurn_list]
  refine wpAny_bind (wpAny_standAt (wpAny_bind (wpAny_mono (turn n s hI) (fun r s₁ h₁ => ?_) fun _ _ x => x)))
  cases r with
  | none => exact wpAny_pure h₁
  | some v =>
    refine wpAny_bind (wpAny_mono h₁ (fun _ s₁' h₁' => ?_) fun _ _ x => x)
    refine wpAny_bind (wpAny_mono h₁' (fun _ s₂ h₂ => wpAny_bind (wpAny_mono h₂ (fun ok s₃ h₃ => ?_) fun _ _ x => x)) fun _ _ x => x)
    cases ok with
    | false => exact wpAny_pure ⟨rfl, h₃⟩
    | true =>
      exact wpAny_bind (wpAny_bind (wpAny_mono h₃ (fun x s₄ h₄ => wpAny_bind (wpAny_mono h₄ (fun _ s₅ h₅ => wpAny_pure (wpAny_pure ⟨rfl, h₅⟩)) fun _ _ z => z)) fun _ _ z => z))

/-- the end of a turn: what stands then -/
inductive CEnd (h₀ : Heap) (L : Addr) (m : Str → Option Value) (s₁ : Shared) (its : List (Addr × Obj)) (C D : Addr) (ys : List Value) (rest : List (Addr × Obj) → Prop) (s₂ : Shared) : Prop
  | mk (h' : Heap) (tk : Tok) (oC : Obj) (m₂ : Str → Option Value) (news' : List (Addr × Obj)) (ih0 : s₂ = { s₁ with heap := h', toks := tk }) (ih1 : Fr h₀ L h' m) (ih2 : NsObj oC m₂) (ih3 : News h₀ L h' (its ++ (C, oC) :: (D, lst ys) :: news')) (ih4 : (∀ p ∈ news', (∀ q ∈ its, p.1 ≠ q.1) ∧ p.1 ≠ C ∧ p.1 ≠ D)) (ih5 : rest news') : CEnd h₀ L m s₁ its C D ys rest s₂

/-- the turns that are left of a comprehension -/
def CRest (prog : Program) (w : World) (A : Around) (h₀ : Heap) (L : Addr) (m : Str → Option Value) (env : Env) (elt target : Expr) (ifs : List Expr) (scope : Scope) (cl : List (Str × Addr)) (s : Shared) (ws : List (Addr × String)) (keep : List (Addr × Obj)) (Fin : List Value → List (Addr × Obj) → Prop) : List Itm → List Value → List (Addr × Obj) → Prop
  | [], ys, news => Fin ys news
  | a :: r, ys, news => ∀ v C oC m₂ D h tk (E' : Value → Shared → Prop), a.Is v h → NsObj oC m₂ → Fr h₀ L h m → (@Ne Nat C D) → AllObj ws (fun its =>
      News h₀ L h (its ++ (C, oC) :: (D, lst ys) :: news) → (∀ p ∈ news, (∀ q ∈ its, p.1 ≠ q.1) ∧ p.1 ≠ C ∧ p.1 ≠ D) → (∀ q ∈ its, q.1 ≠ C ∧ q.1 ≠ D) →
      wpAny (model prog w) A (assign target (compEnvC scope cl C env) v) (fun _ s₂ => wpAny (model prog w) A (testsOf ifs (compEnvC scope cl C env)) (fun ok s₃ =>
        if ok = true then wpAny (model prog w) A (eval elt (compEnvC scope cl C env)) (fun y s₄ => CEnd h₀ L m { s with heap := h, toks := tk } its C D ys (fun news' => SubL keep news' ∧ CRest prog w A h₀ L m env elt target ifs scope cl s ws keep Fin r (ys ++ [y]) news') s₄) E' s₃
        else CEnd h₀ L m { s with heap := h, toks := tk } its C D ys (fun news' => SubL keep news' ∧ CRest prog w A h₀ L m env elt target ifs scope cl s ws keep Fin r ys news') s₃) E' s₂) E' { s with heap := h, toks := tk })

/-- what the list's end is told -/
def CFin (h₀ : Heap) (L : Addr) (m : Str → Option Value) (s : Shared) (Q : Value → Shared → Prop) (ys : List Value) (news : List (Addr × Obj)) : Prop :=
  ∀ D h tk, Fr h₀ L h m → News h₀ L h ((D, lst ys) :: news) → (∀ p ∈ news, p.1 ≠ D) → Q (.ref D) { s with heap := h, toks := tk }

def CompAt (prog : Program) (w : World) (A : Around) (h₀ : Heap) (L : Addr) (m : Str → Option Value) (env : Env) (elt target : Expr) (ifs : List Expr) (scope : Scope) (cl : List (Str × Addr)) (Q : Value → Shared → Prop) (it : Value) (s : Shared) : Prop :=
  ∃ I ws keep xs news, it = .ref I ∧ SrcAt prog w A target h₀ L I ws keep xs news s.heap ∧ Fr h₀ L s.heap m ∧ News h₀ L s.heap news ∧ xs.length ≤ sizeLine ∧
    ∀ s₂ : Shared, (∃ h tk, s₂ = { s with heap := h, toks := tk }) → CRest prog w A h₀ L m env elt target ifs scope cl s₂ ws keep (CFin h₀ L m s₂ Q) xs [] news

theorem comp_rule {elt iter : Expr} {ifs : List Expr} {scope : Scope} {cl : List (Str × Addr)} {pos : Pos} {Q : Value → Shared → Prop}
    (_F₀ : Fr h₀ L s.heap m) (hclos : closureFor scope env = pure cl) (hcell : ∀ y ∈ scope.names, y.2 ≠ .cell) (hkind : scope.kind = .function)
    (hnames : ∀ y ∈ scope.names, y.2 = .local → scope.names.lookup y.1 = some .local)
    (h : wpAny (model prog w) A (eval iter env) (fun xv s₁ => wpAny (model prog w) A (pyIter xv) (CompAt prog w A h₀ L m env elt target ifs scope cl Q) E s₁) E s)
    (hs : ∀ x, foldedSetIterable iter env x = pure x := by intro _; rfl) :
    wpAny (model prog w) A (eval (.ListComp elt [⟨target, iter, ifs, 0⟩] scope pos) env) Q E s := by
  rw [eval_ListComp]
  refine wpAny_comprehension_free (use := none) rfl hs hclos hkind hnames (wpAny_mono h (fun xv s₁ h₁ => wpAny_mono h₁ (fun it s₂ h₂ => ?_) fun _ _ e => e) fun _ _ e => e)
  refine fold_goal (fun gX gk => ?_)
  obtain ⟨I, ws, keep, xs, news, rfl, ⟨fp, wr, P, Md, St, S, hst, hb, hnw, hk⟩, F, N, hsz, R⟩ := h₂
  have W := S.turns
  refine gk ?_
  clear gk gX
  refine wpAny_newObj_type (wpAny_newFunctionEnv hcell (by intro y hy; simp at hy) (fun h₁ hns₁ hsb₁ => ?_) hkind)
  dsimp only at hns₁ hsb₁ ⊢
  generalize hH2 : s₂.heap.push { cls := .type "list", dict := none, data := .seq ([] : List Value).toArray } = H2 at hns₁ hsb₁ ⊢
  have hC : H2.objs.size = s₂.heap.objs.size + 1 := by rw [← hH2, Heap.size_push]
  have hDC : s₂.heap.objs.size ≠ H2.objs.size := by rw [hC]; exact Nat.ne_of_lt (Nat.lt_succ_self _)
  have below : ∀ b, b < s₂.heap.objs.size → b ≠ H2.objs.size ∧ b ≠ s₂.heap.objs.size := fun b hb => ⟨by rw [hC]; exact Nat.ne_of_lt (Nat.lt_succ_of_lt hb), Nat.ne_of_lt hb⟩
  have keepLt : ∀ q ∈ keep, q.1 < s₂.heap.objs.size := fun q hq => Heap.lt_size (N q (subL_mem hk q hq)).1
  have fpLt : ∀ b ∈ fp, b < s₂.heap.objs.size := fun b hf => by
    rcases S.fpok b hf with h | ⟨o, h⟩
    · exact (hb b h).1
    · exact keepLt (b, o) h
  have old : ∀ b o, s₂.heap.get? b = some o → h₁.get? b = some o := fun b o e => hsb₁.extBut b o (below b (Heap.lt_size e)).1 (Heap.get?_push_of_some _ (hH2 ▸ Heap.get?_push_of_some _ e))
  have hacc : h₁.get? s₂.heap.objs.size = some (lst []) := hsb₁.extBut _ _ hDC (Heap.get?_push_of_some _ (hH2 ▸ Heap.get?_push_size _ rfl))
  have hst₁ : St 0 h₁ := W.frame _ _ _ hst fun b _ o e => old b o e
  have fresh₀ : ∀ a, s₂.heap.objs.size ≤ a → h₀.get? a = none := fun a ha => by
    cases e : h₀.get? a with
    | none => rfl
    | some o' => exact absurd (Heap.lt_size (F.keep a o' e)) (Nat.not_lt.mpr ha)
  have hD₀ : h₀.get? s₂.heap.objs.size = none := fresh₀ _ (Nat.le_refl _)
  have hC₀ : h₀.get? H2.objs.size = none := fresh₀ _ (by rw [hC]; exact Nat.le_succ _)
  have hLlt : L < s₂.heap.objs.size := F.ns.lt
  have hDL : s₂.heap.objs.size ≠ L := Ne.symm (below L hLlt).2
  have hCL : H2.objs.size ≠ L := Ne.symm (below L hLlt).1
  have wsoff : ∀ b ∈ ws.map (·.1), b ≠ H2.objs.size ∧ b ≠ s₂.heap.objs.size := fun b hw => below b (hb b hw).1
  have wroff : ∀ b ∈ wr, b ≠ H2.objs.size ∧ b ≠ s₂.heap.objs.size := fun b hw => wsoff b (S.wrok b hw)
  have wrL : ∀ b ∈ wr, b ≠ L := fun b hw => (hb b (S.wrok b hw)).2
  have wr₀ : ∀ b ∈ wr, h₀.get? b = none := fun b hw => (S.wsok b (S.wrok b hw)).2
  have off₀ : ∀ p ∈ news, p.1 ∉ ws.map (·.1) ∧ p.1 ≠ H2.objs.size ∧ p.1 ≠ s₂.heap.objs.size := fun p hp => ⟨hnw p hp, below _ (Heap.lt_size (N p hp).1)⟩
  have loop : ∀ s₃ : Shared, s₃ = { s₂ with heap := h₁, toks := s₂.toks + ([] : List (Str × Value)).length } →
      codeAny (model prog w) A (.compLoop (.ListComp elt [⟨target, iter, ifs, 0⟩] scope pos) 0 (.ref I) (.ref s₂.heap.objs.size) (compEnvC scope cl H2.objs.size env))
        (compPost (model prog w) A E none Q (.ref s₂.heap.objs.size) H2.objs.size) s₃ := by
    rintro s₃ rfl
    refine comp_go
      (fun k s' => Ex6 fun (h' : Heap) (tk i : Nat) (ys : List Value) (m' : Str → Option Value) (news' : List (Addr × Obj)) => An9 (s' = { s₂ with heap := h', toks := tk }) (i ≤ xs.length) (k = xs.length + 1 - i) (ys.length ≤ i) (St i h') (Fr h₀ L h' m) (h'.Ns H2.objs.size m') (News h₀ L h' ((s₂.heap.objs.size, lst ys) :: news')) (An3
        (∀ p ∈ news', p.1 ∉ ws.map (·.1) ∧ p.1 ≠ H2.objs.size ∧ p.1 ≠ s₂.heap.objs.size) (SubL keep news') (CRest prog w A h₀ L m env elt target ifs scope cl s₂ ws keep (CFin h₀ L m s₂ Q) (xs.drop i) ys news'))) ?_ (xs.length + 1)
      ⟨h₁, _, 0, [], _, news, rfl, Nat.zero_le _, rfl, Nat.le_refl _, hst₁, F.keeps old, hns₁, fun p hp => ?_, off₀, hk, by simpa using R s₂ ⟨_, _, rfl⟩⟩
    · intro k s' hI0
      refine fold_goal (fun gX gk => ?_)
      obtain ⟨h', tk, i, ys, m', news', rfl, hi, rfl, hyl, hst', F', hn', N', off', hk', R'⟩ := hI0
      have nextF : ∀ g : Heap, (∀ b o, b ∉ wr → h'.get? b = some o → g.get? b = some o) → Fr h₀ L g m ∧ g.Ns H2.objs.size m' ∧ News h₀ L g ((s₂.heap.objs.size, lst ys) :: news') := fun g hg =>
        ⟨⟨F'.ns.at' fun o e => hg L o (fun hw => wrL L hw rfl) e, fun b o e => hg b o (fun hw => by rw [wr₀ b hw] at e; cases e) (F'.keep b o e), F'.above⟩,
          hn'.at' fun o e => hg _ o (fun hw => (wroff _ hw).1 rfl) e,
          fun p hp => ⟨hg _ _ (fun hw => by
            rcases mem_cons_s hp with rfl | hp
            · exact (wroff _ hw).2 rfl
            · exact (off' p hp).1 (S.wrok _ hw)) (N' p hp).1, (N' p hp).2⟩⟩
      refine gk ?_
      clear gk gX
      by_cases hlt : i < xs.length
      · refine W.item i _ _ _ hlt hst' fun v h₂ tk₂ hMd hk₂ => ?_
        refine W.go i v _ _ _ hMd fun h₃ hP hst₃ hk₃ => ?_
        refine fold_goal (fun gX gk => ?_)
        obtain ⟨F₃, n₃, N₃⟩ := nextF h₃ fun b o hw e => hk₃ b o hw (hk₂ b o hw e)
        obtain ⟨oC, heC, hoC⟩ := ns_obj n₃
        obtain ⟨a, ha, hav⟩ := S.item i v h₃ hP
        obtain ⟨its, hits, hval⟩ := S.objs (i + 1) h₃ hst₃
        have hmap := hits.map
        have hdrop : xs.drop i = a :: xs.drop (i + 1) := by
          rw [List.drop_eq_getElem_cons hlt]
          congr 1
          exact Option.some.inj ((List.getElem?_eq_getElem hlt).symm.trans ha)
        rw [hdrop] at R'
        have itsW : ∀ q ∈ its, q.1 ∈ ws.map (·.1) := fun q hq => by rw [← hmap]; exact List.mem_map.mpr ⟨q, hq, rfl⟩
        have Nall : News h₀ L h₃ (its ++ (H2.objs.size, oC) :: (s₂.heap.objs.size, lst ys) :: news') := fun p hp => by
          rcases List.mem_append.mp hp with hp | hp
          · exact ⟨hval p hp, (hb _ (itsW p hp)).2, (S.wsok _ (itsW p hp)).2⟩
          · rcases mem_cons_s hp with rfl | hp
            · exact ⟨heC, hCL, hC₀⟩
            · exact N₃ p hp
        have offs : ∀ p ∈ news', (∀ q ∈ its, p.1 ≠ q.1) ∧ p.1 ≠ H2.objs.size ∧ p.1 ≠ s₂.heap.objs.size := fun p hp => ⟨fun q hq e => (off' p hp).1 (e ▸ itsW q hq), (off' p hp).2⟩
        have fin : ∀ (ys' : List Value) (news₄ : List (Addr × Obj)) (h₄ : Heap) (oC' : Obj), ys'.length ≤ i + 1 → News h₀ L h₄ (its ++ (H2.objs.size, oC') :: (s₂.heap.objs.size, lst ys') :: news₄) → Fr h₀ L h₄ m → SubL keep news₄ →
            St (i + 1) h₄ := fun ys' news₄ h₄ oC' _ N₄ F₄ hk₄ => by
          refine W.frame _ _ _ hst₃ fun b hf o e => ?_
          rcases S.fpok b hf with hw | ⟨o', hkp⟩
          · rw [← hmap] at hw
            obtain ⟨q, hq, rfl⟩ := List.mem_map.mp hw
            have e1 := hval q hq
            rw [e] at e1
            rw [(N₄ q (List.mem_append_left _ hq)).1, ← Option.some.inj e1]
          · have e1 := (N₃ (b, o') (List.mem_cons_of_mem _ (subL_mem hk' _ hkp))).1
            have e1' : h₃.get? b = some o' := e1
            rw [e] at e1'
            have e2 := (N₄ (b, o') (List.mem_append_right _ (List.mem_cons_of_mem _ (List.mem_cons_of_mem _ (subL_mem hk₄ _ hkp))))).1
            rw [Option.some.inj e1']
            exact e2
        refine gk ?_
        clear gk gX
        refine wpAny_mono ((R' v H2.objs.size oC m' s₂.heap.objs.size h₃ tk₂ _ hav hoC F₃ (Ne.symm hDC)).at hits Nall offs (fun q hq => wsoff _ (itsW q hq))) (fun _ s₄ h₄ => wpAny_mono h₄ (fun ok s₅ h₅ => ?_) fun _ _ x => x) fun _ _ x => x
        cases ok with
        | false =>
          simp only [Bool.false_eq_true, if_false] at h₅ ⊢
          refine fold_goal (fun gX gk => ?_)
          obtain ⟨h₆, tk₆, oC', m₆, news₆, rfl, F₆, hoC₆, N₆, off₆, hk₆, R₆⟩ := h₅
          refine gk ?_
          clear gk gX
          refine ⟨xs.length + 1 - (i + 1), by omega, h₆, tk₆, i + 1, ys, m₆, news₆, rfl, hlt, rfl, Nat.le_succ_of_le hyl, fin ys news₆ h₆ oC' (Nat.le_succ_of_le hyl) N₆ F₆ hk₆, F₆, hoC₆.ns (N₆ (H2.objs.size, oC') (List.mem_append_right _ (.head _))).1, fun p hp => N₆ p (List.mem_append_right _ (.tail _ hp)), fun p hp => ⟨fun hw => ?_, (off₆ p hp).2⟩, hk₆, R₆⟩
          rw [← hmap] at hw
          refine fold_goal (fun gX gk => ?_)
          obtain ⟨q, hq, e⟩ := List.mem_map.mp hw
          refine gk ?_
          clear gk gX
          exact (off₆ p hp).1 q hq e.symm
        | true =>
          simp only [if_true] at h₅ ⊢
          refine wpAny_mono h₅ (fun y s₆ h₆ => ?_) fun _ _ x => x
          refine fold_goal (fun gX gk => ?_)
          obtain ⟨h₆, tk₆, oC', m₆, news₆, rfl, F₆, hoC₆, N₆, off₆, hk₆, R₆⟩ := h₆
          have zD := (N₆ (s₂.heap.objs.size, lst ys) (List.mem_append_right _ (.tail _ (.head _)))).1
          refine gk ?_
          clear gk gX
          refine append_at (hsz := by show ys.toArray.size ≤ sizeLine; rw [List.size_toArray]; exact Nat.le_trans hyl (Nat.le_trans hi hsz)) zD fun h₇ hs₇ hD₇ => ?_
          have N₇ : News h₀ L h₇ (its ++ (H2.objs.size, oC') :: (s₂.heap.objs.size, lst (ys ++ [y])) :: news₆) := fun p hp => by
            rcases List.mem_append.mp hp with hp | hp
            · have z := N₆ p (List.mem_append_left _ hp)
              exact ⟨hs₇.extBut _ _ (wsoff _ (itsW p hp)).2 z.1, z.2⟩
            · rcases mem_cons_s hp with rfl | hp
              · have z := N₆ (H2.objs.size, oC') (List.mem_append_right _ (.head _))
                exact ⟨hs₇.extBut _ _ (Ne.symm hDC) z.1, z.2⟩
              · rcases mem_cons_s hp with rfl | hp
                · exact ⟨hD₇.trans (congrArg some (lst_snoc ys y)), hDL, hD₀⟩
                · have z := N₆ p (List.mem_append_right _ (.tail _ (.tail _ hp)))
                  exact ⟨hs₇.extBut _ _ (off₆ p hp).2.2 z.1, z.2⟩
          have F₇ : Fr h₀ L h₇ m := F₆.change hs₇ hDL hD₀
          have hyl' : (ys ++ [y]).length ≤ i + 1 := by rw [List.length_append, List.length_singleton]; omega
          refine ⟨xs.length + 1 - (i + 1), by omega, h₇, tk₆, i + 1, ys ++ [y], m₆, news₆, rfl, hlt, rfl, hyl', fin _ news₆ h₇ oC' hyl' N₇ F₇ hk₆, F₇, hoC₆.ns (N₇ (H2.objs.size, oC') (List.mem_append_right _ (.head _))).1, fun p hp => N₇ p (List.mem_append_right _ (.tail _ hp)), fun p hp => ⟨fun hw => ?_, (off₆ p hp).2⟩, hk₆, R₆⟩
          rw [← hmap] at hw
          refine fold_goal (fun gX gk => ?_)
          obtain ⟨q, hq, e⟩ := List.mem_map.mp hw
          refine gk ?_
          clear gk gX
          exact (off₆ p hp).1 q hq e.symm
      · obtain rfl : i = xs.length := Nat.le_antisymm hi (Nat.not_lt.mp hlt)
        rw [List.drop_length] at R'
        refine W.done _ _ _ hst' fun h₂ tk₂ hk₂ => ?_
        refine fold_goal (fun gX gk => ?_)
        obtain ⟨F₃, n₃, N₃⟩ := nextF h₂ fun b o hw e => hk₂ b o hw e
        refine gk ?_
        clear gk gX
        refine ⟨m', n₃, fun h'' hs'' => R' _ h'' tk₂ (F₃.change hs'' hCL hC₀) (fun p hp => ?_) fun p hp => (off' p hp).2.2⟩
        refine ⟨hs''.extBut _ _ ?_ (N₃ p hp).1, (N₃ p hp).2⟩
        rcases mem_cons_s hp with rfl | hp
        · exact hDC
        · exact (off' p hp).2.1
    · rcases mem_cons_s hp with rfl | hp
      · exact ⟨hacc, hDL, hD₀⟩
      · exact ⟨old _ _ (N p hp).1, (N p hp).2⟩
  exact codeAny_compStart_list (loop _ rfl) (S.self 0 _ _ _ hst₁ (loop _ rfl))
end
end Mine
end
section
open PySem PySem.W
namespace Mine
/-- a pair of ints as a datum -/
abbrev pd (p : Int × Int) : Dat := .tuple [.int p.1, .int p.2]
/-- does a column lie in a pair -/
def covers (c : Int) (p : Int × Int) : Bool := decide (p.1 ≤ c) && decide (c < p.2)
/-- does a column lie in one of the pairs -/
def isIn (ps : List (Int × Int)) (c : Int) : Bool := ps.any (covers c)
/-- a column's turn -/
def cstep (ps : List (Int × Int)) (st : List (Int × Int) × Option Int) (c : Int) : List (Int × Int) × Option Int :=
  match isIn ps c, st.2 with
  | true, none => (st.1, some c)
  | false, some b => (st.1 ++ [(b, c)], none)
  | _, _ => st
def spansOf (ps : List (Int × Int)) : List (Int × Int) := ((rangeKs (-8) 24).foldl (cstep ps) ([], none)).1
theorem pd_ok (ps : List (Int × Int)) : ∀ d ∈ ps.map pd, kqdOk 8 d = true := by
  intro d hd
  obtain ⟨q, _, rfl⟩ := List.mem_map.mp hd
  rfl
open Classical in
theorem pd_any (fs ps : List (Int × Int)) (c : Int) (h : fs = ps.filter (covers c)) : (!decide (fs.map pd = [])) = isIn ps c := by
  subst h
  rw [isIn]
  cases h : ps.any (covers c) with
  | true =>
    obtain ⟨q, hq, hc⟩ := List.any_eq_true.mp h
    have : q ∈ ps.filter (covers c) := List.mem_filter.mpr ⟨hq, hc⟩
    rw [Bool.not_eq_true']
    refine decide_eq_false fun e => ?_
    rw [List.map_eq_nil_iff] at e
    rw [e] at this
    cases this
  | false =>
    have : ps.filter (covers c) = [] := List.filter_eq_nil_iff.mpr fun q hq => by
      have := List.any_eq_false.mp h q hq
      exact this
    rw [Bool.not_eq_false']
    exact decide_eq_true (by rw [this]; rfl)
def lenOf (ps : List (Int × Int)) : Int := (ps.map fun q => q.2 - q.1).sum
/-- is_normal, with what lies ahead -/
def normFrom : Option Int → List (Int × Int) → Bool
  | _, [] => true
  | o, q :: r => !(decide (q.2 ≤ q.1) || (match o with | none => false | some a => decide (q.1 ≤ a))) && normFrom (some q.2) r
/-- one pair goes into what is joined so far -/
def mstep (acc : List (Int × Int)) (q : Int × Int) : List (Int × Int) :=
  if q.2 ≤ q.1 then acc else match acc.getLast? with
    | none => [q]
    | some l => if q.1 ≤ l.2 then acc.dropLast ++ [(l.1, max l.2 q.2)] else acc ++ [q]
def mergeOf (qs : List (Int × Int)) : List (Int × Int) := qs.foldl mstep []
theorem mstep_len (acc : List (Int × Int)) (q : Int × Int) : (mstep acc q).length ≤ acc.length + 1 := by
  unfold mstep
  split
  · omega
  · split
    · simp
    · rename_i l h
      have hne : acc ≠ [] := by
        intro e
        rw [e] at h
        cases h
      have : acc.length ≠ 0 := fun e => hne (List.length_eq_zero_iff.mp e)
      split
      · rw [List.length_append, List.length_dropLast, List.length_singleton]
        omega
      · simp
open Classical in
theorem pd_nil : (!decide (([] : List (Int × Int)).map pd = [])) = false := by simp
open Classical in
theorem pd_snoc (gs : List (Int × Int)) (l : Int × Int) : (!decide ((gs ++ [l]).map pd = [])) = true := by simp
end Mine
end
section
open PySem PySem.W
namespace Mine
theorem isIn_iff {l : List (Int × Int)} {c : Int} : isIn l c = true ↔ ∃ q ∈ l, q.1 ≤ c ∧ c < q.2 := by
  simp only [isIn, List.any_eq_true, covers, Bool.and_eq_true, decide_eq_true_eq]
def NormL (l : List (Int × Int)) : Prop := (∀ q ∈ l, q.1 < q.2) ∧ l.Pairwise fun a b => a.2 < b.1
theorem norm_nil : NormL [] := ⟨(fun _ h => nomatch h), List.Pairwise.nil⟩
theorem NormL.tail {a : Int × Int} {l : List (Int × Int)} (h : NormL (a :: l)) : NormL l := ⟨fun q hq => h.1 q (.tail _ hq), (List.pairwise_cons.mp h.2).2⟩
theorem norm_uniq : ∀ {l l' : List (Int × Int)}, NormL l → NormL l' → (∀ c, isIn l c = true ↔ isIn l' c = true) → l = l'
  | [], [], _, _, _ => rfl
  | [], b :: r', _, h', e => by
    have := (e b.1).mpr (isIn_iff.mpr ⟨b, .head _, Int.le_refl _, h'.1 b (.head _)⟩)
    rw [isIn_iff] at this
    obtain ⟨q, hq, _⟩ := this
    cases hq
  | a :: r, [], h, _, e => by
    have := (e a.1).mp (isIn_iff.mpr ⟨a, .head _, Int.le_refl _, h.1 a (.head _)⟩)
    rw [isIn_iff] at this
    obtain ⟨q, hq, _⟩ := this
    cases hq
  | a :: r, b :: r', h, h', e => by
    have ha := h.1 a (.head _)
    have hb := h'.1 b (.head _)
    have hr := (List.pairwise_cons.mp h.2).1
    have hr' := (List.pairwise_cons.mp h'.2).1
    have first : a.1 = b.1 := by
      have q1 := (e a.1).mp (isIn_iff.mpr ⟨a, .head _, Int.le_refl _, ha⟩)
      have q2 := (e b.1).mpr (isIn_iff.mpr ⟨b, .head _, Int.le_refl _, hb⟩)
      rw [isIn_iff] at q1 q2
      obtain ⟨x, hx, x1, x2⟩ := q1
      obtain ⟨y, hy, y1, y2⟩ := q2
      have : b.1 ≤ x.1 := by
        rcases List.mem_cons.mp hx with rfl | hx
        · omega
        · have := hr' x hx; omega
      have : a.1 ≤ y.1 := by
        rcases List.mem_cons.mp hy with rfl | hy
        · omega
        · have := hr y hy; omega
      omega
    have n1 : ¬ isIn (a :: r) a.2 = true := by
      rw [isIn_iff]
      rintro ⟨x, hx, x1, x2⟩
      rcases List.mem_cons.mp hx with rfl | hx
      · omega
      · have := hr x hx; omega
    have n2 : ¬ isIn (b :: r') b.2 = true := by
      rw [isIn_iff]
      rintro ⟨x, hx, x1, x2⟩
      rcases List.mem_cons.mp hx with rfl | hx
      · omega
      · have := hr' x hx; omega
    have second : a.2 = b.2 := by
      rcases Int.lt_trichotomy a.2 b.2 with hlt | heq | hgt
      · exact absurd ((e a.2).mpr (isIn_iff.mpr ⟨b, .head _, by omega, hlt⟩)) n1
      · exact heq
      · exact absurd ((e b.2).mp (isIn_iff.mpr ⟨a, .head _, by omega, hgt⟩)) n2
    have hab : a = b := Prod.ext first second
    subst hab
    rw [norm_uniq h.tail h'.tail fun c => ?_]
    have := e c
    rw [isIn_iff, isIn_iff] at this ⊢
    constructor
    · rintro ⟨x, hx, x1, x2⟩
      obtain ⟨y, hy, y1, y2⟩ := this.mp ⟨x, .tail _ hx, x1, x2⟩
      rcases List.mem_cons.mp hy with rfl | hy
      · have := hr x hx; omega
      · exact ⟨y, hy, y1, y2⟩
    · rintro ⟨x, hx, x1, x2⟩
      obtain ⟨y, hy, y1, y2⟩ := this.mpr ⟨x, .tail _ hx, x1, x2⟩
      rcases List.mem_cons.mp hy with rfl | hy
      · have := hr' x hx; omega
      · exact ⟨y, hy, y1, y2⟩
theorem norm_snoc {l : List (Int × Int)} {q : Int × Int} (h : NormL l) (hq : q.1 < q.2) (hl : ∀ p ∈ l, p.2 < q.1) : NormL (l ++ [q]) := by
  refine ⟨fun p hp => ?_, List.pairwise_append.mpr ⟨h.2, List.pairwise_singleton _ _, fun p hp r hr => ?_⟩⟩
  · rcases List.mem_append.mp hp with hp | hp
    · exact h.1 p hp
    · rw [List.mem_singleton.mp hp]; exact hq
  · rw [List.mem_singleton.mp hr]; exact hl p hp
theorem isIn_append {l l' : List (Int × Int)} {c : Int} : isIn (l ++ l') c = true ↔ isIn l c = true ∨ isIn l' c = true := by
  rw [isIn, List.any_append, Bool.or_eq_true]; rfl
theorem isIn_single {q : Int × Int} {c : Int} : isIn [q] c = true ↔ q.1 ≤ c ∧ c < q.2 := by
  rw [isIn_iff]
  constructor
  · rintro ⟨x, hx, h⟩; rw [List.mem_singleton.mp hx] at h; exact h
  · exact fun h => ⟨q, .head _, h⟩
theorem merge_fold : ∀ (qs acc : List (Int × Int)), NormL acc → (∀ p ∈ acc, ∀ q ∈ qs, p.1 ≤ q.1) → qs.Pairwise (fun a b => a.1 ≤ b.1) → NormL (qs.foldl mstep acc) ∧ ∀ c, isIn (qs.foldl mstep acc) c = true ↔ isIn acc c = true ∨ isIn qs c = true
  | [], acc, h, _, _ => ⟨h, fun c => by simp [isIn]⟩
  | q :: qs, acc, h, hle, hs => by
    rw [List.pairwise_cons] at hs
    rw [List.foldl_cons]
    have key : NormL (mstep acc q) ∧ (∀ p ∈ mstep acc q, ∀ r ∈ qs, p.1 ≤ r.1) ∧ ∀ c, isIn (mstep acc q) c = true ↔ isIn acc c = true ∨ isIn [q] c = true := by
      unfold mstep
      by_cases h1 : q.2 ≤ q.1
      · rw [if_pos h1]
        refine ⟨h, fun p hp r hr => hle p hp r (.tail _ hr), fun c => ?_⟩
        rw [isIn_single]
        constructor
        · exact .inl
        · rintro (x | x)
          · exact x
          · omega
      · rw [if_neg h1]
        rcases acc.eq_nil_or_concat with rfl | ⟨gs, l, rfl⟩
        · simp only [List.getLast?_nil]
          refine ⟨⟨fun p hp => ?_, List.pairwise_singleton _ _⟩, fun p hp r hr => ?_, fun c => ?_⟩
          · rw [List.mem_singleton.mp hp]; omega
          · rw [List.mem_singleton.mp hp]; exact hs.1 r hr
          · simp [isIn]
        · rw [List.concat_eq_append] at *
          rw [List.getLast?_append]
          simp only [List.getLast?_singleton, Option.some_or]
          have hlq := hle l (List.mem_append_right _ (.head _)) q (.head _)
          have hl12 := h.1 l (List.mem_append_right _ (.head _))
          have hgs : ∀ p ∈ gs, p.2 < l.1 := fun p hp => (List.pairwise_append.mp h.2).2.2 p hp l (.head _)
          have hg : NormL gs := ⟨fun p hp => h.1 p (List.mem_append_left _ hp), (List.pairwise_append.mp h.2).1⟩
          by_cases h2 : q.1 ≤ l.2
          · rw [if_pos h2, List.dropLast_concat]
            refine ⟨norm_snoc hg (by simp only; omega) hgs, fun p hp r hr => ?_, fun c => ?_⟩
            · rcases List.mem_append.mp hp with hp | hp
              · exact hle p (List.mem_append_left _ hp) r (.tail _ hr)
              · rw [List.mem_singleton.mp hp]
                exact hle l (List.mem_append_right _ (.head _)) r (.tail _ hr)
            · rw [isIn_append, isIn_append, isIn_single, isIn_single, isIn_single]
              constructor
              · rintro (x | ⟨x1, x2⟩)
                · exact .inl (.inl x)
                · by_cases c < l.2
                  · exact .inl (.inr ⟨x1, by assumption⟩)
                  · exact .inr ⟨by omega, by simp only at x2; omega⟩
              · rintro ((x | x) | x)
                · exact .inl x
                · exact .inr ⟨x.1, by simp only; omega⟩
                · exact .inr ⟨by simp only; omega, by simp only; omega⟩
          · rw [if_neg h2]
            refine ⟨norm_snoc h (by omega) fun p hp => ?_, fun p hp r hr => ?_, fun c => isIn_append⟩
            · rcases List.mem_append.mp hp with hp | hp
              · have := hgs p hp; omega
              · rw [List.mem_singleton.mp hp]; omega
            · rcases List.mem_append.mp hp with hp | hp
              · exact hle p hp r (.tail _ hr)
              · rw [List.mem_singleton.mp hp]; exact hs.1 r hr
    obtain ⟨a, b⟩ := merge_fold qs (mstep acc q) key.1 key.2.1 hs.2
    refine ⟨a, fun c => ?_⟩
    rw [b c, key.2.2 c, show q :: qs = [q] ++ qs from rfl, isIn_append, or_assoc]
theorem merge_norm {qs : List (Int × Int)} (hs : qs.Pairwise (fun a b => a.1 ≤ b.1)) : NormL (mergeOf qs) ∧ ∀ c, isIn (mergeOf qs) c = true ↔ isIn qs c = true := by
  obtain ⟨a, b⟩ := merge_fold qs [] norm_nil (fun _ h => nomatch h) hs
  exact ⟨a, fun c => by rw [mergeOf, b c]; simp [isIn]⟩
/-- what stands between the columns -/
def ColInv (ps : List (Int × Int)) (c : Int) (st : List (Int × Int) × Option Int) : Prop :=
  NormL st.1 ∧ match st.2 with
    | none => (∀ p ∈ st.1, p.2 < c) ∧ ∀ x, x < c → (isIn st.1 x = true ↔ -8 ≤ x ∧ isIn ps x = true)
    | some b => b < c ∧ -8 ≤ b ∧ isIn ps (c - 1) = true ∧ (∀ p ∈ st.1, p.2 < b) ∧ (∀ x, x < b → (isIn st.1 x = true ↔ -8 ≤ x ∧ isIn ps x = true)) ∧ ∀ x, b ≤ x → x < c → isIn ps x = true
theorem col_step {ps : List (Int × Int)} {c : Int} {st : List (Int × Int) × Option Int} (hc : -8 ≤ c) (h : ColInv ps c st) : ColInv ps (c + 1) (cstep ps st c) := by
  obtain ⟨out, ob⟩ := st
  obtain ⟨hn, h⟩ := h
  unfold cstep
  cases hi : isIn ps c with
  | true =>
    cases ob with
    | none =>
      obtain ⟨h1, h2⟩ := h
      refine ⟨hn, ?_⟩
      dsimp only
      refine ⟨by omega, hc, by rw [show c + 1 - 1 = c by omega]; exact hi, h1, h2, fun x x1 x2 => ?_⟩
      have : x = c := by omega
      rw [this]; exact hi
    | some b =>
      obtain ⟨h1, h2, h3, h4, h5, h6⟩ := h
      refine ⟨hn, ?_⟩
      dsimp only
      refine ⟨by omega, h2, by rw [show c + 1 - 1 = c by omega]; exact hi, h4, h5, fun x x1 x2 => ?_⟩
      by_cases hx : x < c
      · exact h6 x x1 hx
      · have : x = c := by omega
        rw [this]; exact hi
  | false =>
    cases ob with
    | none =>
      obtain ⟨h1, h2⟩ := h
      refine ⟨hn, fun p hp => by have := h1 p hp; omega, fun x hx => ?_⟩
      by_cases hx' : x < c
      · exact h2 x hx'
      · have : x = c := by omega
        subst this
        rw [hi]
        constructor
        · intro hh
          rw [isIn_iff] at hh
          obtain ⟨p, hp, p1, p2⟩ := hh
          have := h1 p hp
          (try dsimp only at this)
          omega
        · rintro ⟨_, hh⟩; cases hh
    | some b =>
      obtain ⟨h1, h2, h3, h4, h5, h6⟩ := h
      refine ⟨norm_snoc hn h1 h4, fun p hp => ?_, fun x hx => ?_⟩
      · rcases List.mem_append.mp hp with hp | hp
        · have := h4 p hp; (try dsimp only at this); omega
        · rw [List.mem_singleton.mp hp]; dsimp only; omega
      · dsimp only
        rw [isIn_append, isIn_single]
        dsimp only
        by_cases hb : x < b
        · rw [← h5 x hb]
          dsimp only
          constructor
          · rintro (y | y)
            · exact y
            · omega
          · exact .inl
        · have hnot : ¬ isIn out x = true := by
            rw [isIn_iff]
            rintro ⟨p, hp, p1, p2⟩
            have := h4 p hp
            (try dsimp only at this)
            omega
          by_cases hx' : x < c
          · have := h6 x (by omega) hx'
            constructor
            · intro _; exact ⟨by omega, this⟩
            · intro _; exact .inr ⟨by omega, hx'⟩
          · have : x = c := by omega
            subst this
            constructor
            · rintro (y | y)
              · exact absurd y hnot
              · omega
            · rintro ⟨_, y⟩; rw [hi] at y; cases y
theorem rangeKs_succ (a : Int) (n : Nat) : rangeKs a (n + 1) = rangeKs a n ++ [a + n] := by
  unfold rangeKs
  rw [List.range_succ, List.map_append]
  rfl
theorem col_all (ps : List (Int × Int)) : ∀ n : Nat, ColInv ps (-8 + n) ((rangeKs (-8) n).foldl (cstep ps) ([], none))
  | 0 => by
    refine ⟨norm_nil, ?_⟩
    show (∀ p ∈ ([] : List (Int × Int)), p.2 < -8 + ((0 : Nat) : Int)) ∧ ∀ x, x < -8 + ((0 : Nat) : Int) → (isIn [] x = true ↔ -8 ≤ x ∧ isIn ps x = true)
    refine ⟨(fun _ h => nomatch h), fun x hx => ?_⟩
    constructor
    · intro h; cases h
    · intro h; omega
  | n + 1 => by
    rw [rangeKs_succ, List.foldl_append]
    have := col_step (by omega) (col_all ps n)
    rw [show (-8 + (n + 1 : Nat) : Int) = -8 + n + 1 by omega]
    exact this
def inB (q : Int × Int) : Prop := -8 ≤ q.1 ∧ q.2 ≤ 15
theorem spans_norm {ps : List (Int × Int)} (hb : ∀ q ∈ ps, inB q) : NormL (spansOf ps) ∧ ∀ c, isIn (spansOf ps) c = true ↔ isIn ps c = true := by
  have h := col_all ps 24
  unfold spansOf
  have hfar : ∀ x, 15 ≤ x → ¬ isIn ps x = true := by
    intro x hx
    rw [isIn_iff]
    rintro ⟨q, hq, q1, q2⟩
    have := (hb q hq).2
    omega
  have hlow : ∀ x, x < -8 → ¬ isIn ps x = true := by
    intro x hx
    rw [isIn_iff]
    rintro ⟨q, hq, q1, q2⟩
    have := (hb q hq).1
    omega
  revert h
  generalize (rangeKs (-8) 24).foldl (cstep ps) ([], none) = st
  obtain ⟨out, ob⟩ := st
  rintro ⟨hn, h⟩
  refine ⟨hn, fun c => ?_⟩
  cases ob with
  | some b =>
    obtain ⟨_, _, h3, _⟩ := h
    exact absurd h3 (hfar _ (by decide))
  | none =>
    obtain ⟨h1, h2⟩ := h
    dsimp only at h1 h2 ⊢
    by_cases hc : c < 16
    · rw [h2 c (by simpa using hc)]
      constructor
      · exact fun x => x.2
      · intro x
        refine ⟨?_, x⟩
        rcases Int.lt_or_le c (-8) with hl | hl
        · exact absurd x (hlow c hl)
        · exact hl
    · constructor
      · intro x
        rw [isIn_iff] at x
        obtain ⟨q, hq, q1, q2⟩ := x
        have := h1 q hq
        (try simp only at this)
        omega
      · intro x
        exact absurd x (hfar c (by omega))
theorem isIn_perm {qs ps : List (Int × Int)} (h : qs.Perm ps) (c : Int) : isIn qs c = true ↔ isIn ps c = true := by
  rw [isIn_iff, isIn_iff]
  constructor
  · rintro ⟨q, hq, r⟩; exact ⟨q, h.mem_iff.mp hq, r⟩
  · rintro ⟨q, hq, r⟩; exact ⟨q, h.mem_iff.mpr hq, r⟩
/-- joining the sorted pairs gives the columns' spans -/
theorem merge_spans {qs ps : List (Int × Int)} (hp : qs.Perm ps) (hs : qs.Pairwise (fun a b => a.1 ≤ b.1)) (hb : ∀ q ∈ ps, inB q) : mergeOf qs = spansOf ps := by
  obtain ⟨a, b⟩ := merge_norm hs
  obtain ⟨c, d⟩ := spans_norm hb
  exact norm_uniq a c fun x => by rw [b x, d x, isIn_perm hp x]
/-- spans are their own -/
theorem spans_id {ps : List (Int × Int)} (h : NormL ps) (hb : ∀ q ∈ ps, inB q) : spansOf ps = ps := by
  obtain ⟨c, d⟩ := spans_norm hb
  exact norm_uniq c h d
theorem norm_from {l : List (Int × Int)} (h : NormL l) : ∀ o : Option Int, (∀ a, o = some a → ∀ q ∈ l, a < q.1) → normFrom o l = true := by
  induction l with
  | nil => intro _ _; rfl
  | cons q r ih =>
    intro o ho
    have hq := h.1 q (.head _)
    have hr := (List.pairwise_cons.mp h.2).1
    unfold normFrom
    rw [ih h.tail (some q.2) fun a ha p hp => by cases ha; exact hr p hp, Bool.and_true, Bool.not_eq_true', Bool.or_eq_false_iff]
    refine ⟨decide_eq_false (by omega), ?_⟩
    cases o with
    | none => rfl
    | some a =>
      have := ho a rfl q (.head _)
      exact decide_eq_false (by omega)
theorem spans_isnormal {ps : List (Int × Int)} (hb : ∀ q ∈ ps, inB q) : normFrom none (spansOf ps) = true := norm_from (spans_norm hb).1 none fun _ h => nomatch h
theorem merge_len (qs : List (Int × Int)) : (mergeOf qs).length ≤ qs.length := by
  have : ∀ (qs acc : List (Int × Int)), (qs.foldl mstep acc).length ≤ acc.length + qs.length := by
    intro qs
    induction qs with
    | nil => intro acc; simp
    | cons q qs ih =>
      intro acc
      rw [List.foldl_cons]
      have := ih (mstep acc q)
      have := mstep_len acc q
      simp only [List.length_cons]
      omega
  have := this qs []
  unfold mergeOf
  simpa using this
theorem spans_len {ps : List (Int × Int)} (hb : ∀ q ∈ ps, inB q) : (spansOf ps).length ≤ ps.length := by
  have hp := List.mergeSort_perm ps (fun a b => decide (a.1 ≤ b.1))
  have hs : (ps.mergeSort (fun a b => decide (a.1 ≤ b.1))).Pairwise (fun a b => a.1 ≤ b.1) := by
    have := List.pairwise_mergeSort (le := fun a b : Int × Int => decide (a.1 ≤ b.1)) (by intro a b c; simp only [decide_eq_true_eq]; omega) (by intro a b; simp only [Bool.or_eq_true, decide_eq_true_eq]; omega) ps
    exact this.imp (by simp)
  rw [← merge_spans hp hs hb, ← hp.length_eq]
  exact merge_len _
/-- spans keep within the bounds -/
theorem spans_inB {ps : List (Int × Int)} (hb : ∀ q ∈ ps, inB q) : ∀ q ∈ spansOf ps, inB q := by
  obtain ⟨a, b⟩ := spans_norm hb
  intro q hq
  have hlt := a.1 q hq
  have h1 := (b q.1).mp (isIn_iff.mpr ⟨q, hq, Int.le_refl _, hlt⟩)
  have h2 := (b (q.2 - 1)).mp (isIn_iff.mpr ⟨q, hq, by omega, by omega⟩)
  rw [isIn_iff] at h1 h2
  obtain ⟨x, hx, x1, x2⟩ := h1
  obtain ⟨y, hy, y1, y2⟩ := h2
  have := (hb x hx).1
  have := (hb y hy).2
  exact ⟨by omega, by omega⟩
end Mine
end
section
open PySem PySem.W PySem.Spec PySem.Calls PyProof.Rows PyProof.V PyProof.Rows.LCg
namespace Mine
section
theorem fold_Q {α : Type} {M : Model} {A : Around} {c : Sem α} {Q : α → Shared → Prop} {E : Value → Shared → Prop} {s : Shared} (h : let Q' := Q; wpAny M A c Q' E s) : wpAny M A c Q E s := h
theorem fold_E {α : Type} {M : Model} {A : Around} {c : Sem α} {Q : α → Shared → Prop} {E : Value → Shared → Prop} {s : Shared} (h : let E' := E; wpAny M A c Q E' s) : wpAny M A c Q E s := h
theorem fold_A {α : Type} {M : Model} {A : Around} {c : Sem α} {Q : α → Shared → Prop} {E : Value → Shared → Prop} {s : Shared} (h : let A' := A; wpAny M A' c Q E s) : wpAny M A c Q E s := h
theorem unr_mk {h₀ : Heap} {L : Addr} {s₁ s₂ : Shared} {its keep : List (Addr × Obj)} {Inv : List Itm → (Str → Option Value) → List (Addr × Obj) → Prop} {r : List Itm} (h' : Heap) (tk : Nat) (m' : Str → Option Value) (news' : List (Addr × Obj))
    (e : s₂ = { s₁ with heap := h', toks := tk }) (F : Fr h₀ L h' m') (N : News h₀ L h' (its ++ news')) (off : ∀ p ∈ news', ∀ q ∈ its, p.1 ≠ q.1) (sub : SubL keep news') (inv : Inv r m' news') :
    UnrEndW h₀ L s₁ its (fun m' n' => SubL keep n' ∧ Inv r m' n') s₂ := ⟨h', tk, m', news', e, F, N, off, sub, inv⟩
theorem u64 {dp un k : Nat} {gd : Option (List Code)} {cn : Str} {cs : Scope} {L a : Addr} {ccd : Value} {cl : List (Str × Addr)} {outer : List Env} {env : Env} (h : un + k < cLine) (hk : 100 ≤ k) : ((ktrTop dp un gd cn cs L a ccd cl outer).deeper env).units + 64 < cLine := by
  show un + 3 + 64 < cLine
  omega
theorem u64u {dp un k : Nat} {gd : Option (List Code)} {cn : Str} {cs : Scope} {L a : Addr} {ccd : Value} {cl : List (Str × Addr)} {outer : List Env} {env : Env} {c : Code} (h : un + k < cLine) (hk : 100 ≤ k) (hc : c.cUnits ≤ 10) : (((ktrTop dp un gd cn cs L a ccd cl outer).under c).deeper env).units + 64 < cLine := by
  show un + c.cUnits + 3 + 64 < cLine
  omega
theorem toArr_get {vs : List Value} {k : Nat} (h : k < vs.length) : vs.toArray[k]? = some (vs[k]'h) := by simp [h]
section
variable {prog : Program} {w : World} {A : Around} {E : Value → Shared → Prop} {s : Shared} {h₀ : Heap} {L : Addr} {m : Str → Option Value} {env : Env} {target : Expr}
theorem srcAt_sub {I : Addr} {ws : List (Addr × String)} {keep news news' : List (Addr × Obj)} {xs : List Itm} {h : Heap} (S : SrcAt prog w A target h₀ L I ws keep xs news h) (hs : ∀ p ∈ news', p ∈ news) (hk : SubL keep news') : SrcAt prog w A target h₀ L I ws keep xs news' h := by
  obtain ⟨fp, wr, P, Md, St, S, a, b, c, _⟩ := S
  exact ⟨fp, wr, P, Md, St, S, a, b, fun p hp => c p (hs p hp), hk⟩
theorem allObj_mono : ∀ (wl : List (Addr × String)) (f g : List (Addr × Obj) → Prop), (∀ l, f l → g l) → AllObj wl f → AllObj wl g := by
  intro wl
  induction wl with
  | nil => intro f g hfg hf; exact hfg _ hf
  | cons q r' ih' => intro f g hfg hf o ho; exact ih' _ _ (fun l hl => hfg _ hl) (hf o ho)
theorem CEnd.imp {s₁ s₂ : Shared} {its : List (Addr × Obj)} {C D : Addr} {ys : List Value} {f g : List (Addr × Obj) → Prop} (hfg : ∀ l, f l → g l) (h : CEnd h₀ L m s₁ its C D ys f s₂) : CEnd h₀ L m s₁ its C D ys g s₂ := by
  obtain ⟨h', tk, oC, m₂, news', e, F, hoC, N, off, r⟩ := h
  exact ⟨h', tk, oC, m₂, news', e, F, hoC, N, off, hfg _ r⟩
theorem comp_ind {elt : Expr} {ifs : List Expr} {scope : Scope} {cl : List (Str × Addr)} {ws : List (Addr × String)} {keep : List (Addr × Obj)} {Fin : List Value → List (Addr × Obj) → Prop} (Inv : List Itm → List Value → List (Addr × Obj) → Prop)
    (hend : ∀ ys news, Inv [] ys news → Fin ys news)
    (hstep : ∀ a r ys news, Inv (a :: r) ys news → ∀ v C oC m₂ D h tk (E' : Value → Shared → Prop), a.Is v h → NsObj oC m₂ → Fr h₀ L h m → (@Ne Nat C D) → AllObj ws (fun its =>
      News h₀ L h (its ++ (C, oC) :: (D, lst ys) :: news) → (∀ p ∈ news, (∀ q ∈ its, p.1 ≠ q.1) ∧ p.1 ≠ C ∧ p.1 ≠ D) → (∀ q ∈ its, q.1 ≠ C ∧ q.1 ≠ D) →
      wpAny (model prog w) A (assign target (compEnvC scope cl C env) v) (fun _ s₂ => wpAny (model prog w) A (testsOf ifs (compEnvC scope cl C env)) (fun ok s₃ =>
        if ok = true then wpAny (model prog w) A (eval elt (compEnvC scope cl C env)) (fun y s₄ => CEnd h₀ L m { s with heap := h, toks := tk } its C D ys (fun news' => SubL keep news' ∧ Inv r (ys ++ [y]) news') s₄) E' s₃
        else CEnd h₀ L m { s with heap := h, toks := tk } its C D ys (fun news' => SubL keep news' ∧ Inv r ys news') s₃) E' s₂) E' { s with heap := h, toks := tk })) :
    ∀ xs ys news, Inv xs ys news → CRest prog w A h₀ L m env elt target ifs scope cl s ws keep Fin xs ys news := by
  intro xs
  induction xs with
  | nil => intro ys news h; exact hend ys news h
  | cons a r ih =>
    intro ys news hi v C oC m₂ D h tk E' ha hoC F hCD
    refine allObj_mono ws _ _ (fun its hits N o1 o2 => ?_) (hstep a r ys news hi v C oC m₂ D h tk E' ha hoC F hCD)
    refine wpAny_mono (hits N o1 o2) (fun _ s₂ h₂ => wpAny_mono h₂ (fun ok s₃ h₃ => ?_) fun _ _ e => e) fun _ _ e => e
    cases ok with
    | false =>
      simp only [Bool.false_eq_true, if_false] at h₃ ⊢
      exact h₃.imp fun l hl => ⟨hl.1, ih _ _ hl.2⟩
    | true =>
      simp only [if_true] at h₃ ⊢
      exact wpAny_mono h₃ (fun y s₄ h₄ => h₄.imp fun l hl => ⟨hl.1, ih _ _ hl.2⟩) fun _ _ e => e

/-- one name of a comprehension's own is stored -/
theorem comp_store {scope : Scope} {cl : List (Str × Addr)} {x : Str} {v : Value} {C : Addr} {oC : Obj} {m₂ : Str → Option Value} {pre post : List (Addr × Obj)} {Q : Unit → Shared → Prop}
    (hx : scope.names.lookup x = some .local) (hkind : scope.kind = .function) (hoC : NsObj oC m₂) (F : Fr h₀ L s.heap m) (N : News h₀ L s.heap (pre ++ (C, oC) :: post)) (h1 : ∀ p ∈ pre, p.1 ≠ C) (h2 : ∀ p ∈ post, p.1 ≠ C)
    (k : ∀ oC' h' tk', NsObj oC' (fun z => if z = x then some v else m₂ z) → Fr h₀ L h' m → News h₀ L h' (pre ++ (C, oC') :: post) → Q () { s with heap := h', toks := tk' }) :
    wpAny (model prog w) A (storeName (compEnvC scope cl C env) x v) Q E s := by
  have zC := N (C, oC) (List.mem_append_right _ (.head _))
  refine wpAny_storeName_local (lookup_relabel_local hx) (hoC.ns zC.1) (fun h' hn hs => ?_) (by simp [compEnvC, relabel, hkind])
  obtain ⟨oC', heC, hoC'⟩ := ns_obj hn
  refine k oC' h' _ hoC' (F.change hs zC.2.1 zC.2.2) fun p hp => ?_
  rcases List.mem_append.mp hp with hp | hp
  · have z := N p (List.mem_append_left _ hp)
    exact ⟨hs.extBut _ _ (h1 p hp) z.1, z.2⟩
  · rcases mem_cons_s hp with rfl | hp
    · exact ⟨heC, zC.2⟩
    · have z := N p (List.mem_append_right _ (.tail _ hp))
      exact ⟨hs.extBut _ _ (h2 p hp) z.1, z.2⟩
theorem comp_asg1 {scope : Scope} {cl : List (Str × Addr)} {x : Str} {px : Pos} {v : Value} {C : Addr} {oC : Obj} {m₂ : Str → Option Value} {pre post : List (Addr × Obj)} {Q : Unit → Shared → Prop}
    (hx : scope.names.lookup x = some .local) (hkind : scope.kind = .function) (hoC : NsObj oC m₂) (F : Fr h₀ L s.heap m) (N : News h₀ L s.heap (pre ++ (C, oC) :: post)) (h1 : ∀ p ∈ pre, p.1 ≠ C) (h2 : ∀ p ∈ post, p.1 ≠ C)
    (k : ∀ oC' m₃ h' tk', NsObj oC' m₃ → m₃ x = some v → Fr h₀ L h' m → News h₀ L h' (pre ++ (C, oC') :: post) → Q () { s with heap := h', toks := tk' }) :
    wpAny (model prog w) A (assign (.Name x px) (compEnvC scope cl C env) v) Q E s :=
  wpAny_assign_Name (comp_store hx hkind hoC F N h1 h2 fun oC' h' tk' a b c => k oC' _ h' tk' a (by simp) b c)
theorem comp_asg2 {scope : Scope} {cl : List (Str × Addr)} {x y : Str} {px py tp : Pos} {kk : Nat} {T : Addr} {v u : Value} {C : Addr} {oC : Obj} {m₂ : Str → Option Value} {pre post : List (Addr × Obj)} {Q : Unit → Shared → Prop}
    (hh : A.handled = none) (ht : IsTup s.heap T #[v, u]) (hx : scope.names.lookup x = some .local) (hy : scope.names.lookup y = some .local) (hxy : x ≠ y) (hkind : scope.kind = .function) (hoC : NsObj oC m₂) (F : Fr h₀ L s.heap m) (N : News h₀ L s.heap (pre ++ (C, oC) :: post)) (h1 : ∀ p ∈ pre, p.1 ≠ C) (h2 : ∀ p ∈ post, p.1 ≠ C)
    (k : ∀ oC' m₃ h' tk', NsObj oC' m₃ → m₃ x = some v → m₃ y = some u → Fr h₀ L h' m → News h₀ L h' (pre ++ (C, oC') :: post) → Q () { s with heap := h', toks := tk' }) :
    wpAny (model prog w) A (assign (.Tuple [.Name x px, .Name y py] kk tp) (compEnvC scope cl C env) (.ref T)) Q E s := by
  refine assign_Tuple_tuple hh ht rfl rfl fun h₅ he => ?_
  have he' : ∀ b o, s.heap.get? b = some o → h₅.get? b = some o := fun b o e => he b o (Nat.ne_of_lt (Heap.lt_size e)) e
  refine assignInOrder_cons (wpAny_assign_Name (comp_store (s := { s with heap := h₅ }) hx hkind hoC (F.keeps he') (N.grown he') h1 h2 fun oC' h' tk' a b c => ?_))
  refine assignInOrder_cons (wpAny_assign_Name (comp_store hy hkind a b c h1 h2 fun oC'' h'' tk'' a' b' c' => ?_))
  exact assignInOrder_nil (k oC'' _ h'' tk'' a' (by simp [hxy]) (by simp) b' c')
theorem comp_asg4 {scope : Scope} {cl : List (Str × Addr)} {x1 x2 x3 x4 : Str} {p1 p2 p3 p4 tp : Pos} {kk : Nat} {T : Addr} {v1 v2 v3 v4 : Value} {C : Addr} {oC : Obj} {m₂ : Str → Option Value} {pre post : List (Addr × Obj)} {Q : Unit → Shared → Prop}
    (hh : A.handled = none) (ht : IsTup s.heap T #[v1, v2, v3, v4]) (e1 : scope.names.lookup x1 = some .local) (e2 : scope.names.lookup x2 = some .local) (e3 : scope.names.lookup x3 = some .local) (e4 : scope.names.lookup x4 = some .local) (hne : [x1, x2, x3, x4].Nodup) (hkind : scope.kind = .function) (hoC : NsObj oC m₂) (F : Fr h₀ L s.heap m) (N : News h₀ L s.heap (pre ++ (C, oC) :: post)) (h1 : ∀ p ∈ pre, p.1 ≠ C) (h2 : ∀ p ∈ post, p.1 ≠ C)
    (k : ∀ oC' m₃ h' tk', NsObj oC' m₃ → m₃ x1 = some v1 → m₃ x2 = some v2 → m₃ x3 = some v3 → m₃ x4 = some v4 → Fr h₀ L h' m → News h₀ L h' (pre ++ (C, oC') :: post) → Q () { s with heap := h', toks := tk' }) :
    wpAny (model prog w) A (assign (.Tuple [.Name x1 p1, .Name x2 p2, .Name x3 p3, .Name x4 p4] kk tp) (compEnvC scope cl C env) (.ref T)) Q E s := by
  refine assign_Tuple_tuple hh ht rfl rfl fun h₅ he => ?_
  have he' : ∀ b o, s.heap.get? b = some o → h₅.get? b = some o := fun b o e => he b o (Nat.ne_of_lt (Heap.lt_size e)) e
  simp only [List.nodup_cons, List.mem_cons, List.not_mem_nil, or_false, not_or, not_false_eq_true, List.nodup_nil, and_true] at hne
  obtain ⟨⟨n1, n2, n3⟩, ⟨n4, n5⟩, n6⟩ := hne
  refine assignInOrder_cons (wpAny_assign_Name (comp_store (s := { s with heap := h₅ }) e1 hkind hoC (F.keeps he') (N.grown he') h1 h2 fun oC' h' tk' a b c => ?_))
  refine assignInOrder_cons (wpAny_assign_Name (comp_store e2 hkind a b c h1 h2 fun oC'' h'' tk'' a b c => ?_))
  refine assignInOrder_cons (wpAny_assign_Name (comp_store e3 hkind a b c h1 h2 fun oC'' h'' tk'' a b c => ?_))
  refine assignInOrder_cons (wpAny_assign_Name (comp_store e4 hkind a b c h1 h2 fun oC'' h'' tk'' a b c => ?_))
  exact assignInOrder_nil (k _ _ h'' tk'' a (by simp [n1, n2, n3]) (by simp [n4, n5]) (by simp [n6]) (by simp) b c)
end
section
variable {prog : Program} {w : World} {A : Around} {E : Value → Shared → Prop} {s : Shared} {h₀ : Heap} {L : Addr} {m : Str → Option Value} {env : Env} {elt target : Expr} {ifs : List Expr} {scope : Scope} {cl : List (Str × Addr)} {news : List (Addr × Obj)} {Q : Value → Shared → Prop}
theorem comp_list {ax : Addr} {lo : Obj} {vs : List Value} {n : Nat}
    (hh : A.handled = none) (F : Fr h₀ L s.heap m) (N : News h₀ L s.heap news) (hm : (ax, lo) ∈ news) (hc : lo.cls = .type "list") (hd : lo.data = .seq vs.toArray n) (hsz : vs.length ≤ sizeLine)
    (k : ∀ I g t, (∀ p ∈ news, p.1 < I) → CRest prog w A h₀ L m env elt target ifs scope cl { s with heap := g, toks := t } [(I, "list_iterator")] [(ax, lo)] (CFin h₀ L m { s with heap := g, toks := t } Q) (vs.map .val) [] news) :
    wpAny (model prog w) A (pyIter (.ref ax)) (CompAt prog w A h₀ L m env elt target ifs scope cl Q) E s :=
  src_list hh F N hm hc hd fun I h' F' N' l' S' => ⟨I, _, _, _, news, rfl, S', F', N', by simpa using hsz, fun _ ⟨g, t, e⟩ => e ▸ k I g t l'⟩
theorem comp_range {r : Addr} {a b : Int} {t u v : Tok} {n : Nat}
    (hh : A.handled = none) (F : Fr h₀ L s.heap m) (N : News h₀ L s.heap news) (hr : IsRange s.heap r a b 1 t u v) (hsm : Builtin.Range.small a b 1 = true) (hn : Builtin.Range.rangeSize a b 1 = ((n : Nat) : Int)) (hsz : n ≤ sizeLine)
    (k : ∀ I g t, (∀ p ∈ news, p.1 < I) → CRest prog w A h₀ L m env elt target ifs scope cl { s with heap := g, toks := t } [(I, "range_iterator")] [] (CFin h₀ L m { s with heap := g, toks := t } Q) (rangeItms a n) [] news)
    (hgo : ∀ I v (s : Shared) (Q : Unit → Shared → Prop) (E : Value → Shared → Prop), Q () s → wpAny (model prog w) A (letOwnedTupleGo target I v) Q E s) :
    wpAny (model prog w) A (pyIter (.ref r)) (CompAt prog w A h₀ L m env elt target ifs scope cl Q) E s :=
  src_range hh F N hr hsm hn (fun I h' F' N' l' S' => ⟨I, _, _, _, news, rfl, S', F', N', by simpa [rangeItms, rangeKs_length] using hsz, fun _ ⟨g, t, e⟩ => e ▸ k I g t l'⟩) hgo
theorem comp_dict {d : Addr} {od : Obj} {kvs : List (Int × Value)}
    (hh : A.handled = none) (F : Fr h₀ L s.heap m) (N : News h₀ L s.heap news) (hm : (d, od) ∈ news) (hd : od.IsDictOf (PySem.intKind prog w) kvs) (lo : (d == sysModules) = false) (hsz : kvs.length ≤ sizeLine)
    (k : ∀ I g t, (∀ p ∈ news, p.1 < I) → CRest prog w A h₀ L m env elt target ifs scope cl { s with heap := g, toks := t } [(I, "dict_keyiterator")] [(d, od)] (CFin h₀ L m { s with heap := g, toks := t } Q) (keyItms kvs) [] news) :
    wpAny (model prog w) A (pyIter (.ref d)) (CompAt prog w A h₀ L m env elt target ifs scope cl Q) E s :=
  src_dict hh F N hm hd lo fun I h' F' N' l' S' => ⟨I, _, _, _, news, rfl, S', F', N', by simpa [keyItms] using hsz, fun _ ⟨g, t, e⟩ => e ▸ k I g t l'⟩
end
section
variable {prog : Program} {w : World} {A : Around} {E : Value → Shared → Prop} {s : Shared} {h₀ : Heap} {m : Str → Option Value} {env : Env} {target : Expr} {body : List Stmt} {news : List (Addr × Obj)} {Q : Flow → Shared → Prop}
theorem for_list {ax : Addr} {lo : Obj} {vs : List Value} {n : Nat} (small : List (Addr × Obj))
    (hh : A.handled = none) (F : Fr h₀ env.locals s.heap m) (N : News h₀ env.locals s.heap news) (hs : ∀ p ∈ small, p ∈ news) (hm : (ax, lo) ∈ small) (hc : lo.cls = .type "list") (hd : lo.data = .seq vs.toArray n)
    (k : ∀ I, (∀ p ∈ news, p.1 < I) → ItemsRest prog w A E h₀ env target body Q s [(I, "list_iterator")] [(ax, lo)] (vs.map .val) m small) :
    wpAny (model prog w) A (pyIter (.ref ax)) (fun it s₂ => TurnsAt prog w A h₀ env target body Q E it s₂) E s :=
  src_list hh F N (hs _ hm) hc hd fun I _ F' N' l' S' => for_src (srcAt_sub S' hs ⟨hm, trivial⟩) F' (fun p hp => N' p (hs p hp)) (k I l')
theorem for_range {r : Addr} {a b : Int} {t u v : Tok} {n : Nat} (small : List (Addr × Obj))
    (hh : A.handled = none) (F : Fr h₀ env.locals s.heap m) (N : News h₀ env.locals s.heap news) (hs : ∀ p ∈ small, p ∈ news) (hr : IsRange s.heap r a b 1 t u v) (hsm : Builtin.Range.small a b 1 = true) (hn : Builtin.Range.rangeSize a b 1 = ((n : Nat) : Int))
    (k : ∀ I, (∀ p ∈ news, p.1 < I) → ItemsRest prog w A E h₀ env target body Q s [(I, "range_iterator")] [] (rangeItms a n) m small)
    (hgo : ∀ I v (s : Shared) (Q : Unit → Shared → Prop) (E : Value → Shared → Prop), Q () s → wpAny (model prog w) A (letOwnedTupleGo target I v) Q E s) :
    wpAny (model prog w) A (pyIter (.ref r)) (fun it s₂ => TurnsAt prog w A h₀ env target body Q E it s₂) E s :=
  src_range hh F N hr hsm hn (fun I _ F' N' l' S' => for_src (srcAt_sub S' hs trivial) F' (fun p hp => N' p (hs p hp)) (k I l')) hgo
theorem for_dict {d : Addr} {od : Obj} {kvs : List (Int × Value)} (small : List (Addr × Obj))
    (hh : A.handled = none) (F : Fr h₀ env.locals s.heap m) (N : News h₀ env.locals s.heap news) (hs : ∀ p ∈ small, p ∈ news) (hm : (d, od) ∈ small) (hd : od.IsDictOf (PySem.intKind prog w) kvs) (lo : (d == sysModules) = false)
    (k : ∀ I, (∀ p ∈ news, p.1 < I) → ItemsRest prog w A E h₀ env target body Q s [(I, "dict_keyiterator")] [(d, od)] (keyItms kvs) m small) :
    wpAny (model prog w) A (pyIter (.ref d)) (fun it s₂ => TurnsAt prog w A h₀ env target body Q E it s₂) E s :=
  src_dict hh F N (hs _ hm) hd lo fun I _ F' N' l' S' => for_src (srcAt_sub S' hs ⟨hm, trivial⟩) F' (fun p hp => N' p (hs p hp)) (k I l')
end
/-- the frame's map, some names of it told -/
def look : List (Str × Value) → (Str → Option Value) → Str → Option Value
  | [], m => m
  | (k, v) :: r, m => fun y => if y = k then some v else look r m y
theorem look_eq {ks : List (Str × Value)} {m : Str → Option Value} (h : ∀ p ∈ ks, m p.1 = some p.2) : look ks m = m := by
  induction ks with
  | nil => rfl
  | cons p r ih =>
    funext y
    show (if y = p.1 then some p.2 else look r m y) = m y
    rw [ih fun q hq => h q (.tail _ hq)]
    split
    · rename_i e
      rw [e, h p (.head _)]
    · rfl
theorem fr_look {h₀ h : Heap} {L : Addr} {m : Str → Option Value} (ks : List (Str × Value)) (F : Fr h₀ L h m) (e : ∀ p ∈ ks, m p.1 = some p.2) : Fr h₀ L h (look ks m) := by rw [look_eq e]; exact F
/-- an int or None -/
def OptIs (v : Value) (o : Option Int) : Prop := match o with
  | none => v = .none
  | some b => ∃ t, v = .int b t
/-- a made pair of ints -/
abbrev tup2 (a : Int) (ta : Tok) (b : Int) (tb : Tok) : Obj := { cls := .type "tuple", data := .seq [Value.int a ta, Value.int b tb].toArray }
theorem tup2_dat {kn : List (Addr × Obj)} {x : Addr} {a b : Int} {ta tb : Tok} (h : (x, tup2 a ta b tb) ∈ kn) : DatIn kn (.ref x) (.tuple [.int a, .int b]) := DatIn.tuple (n := 0) h (.cons (.int _ _) (.cons (.int _ _) .nil))
end
-- what new addresses are told by
local macro_rules | `(tactic| k_all) => `(tactic| assumption)
local macro_rules | `(tactic| k_mem) => `(tactic| first | assumption | exact List.mem_append_right _ (by assumption) | exact List.mem_append_left _ (by assumption))
local macro_rules | `(tactic| units_room) => `(tactic| exact u64 (by assumption) (by decide))
local macro_rules | `(tactic| walk_at "call builtin:list.append") => `(tactic| (k_here; (with_reducible show wpAny _ _ (call (Value.builtin _) [Value.ref _, _]) _ _ _); k_dflt (refine' append_K ?k1 ?k2 ?k3 ?_ ?z; (case k1 => k_asm); (case k2 => k_asm); (case k3 => k_upd); (case z => (rw [List.size_toArray, sizeLine_eq]; omega)); k_whole); intro h' F' N'; (try k_sweep)))
local macro_rules | `(tactic| walk_at "subscriptTail") => `(tactic| (k_here; (with_reducible show wpAny _ _ (subscriptTail _ _ (Value.ref _) (Value.int _ _)) _ _ _); k_dflt (refine' item_list ?l ?a ?b ?c ?_ ?e; (case l => exact News.isList (by k_asm) (by k_mem)); (case a => omega); (case b => omega); (case c => exact toArr_get (by omega)); (case e => with_unfolding_all rfl); k_whole)))
local macro_rules | `(tactic| walk_at "subscriptTail") => `(tactic| (k_here; (with_reducible show wpAny _ _ (subscriptTail _ _ (Value.ref _) (Value.int _ _)) _ _ _); k_dflt (refine' item_tupleT ?t ?a ?b ?c ?d ?_; (case t => exact News.isTup (by k_asm) (by k_mem)); (case a => decide); (case b => decide); (case c => rfl); (case d => rfl); k_whole)))
local macro_rules | `(tactic| walk_at "call builtin:len") => `(tactic| (k_here; (with_reducible show wpAny _ _ (call (Value.builtin "len") [Value.ref _]) _ _ _); (refine' len_list ?l ?z ?_; (case l => exact News.isList (by k_asm) (by k_mem)); (case z => (simp only [List.size_toArray]; omega)); k_whole)))
local macro_rules | `(tactic| walk_at "mine:room3") => `(tactic| first | (refine' room3 ?h9 ?l9; (case h9 => assumption); (case l9 => exact Nat.le_of_ble_eq_true rfl)) | (refine' room2 ?h9 ?l9; (case h9 => assumption); (case l9 => exact Nat.le_of_ble_eq_true rfl)))
local macro_rules | `(tactic| walk_at "mine:units") => `(tactic| ((try dsimp only [ktrTop, Around.deeper]); first | walk_at "mine:room3" | (have hcL9 := cLine_is; omega)))
local macro_rules | `(tactic| walk_at "mine:room") => `(tactic| ((try dsimp only [ktrTop, Around.deeper]); first | walk_at "mine:room3" | omega))
local macro_rules | `(tactic| k_ne) => `(tactic| with_reducible first | assumption | (refine neN ?_; (try dsimp only); first | assumption | (apply Nat.ne_of_lt; first | assumption | (apply And.left; assumption) | (apply And.left; apply And.right; assumption) | (apply And.left; apply And.right; apply And.right; assumption)) | (apply Nat.ne_of_gt; first | assumption | (apply And.left; assumption) | (apply And.left; apply And.right; assumption) | (apply And.left; apply And.right; apply And.right; assumption)) | omega))
-- one list within another, piece by piece
local macro_rules | `(tactic| walk_at "mine:leafm") => `(tactic| first | with_reducible apply mem_hd | with_reducible assumption | (with_reducible apply mem_tl; walk_at "mine:leafm"; done) | (with_reducible apply List.mem_append_left; walk_at "mine:leafm"; done) | (with_reducible apply List.mem_append_right; walk_at "mine:leafm"; done))
local macro_rules | `(tactic| walk_at "mine:leaf") => `(tactic| first | with_reducible apply sub_refl | with_reducible assumption | (with_reducible apply sub_tail; walk_at "mine:leaf"; done) | (with_reducible apply sub_left; walk_at "mine:leaf"; done) | (with_reducible apply sub_right; walk_at "mine:leaf"; done))
local macro_rules | `(tactic| walk_at "mine:in") => `(tactic| first | with_reducible apply sub_nil | ((with_reducible apply sub_cons); (focus (walk_at "mine:leafm"; done)); walk_at "mine:in") | ((with_reducible apply sub_app) <;> walk_at "mine:in") | walk_at "mine:leaf")
local macro_rules | `(tactic| units_room) => `(tactic| exact u64u (by assumption) (by decide) (Nat.le_of_ble_eq_true rfl))
-- where the walk is to halt: loops, comprehensions, iterators
local macro_rules | `(tactic| walk_at "mine:stop") => `(tactic| first | (with_reducible show wpAny _ _ (exec (Stmt.For _ _ _ _ _) _) _ _ _) | (with_reducible show wpAny _ _ (eval (PySem.Expr.ListComp _ _ _ _) _) _ _ _) | (with_reducible show wpAny _ _ (exec (Stmt.While _ _ _ _) _) _ _ _) | (with_reducible show wpAny _ _ (pyIter (Value.ref _)) _ _ _) | (with_reducible show wpAny _ _ (compareOp CmpOp.NotEq (Value.ref _) (Value.ref _)) _ _ _) | (with_reducible show wpAny _ _ (compareOp CmpOp.Eq (Value.ref _) (Value.ref _)) _ _ _) | (with_reducible show wpAny _ _ (call (Value.builtin "sorted") [Value.ref _]) _ _ _) | (with_reducible show UnrEndW _ _ _ _ _ _) | (with_reducible show wpAny _ _ (binaryOp Operator.Mult (Value.int (List.getD _ _ _) _) (Value.int (List.getD _ _ _) _)) _ _ _) | (with_reducible show CEnd _ _ _ _ _ _ _ _ _ _))
local macro_rules | `(tactic| walk_at "mine:steps") => `(tactic| repeat' (first | (k_unfold; (try dsimp only)) | ((fail_if_success (walk_at "mine:stop")); first | (k_end; wrow_close) | walk1 | (dsimp only; walk1) | (leave1; walk_say "STEP leave1"; try dsimp only) | fail "no step")))
local macro_rules | `(tactic| walk_at "mine:enter") => `(tactic| (refine' code_def ?k1 ?k2 ?k3 ?k4 ?k5 ?kA ?kF ?kK ?k6 ?k7 ?k8 ?k9 ?kB ?_ ?c2 ?c3 ?c4 ?c5; (case kA => exact rfl); (case kF => exact rfl); (case kK => assumption); (case k1 => k_asm); (case k2 => k_asm); (case k3 => k_asm); (case k4 => k_asm); (case k5 => k_asm); (case k6 => k_is); (case k7 => k_is); (case k8 => first | (refine' room0 ?h9; (case h9 => assumption)) | ktr_room); (case k9 => exact BindsTo.of_eq rfl); (case c5 => decide); (case kB => exact locs rfl); (case c2 => exact rfl); (case c3 => exact rfl); (case c4 => exact rfl); k_whole; intro g' L' h' FG' F' N' B' X' T'; (try dsimp only); (try k_fold)))
local macro_rules | `(tactic| walk_at "mine:enterC") => `(tactic| (refine' code_defC ?k1 ?k2 ?k3 ?k4 ?k5 ?kA ?kF ?kK ?k6 ?k7 ?k8 ?k9 ?kB ?kD ?_ ?c2 ?c3 ?c4; (case kA => exact rfl); (case kF => exact rfl); (case kK => assumption); (case k1 => k_asm); (case k2 => k_asm); (case k3 => k_asm); (case k4 => k_asm); (case k5 => k_asm); (case k6 => k_is); (case k7 => k_is); (case k8 => first | (refine' room0 ?h9; (case h9 => assumption)) | ktr_room); (case k9 => exact BindsTo.of_eq rfl); (case kB => exact rfl); (case kD => decide +kernel); (case c2 => exact rfl); (case c3 => exact rfl); (case c4 => exact rfl); k_whole; intro g' L' h' tk' cells' FG' F' N' Y' B' X' T' l1; k_cells Y'; (try simp only [List.cons_append, List.nil_append] at N'); (try dsimp only); (try k_fold)))

theorem fill_all (P : Params) (h : Heap) (X : (hd.heap_1 P).In h) : (hd.heap_1 P).In h ∧ PySem.Challenge.rw_pf0187_01 = PySem.Challenge.rw_pf0187_01 := by
  k_fill
  exact ⟨X, rfl⟩
section
theorem reset_PTake : True := by
  w_top off
  trivial
/-- the pool of figures: two ints, none below nought -/
def SrcObj (o : Obj) : Prop := Ex5 fun (x y : Int) (tx ty : Tok) (n : Nat) => An3 (o = listOf #[.int x tx, .int y ty] n) (0 ≤ x) (0 ≤ y)
section
variable {prog : Program} {w : World} {p : Program} {loose : List Str} {mean : ExcName → Option Value} {mg mb : Str → Option Value}
theorem take_c0 {dp un : Nat} {gd : Option (List Code)} {cn : Str} {cs : Scope} {a : Addr} {ccd : Value} {cl : List (Str × Addr)} {outer : List Env} {A₀ : Around} {base h₀ : Heap} {L : Addr} {m : Str → Option Value} {s : Shared}
    {Q E : Value → Shared → Prop} {src : Addr} {x y top : Int} {tx ty tt : Tok} {n : Nat} {rest : List (Addr × Obj)}
    (B : Below A₀ base outer h₀) (F : Fr h₀ L s.heap m) (X : (hd.heap_1 w.params).In h₀) (N : News h₀ L s.heap ((src, listOf #[.int x tx, .int y ty] n) :: rest)) (off : ∀ p ∈ rest, p.1 ≠ src)
    (T : Top p loose mean mg mb h₀) (hk : cs.kind = .function) (hd : dp + 1 < recursionLimit) (hu : un + 100 < cLine) (hx : 0 ≤ x) (hy : 0 ≤ y) (ht : 0 < top) (ht' : top ≤ 100)
    (ret : ∀ r tr x' tx' y' ty' n' h' tk', 0 ≤ r → r < top → 0 ≤ x' → 0 ≤ y' → Fr h₀ L h' m → News h₀ L h' ((src, listOf #[.int x' tx', .int y' ty'] n') :: rest) → Q (.int r tr) {s with heap := h', toks := tk'}) :
    wpAny (model prog w) (ktrTop dp un gd cn cs L a ccd cl outer) (call (.ref 172) [.ref src, .int top tt]) Q E s := by
  refine wpAny_call ?_
  k_dflt (walk_at "mine:enter")
  walk_at "mine:steps"
  · rename Fr h₀ _ _ _ => F9
    rename News h₀ _ _ _ => N9
    refine ret _ _ _ _ _ _ _ _ _ ?_ ?_ ?_ ?_ F9 N9
    · exact Int.fmod_nonneg_of_pos _ ht
    · exact Int.fmod_lt_of_pos _ ht
    · exact Int.fdiv_nonneg hx (Int.le_of_lt ht)
    · exact hy
  · have hz : 0 ≤ (y * 39373 + 7).fmod 2147483647 ∧ (y * 39373 + 7).fmod 2147483647 < 2147483647 := ⟨Int.fmod_nonneg_of_pos _ (by decide), Int.fmod_lt_of_pos _ (by decide)⟩
    refine mul_int ?_ (IntMulOk.of_right (intBits_le_64 ?_ ?_))
    · walk_at "mine:steps"
      rename Fr h₀ _ _ _ => F9
      rename News h₀ _ _ _ => N9
      refine ret _ _ _ _ _ _ _ _ _ ?_ ?_ ?_ ?_ F9 N9
      · exact Int.fmod_nonneg_of_pos _ ht
      · exact Int.fmod_lt_of_pos _ ht
      · exact hx
      · exact hz.1
    · show -2 ^ 64 < (y * 39373 + 7).fmod 2147483647
      omega
    · show (y * 39373 + 7).fmod 2147483647 < 2 ^ 64
      omega
theorem take_c {dp un : Nat} {gd : Option (List Code)} {cn : Str} {cs : Scope} {a : Addr} {ccd : Value} {cl : List (Str × Addr)} {outer : List Env} {A₀ : Around} {base h₀ : Heap} {L : Addr} {m : Str → Option Value} {s : Shared}
    {Q E : Value → Shared → Prop} {src : Addr} {o : Obj} {top : Int} {tt : Tok} {news : List (Addr × Obj)} {g : Obj → List (Addr × Obj)}
    (B : Below A₀ base outer h₀) (F : Fr h₀ L s.heap m) (X : (hd.heap_1 w.params).In h₀) (N : News h₀ L s.heap news) (U : UpdF src o news g) (ho : SrcObj o)
    (T : Top p loose mean mg mb h₀) (hk : cs.kind = .function) (hd : dp + 1 < recursionLimit) (hu : un + 100 < cLine) (ht : 0 < top) (ht' : top ≤ 100)
    (ret : ∀ r tr o' h' tk', 0 ≤ r → r < top → SrcObj o' → Fr h₀ L h' m → News h₀ L h' (g o') → Q (.int r tr) {s with heap := h', toks := tk'}) :
    wpAny (model prog w) (ktrTop dp un gd cn cs L a ccd cl outer) (call (.ref 172) [.ref src, .int top tt]) Q E s := by
  refine fold_goal (fun gX gk => ?_)
  obtain ⟨x, y, tx, ty, n, rfl, hx, hy⟩ := ho
  obtain ⟨pre, post, rfl, hg, h1, h2⟩ := U.split
  have N1 : News h₀ L s.heap ((src, listOf #[.int x tx, .int y ty] n) :: (pre ++ post)) := fun q hq => N q (by
    rcases mem_cons_s hq with rfl | hq
    · exact List.mem_append_right _ (.head _)
    · exact (List.mem_append.mp hq).elim (fun h => List.mem_append_left _ h) fun h => List.mem_append_right _ (.tail _ h))
  refine gk ?_
  clear gk gX
  refine take_c0 (rest := pre ++ post) B F X N1 (fun q hq => (List.mem_append.mp hq).elim (h1 q) (h2 q)) T hk hd hu hx hy ht ht' ?_
  · intro r tr x' tx' y' ty' n' h' tk' a1 a2 a3 a4 F' N'
    refine ret r tr _ h' tk' a1 a2 ⟨x', y', tx', ty', n', rfl, a3, a4⟩ F' ?_
    rw [hg]
    intro q hq
    refine N' q ?_
    rcases List.mem_append.mp hq with hq | hq
    · exact .tail _ (List.mem_append_left _ hq)
    · rcases mem_cons_s hq with rfl | hq
      · exact .head _
      · exact .tail _ (List.mem_append_right _ hq)
end
end
section
theorem reset_POne : True := by
  w_top off
  trivial
local macro_rules | `(tactic| walk_at "call ref") => `(tactic| (k_here; (with_reducible show wpAny _ _ (call (Value.ref 172) [Value.ref _, Value.int _ _]) _ _ _); k_dflt (refine' take_c ?b ?f ?x ?n ?u ?o ?t ?k ?d ?c ?y ?z ?_; (case b => k_asm); (case f => k_asm); (case x => k_asm); (case n => k_asm); (case u => k_updF); (case o => assumption); (case t => k_asm); (case k => first | exact rfl | assumption); (case d => walk_at "mine:room"); (case c => walk_at "mine:units"); (case y => first | omega | (simp only [List.size_toArray]; omega)); (case z => first | omega | (simp only [List.size_toArray]; omega)); k_whole); intro r' tr' o' h' tk' hr0' hr1' ho' F' N'; (try simp only [List.size_toArray] at hr1'); (try dsimp only at N'); (try k_sweep); (try dsimp only)))
section
variable {prog : Program} {w : World} {p : Program} {loose : List Str} {mean : ExcName → Option Value} {mg mb : Str → Option Value}
theorem one_c {dp un : Nat} {gd : Option (List Code)} {cn : Str} {cs : Scope} {a : Addr} {ccd : Value} {cl : List (Str × Addr)} {outer : List Env} {A₀ : Around} {base h₀ : Heap} {L : Addr} {m : Str → Option Value} {s : Shared}
    {Q E : Value → Shared → Prop} {src lst : Addr} {o : Obj} {vs : List Value} {k : Nat} {news : List (Addr × Obj)} {g : Obj → List (Addr × Obj)}
    (B : Below A₀ base outer h₀) (F : Fr h₀ L s.heap m) (X : (hd.heap_1 w.params).In h₀) (N : News h₀ L s.heap news) (U : UpdF src o news g) (ho : SrcObj o) (hl : (lst, listOf vs.toArray k) ∈ news) (hne : @Ne Nat lst src)
    (T : Top p loose mean mg mb h₀) (hk : cs.kind = .function) (hd : dp + 2 < recursionLimit) (hu : un + 200 < cLine) (h0 : 0 < vs.length) (h1 : vs.length ≤ 100)
    (ret : ∀ (i : Nat) (hi : i < vs.length) o' h' tk', SrcObj o' → Fr h₀ L h' m → News h₀ L h' (g o') → Q (vs[i]'hi) {s with heap := h', toks := tk'}) :
    wpAny (model prog w) (ktrTop dp un gd cn cs L a ccd cl outer) (call (.ref 179) [.ref src, .ref lst]) Q E s := by
  refine fold_goal (fun gX gk => ?_)
  obtain ⟨pre, post, rfl, hg, h3, h4⟩ := U.split
  have N1 : News h₀ L s.heap ((src, o) :: (pre ++ post)) := fun q hq => N q (by
    rcases mem_cons_s hq with rfl | hq
    · exact List.mem_append_right _ (.head _)
    · exact (List.mem_append.mp hq).elim (fun h => List.mem_append_left _ h) fun h => List.mem_append_right _ (.tail _ h))
  have hl1 : (lst, listOf vs.toArray k) ∈ pre ++ post := by
    rcases List.mem_append.mp hl with h | h
    · exact List.mem_append_left _ h
    · rcases List.mem_cons.mp h with e | h
      · exact absurd (congrArg Prod.fst e) hne
      · exact List.mem_append_right _ h
  have off : ∀ q ∈ pre ++ post, q.1 ≠ src := fun q hq => (List.mem_append.mp hq).elim (h3 q) (h4 q)
  clear N U hl
  refine gk ?_
  clear gk gX
  refine wpAny_call ?_
  k_dflt (walk_at "mine:enter")
  walk_at "mine:steps"
  rename Fr h₀ _ _ _ => F9
  rename News h₀ _ _ _ => N9
  rename SrcObj _ => ho9
  refine ret _ _ _ _ _ ho9 F9 ?_
  rw [hg]
  intro q hq
  refine N9 q ?_
  rcases List.mem_append.mp hq with hq | hq
  · exact .tail _ (List.mem_append_left _ hq)
  · rcases mem_cons_s hq with rfl | hq
    · exact .head _
    · exact .tail _ (List.mem_append_right _ hq)
theorem one_i {dp un : Nat} {gd : Option (List Code)} {cn : Str} {cs : Scope} {a : Addr} {ccd : Value} {cl : List (Str × Addr)} {outer : List Env} {A₀ : Around} {base h₀ : Heap} {L : Addr} {m : Str → Option Value} {s : Shared}
    {Q E : Value → Shared → Prop} {src lst : Addr} {o : Obj} {vs : List Value} {ns : List Int} {k : Nat} {news : List (Addr × Obj)} {g : Obj → List (Addr × Obj)}
    (B : Below A₀ base outer h₀) (F : Fr h₀ L s.heap m) (X : (hd.heap_1 w.params).In h₀) (N : News h₀ L s.heap news) (U : UpdF src o news g) (ho : SrcObj o) (hl : (lst, listOf vs.toArray k) ∈ news) (hI : IntsAre vs ns) (hne : @Ne Nat lst src)
    (T : Top p loose mean mg mb h₀) (hk : cs.kind = .function) (hd : dp + 2 < recursionLimit) (hu : un + 200 < cLine) (h0 : 0 < ns.length) (h1 : ns.length ≤ 100)
    (ret : ∀ (x : Int) (t : Tok) o' h' tk', x ∈ ns → SrcObj o' → Fr h₀ L h' m → News h₀ L h' (g o') → Q (.int x t) {s with heap := h', toks := tk'}) :
    wpAny (model prog w) (ktrTop dp un gd cn cs L a ccd cl outer) (call (.ref 179) [.ref src, .ref lst]) Q E s := by
  have hlen := hI.length
  refine one_c B F X N U ho hl hne T hk hd hu (by omega) (by omega) fun i hi o' h' tk' ho' F' N' => ?_
  have hi' : i < ns.length := by omega
  obtain ⟨t, ht⟩ := hI.get i (ns[i]'hi') (List.getElem?_eq_getElem hi')
  have e : vs[i]'hi = .int (ns[i]'hi') t := Option.some.inj ((List.getElem?_eq_getElem hi).symm.trans ht)
  rw [e]
  exact ret _ _ _ _ _ (List.getElem_mem hi') ho' F' N'
end
end
section
theorem reset_PPairs : True := by
  w_top off
  trivial
local macro_rules | `(tactic| walk_at "call ref") => `(tactic| (k_here; (with_reducible show wpAny _ _ (call (Value.ref 172) [Value.ref _, Value.int _ _]) _ _ _); k_dflt (refine' take_c ?b ?f ?x ?n ?u ?o ?t ?k ?d ?c ?y ?z ?_; (case b => k_asm); (case f => k_asm); (case x => k_asm); (case n => k_asm); (case u => k_updF); (case o => assumption); (case t => k_asm); (case k => first | exact rfl | assumption); (case d => walk_at "mine:room"); (case c => walk_at "mine:units"); (case y => first | omega | (simp only [List.size_toArray]; omega)); (case z => first | omega | (simp only [List.size_toArray]; omega)); k_whole); intro r' tr' o' h' tk' hr0' hr1' ho' F' N'; (try simp only [List.size_toArray] at hr1'); (try dsimp only at N'); (try k_sweep); (try dsimp only)))
local macro_rules | `(tactic| walk_at "call ref") => `(tactic| (k_here; (with_reducible show wpAny _ _ (call (Value.ref 179) [Value.ref _, Value.ref _]) _ _ _); k_dflt (refine' one_i (ns := [0, 1, 1, 2, 4, -1]) ?b ?f ?x ?n ?u ?o ?l ?i ?e ?t ?k ?d ?c ?y ?z ?_; (case b => k_asm); (case f => k_asm); (case x => k_asm); (case n => k_asm); (case u => k_updF); (case o => assumption); (case l => k_mem); (case i => exact .cons _ _ (.cons _ _ (.cons _ _ (.cons _ _ (.cons _ _ (.cons _ _ .nil)))))); (case e => first | assumption | k_ne); (case t => k_asm); (case k => first | exact rfl | assumption); (case d => walk_at "mine:room"); (case c => walk_at "mine:units"); (case y => decide); (case z => decide); k_whole); intro x' tx' o' h' tk' hx' ho' F' N'; (try dsimp only at N'); (try k_sweep); (try dsimp only)))
section
variable {prog : Program} {w : World} {p : Program} {loose : List Str} {mean : ExcName → Option Value} {mg mb : Str → Option Value}
/-- a drawn pair -/
def okPair (q : Int × Int) : Prop := -8 ≤ q.1 ∧ q.1 ≤ 15 ∧ -8 ≤ q.2 ∧ q.2 ≤ 15
/-- the pairs' loop -/
inductive PrInv (rest : List (Addr × Obj)) (src lf lI : Addr) (xs : List Itm) (m : Str → Option Value) (nx : List (Addr × Obj)) : Prop
  | mk (o : Obj) (vs : List Value) (n : Nat) (add : List (Addr × Obj)) (ps : List (Int × Int)) (ih0 : (∀ it ∈ xs, ∃ f : Tok → Value, it = Itm.tok f)) (ih1 : nx = (lf, listOf vs.toArray n) :: (src, o) :: (add ++ rest)) (ih2 : SrcObj o) (ih3 : DatAll add vs (ps.map pd)) (ih4 : (∀ q ∈ ps, okPair q)) (ih5 : (∀ q ∈ rest, ∀ r ∈ add, q.1 < r.1)) (ih6 : (∀ r ∈ add, @LT.lt Nat _ src r.1)) (ih7 : OwnOff add [lf, src, lI]) (ih8 : m (Str.ofString "found") = some (.ref lf)) (ih9 : m (Str.ofString "source") = some (.ref src)) (ih10 : ps.length + xs.length ≤ 3) : PrInv rest src lf lI xs m nx
theorem pairs_c {dp un : Nat} {gd : Option (List Code)} {cn : Str} {cs : Scope} {a : Addr} {ccd : Value} {cl : List (Str × Addr)} {outer : List Env} {A₀ : Around} {base h₀ : Heap} {L : Addr} {m : Str → Option Value} {s : Shared}
    {Q E : Value → Shared → Prop} {src : Addr} {o : Obj} {news : List (Addr × Obj)} {g : Obj → List (Addr × Obj)}
    (B : Below A₀ base outer h₀) (F : Fr h₀ L s.heap m) (X : (hd.heap_1 w.params).In h₀) (N : News h₀ L s.heap news) (U : UpdF src o news g) (ho : SrcObj o)
    (T : Top p loose mean mg mb h₀) (hk : cs.kind = .function) (hd : dp + 3 < recursionLimit) (hu : un + 300 < cLine)
    (ret : ∀ r (ps : List (Int × Int)) add o' h' tk', SrcObj o' → Fr h₀ L h' m → News h₀ L h' (add ++ g o') → (∀ q ∈ news, ∀ p ∈ add, q.1 < p.1) → DatIn add r (.list (ps.map pd)) → (∀ q ∈ ps, okPair q) → ps.length ≤ 3 → Q r {s with heap := h', toks := tk'}) :
    wpAny (model prog w) (ktrTop dp un gd cn cs L a ccd cl outer) (call (.ref 186) [.ref src]) Q E s := by
  refine fold_goal (fun gX gk => ?_)
  obtain ⟨pre, post, rfl, hg, h3, h4⟩ := U.split
  have N1 : News h₀ L s.heap ((src, o) :: (pre ++ post)) := fun q hq => N q (by
    rcases mem_cons_s hq with rfl | hq
    · exact List.mem_append_right _ (.head _)
    · exact (List.mem_append.mp hq).elim (fun h => List.mem_append_left _ h) fun h => List.mem_append_right _ (.tail _ h))
  have off : ∀ q ∈ pre ++ post, q.1 ≠ src := fun q hq => (List.mem_append.mp hq).elim (h3 q) (h4 q)
  clear N
  refine gk ?_
  clear gk gX
  refine wpAny_call ?_
  k_dflt (walk_at "mine:enter")
  rename_i g1 L1 h1 FG1 F1 N2 B1 X1 T1
  walk_at "mine:steps"
  rename Fr _ _ _ (fun y => _) => F2
  refine For_turns F2 ?_
  walk_at "mine:steps"
  rename_i lf hA l2 hB rr tr oo h5 tk5 hr0 hr1 hoo F5 N5 h6 tk6 t1 t2 t3 R6 F6 N6 k6
  refine for_range ((lf, listOf #[] 0) :: (src, oo) :: ([] ++ (pre ++ post))) rfl F6 N6 (fun q hq => hq) R6 (small_one (by omega) (by omega) (by omega) (by omega)) (rangeSize_nat _ _) (fun I l4 => ?_) (fun _ _ _ _ _ q => wpAny_pure q)
  have bI1 := ltN (l4 _ (.head _))
  have bI2 := ltN (l4 _ (.tail _ (.head _)))
  dsimp only at bI1 bI2
  have offf : ∀ q ∈ pre ++ post, q.1 ≠ lf := fun q hq => Nat.ne_of_lt (tb_ltOf l2.2 q hq)
  refine items_ind (PrInv (pre ++ post) src lf I) ?_ ?_ _ _ _ ?_
  · intro m5 nx h5 tk5 hI F5 N5
    refine fold_Q ?_
    intro qF0
    refine fold_E ?_
    intro eF0
    refine fold_A ?_
    intro aF0
    refine fold_goal (fun gX gk => ?_)
    obtain ⟨o5, vs5, n5, add5, ps5, e1, e2, e3, e4, e5, e6, e7, e8, e9, e10, e11⟩ := hI
    subst e2
    have F6 := fr_look [(Str.ofString "found", .ref lf)] F5 (by simpa using e9)
    dsimp only [look] at F6
    clear F5
    refine gk ?_
    clear gk gX
    dsimp only
    walk_at "mine:steps"
    rename Fr _ _ _ _ => F7
    rename News _ _ _ _ => N7
    refine ret _ ps5 ((lf, listOf vs5.toArray n5) :: add5) o5 _ _ e3 F7 ?_ ?_ ?_ e5 (by omega)
    · rw [hg]
      intro q hq
      refine N7 q ?_
      (first | (refine sub_in hq ?_; walk_at "mine:in"; done) | (trace "GRINDBACK"; simp only [List.mem_cons, List.mem_append, List.nil_append, List.cons_append, List.not_mem_nil, or_false, false_or] at hq ⊢; grind only))
    · intro q hq r hr
      have hq' : q ∈ pre ++ post ∨ q = (src, o) := by
        (first | (refine sub_in hq ?_; walk_at "mine:in"; done) | (trace "GRINDBACK"; simp only [List.mem_cons, List.mem_append] at hq ⊢; grind only))
      rcases mem_cons_s hr with rfl | hr
      · rcases hq' with hq | rfl
        · exact tb_ltOf l2.2 q hq
        · exact l2.1
      · rcases hq' with hq | rfl
        · exact e6 q hq r hr
        · exact e7 r hr
    · exact DatIn.list (.head _) (DatAll.mono (fun q hq => .tail _ hq) e4)
  · intro it r m5 nx hI v5 h5 tk5 hit F5 oI hoI N5
    refine fold_Q ?_
    intro qF1
    refine fold_E ?_
    intro eF1
    refine fold_A ?_
    intro aF1
    refine fold_goal (fun gX gk => ?_)
    obtain ⟨o5, vs5, n5, add5, ps5, e1, e2, e3, e4, e5, e6, e7, e8, e9, e10, e11⟩ := hI
    subst e2
    obtain ⟨f5, rfl⟩ := e1 it (.head _)
    obtain ⟨t5, rfl⟩ := hit
    have F6 := fr_look [(Str.ofString "found", .ref lf), (Str.ofString "source", .ref src)] F5 (by simp [e9, e10])
    dsimp only [look] at F6
    clear F5
    have N6 : News g1 L1 h5 ((I, oI) :: (lf, listOf vs5.toArray n5) :: (src, o5) :: (add5 ++ (pre ++ post))) := N5
    clear N5
    have off5 : ∀ q ∈ add5 ++ (pre ++ post), q.1 ≠ src := fun q hq => (List.mem_append.mp hq).elim (fun h => e8 q h _ (.tail _ (.head _))) (off q)
    have offf5 : ∀ q ∈ add5 ++ (pre ++ post), q.1 ≠ lf := fun q hq => (List.mem_append.mp hq).elim (fun h => e8 q h _ (.head _)) (offf q)
    have hsz : vs5.length ≤ 24 := by
      have := e4.length
      rw [List.length_map] at this
      omega
    refine gk ?_
    clear gk gX
    dsimp only
    walk_at "mine:steps"
    rename_i rr5 tr5 o6 h6 tk6 hr6 hr7 ho6 h7 tk7 ll h8 l8 xx tx o7 h9 tk9 hx9 ho7 lD hA9 l9 hB9 F9 N9
    rw [List.push_toArray] at N9
    refine fold_goal (fun gX gk => ?_)
    obtain ⟨ta, tb, N9⟩ : ∃ ta tb, News g1 L1 hB9 ((lD, tup2 (rr5 - 3) ta (rr5 - 3 + xx) tb) :: (ll, _) :: (I, oI) :: (lf, listOf (vs5 ++ [Value.ref lD]).toArray (n5 + 1)) :: (src, o7) :: (add5 ++ (pre ++ post))) := ⟨_, _, N9⟩
    obtain ⟨p0, p1, p2, p3, p4⟩ := l9
    have p5 := tb_ltOf p4
    refine gk ?_
    clear gk gX
    refine unr_mk _ _ _ ((lf, listOf (vs5 ++ [Value.ref lD]).toArray (n5 + 1)) :: (src, o7) :: (((lD, tup2 (rr5 - 3) ta (rr5 - 3 + xx) tb) :: add5) ++ (pre ++ post))) rfl F9 ?_ ?_ trivial ⟨o7, vs5 ++ [Value.ref lD], n5 + 1, (lD, tup2 (rr5 - 3) ta (rr5 - 3 + xx) tb) :: add5, ps5 ++ [(rr5 - 3, rr5 - 3 + xx)], fun q hq => e1 q (.tail _ hq), rfl, ho7, ?_, ?_, ?_, ?_, ?_, rfl, rfl, ?_⟩
    · intro q hq
      refine N9 q ?_
      (first | (refine sub_in hq ?_; walk_at "mine:in"; done) | (trace "GRINDBACK"; simp only [List.mem_cons, List.mem_append, List.nil_append, List.cons_append, List.not_mem_nil, or_false, false_or] at hq ⊢; grind only))
    · intro q hq r' hr'
      rw [List.mem_singleton.mp hr']
      simp only [List.mem_cons, List.mem_append, List.cons_append] at hq
      rcases hq with rfl | rfl | rfl | hq | hq
      · exact Nat.ne_of_lt bI1
      · exact Nat.ne_of_lt bI2
      · exact (Nat.ne_of_lt p1).symm
      · exact e8 q hq _ (.tail _ (.tail _ (.head _)))
      · exact Nat.ne_of_lt (l4 q (.tail _ (.tail _ (List.mem_append.mpr hq))))
    · rw [List.map_append]
      exact DatAll.append (DatAll.mono (fun q hq => .tail _ hq) e4) (DatAll.one (tup2_dat (.head _)))
    · intro q hq
      rcases List.mem_append.mp hq with hq | hq
      · exact e5 q hq
      · rw [List.mem_singleton.mp hq]
        simp only [List.mem_cons, List.not_mem_nil, or_false] at hx9
        simp only [okPair]
        omega
    · intro q hq r' hr'
      rcases mem_cons_s hr' with rfl | hr'
      · exact p5 q (List.mem_append_right _ hq)
      · exact e6 q hq r' hr'
    · intro r' hr'
      rcases mem_cons_s hr' with rfl | hr'
      · exact p3
      · exact e7 r' hr'
    · intro q hq r' hr'
      rcases mem_cons_s hq with rfl | hq
      · rcases mem_cons_s hr' with rfl | hr'
        · exact (Nat.ne_of_lt p2).symm
        rcases mem_cons_s hr' with rfl | hr'
        · exact (Nat.ne_of_lt p3).symm
        rw [List.mem_singleton.mp hr']
        exact (Nat.ne_of_lt p1).symm
      · exact e8 q hq r' hr'
    · simp only [List.length_append, List.length_cons, List.length_nil] at e11 ⊢
      omega
  · refine ⟨oo, [], 0, [], [], ?_, rfl, hoo, .nil, (fun _ h => nomatch h), (fun _ _ _ h => nomatch h), (fun _ h => nomatch h), (fun _ h => nomatch h), rfl, rfl, ?_⟩
    · intro it hit
      refine fold_goal (fun gX gk => ?_)
      obtain ⟨k, _, rfl⟩ := List.mem_map.mp hit
      refine gk ?_
      clear gk gX
      exact ⟨_, rfl⟩
    · simp only [rangeItms, List.length_map, rangeKs_length, List.length_nil]
      omega
end
end
section
theorem reset_PSpans : True := by
  w_top off
  trivial
section
variable {prog : Program} {w : World} {p : Program} {loose : List Str} {mean : ExcName → Option Value} {mg mb : Str → Option Value}
/-- the columns' loop: what stands between the turns -/
inductive SpInv (ps : List (Int × Int)) (news : List (Addr × Obj)) (lf lc lI a' : Addr) (total : List (Int × Int) × Option Int) (xs : List Itm) (m : Str → Option Value) (nx : List (Addr × Obj)) : Prop
  | mk (cs : List Int) (st : List (Int × Int) × Option Int) (oc : Obj) (x : Option Value) (vs : List Value) (n : Nat) (add : List (Addr × Obj)) (bv : Value) (ih0 : xs = cs.map (fun k => Itm.tok fun t => .int k t)) (ih1 : cs.foldl (cstep ps) st = total) (ih2 : nx = (lf, listOf vs.toArray n) :: (lc, oc) :: (add ++ news)) (ih3 : oc.data = .cell x) (ih4 : DatAll add vs (st.1.map pd)) (ih5 : (∀ q ∈ news, ∀ r ∈ add, q.1 < r.1)) (ih6 : OwnOff add [lf, lc, lI]) (ih7 : m (Str.ofString "found") = some (.ref lf)) (ih8 : m (Str.ofString "pairs") = some (.ref a')) (ih9 : m (Str.ofString "begun") = some bv) (ih10 : OptIs bv st.2) (ih11 : st.1.length + cs.length ≤ 24) : SpInv ps news lf lc lI a' total xs m nx
theorem spans_c {dp un : Nat} {gd : Option (List Code)} {cn : Str} {cs : Scope} {a : Addr} {ccd : Value} {cl : List (Str × Addr)} {outer : List Env} {A₀ : Around} {base h₀ : Heap} {L : Addr} {m : Str → Option Value} {s : Shared}
    {Q E : Value → Shared → Prop} {v : Value} {ps : List (Int × Int)} {kn news : List (Addr × Obj)}
    (B : Below A₀ base outer h₀) (F : Fr h₀ L s.heap m) (X : (hd.heap_1 w.params).In h₀) (N : News h₀ L s.heap news) (hkn : ∀ p ∈ kn, p ∈ news)
    (T : Top p loose mean mg mb h₀) (hk : cs.kind = .function) (hd : dp + 1 < recursionLimit) (hu : un + 100 < cLine) (hv : DatIn kn v (.list (ps.map pd))) (hlen : ps.length ≤ 64)
    (ret : ∀ r add h' tk', Fr h₀ L h' m → News h₀ L h' (add ++ news) → (∀ q ∈ news, ∀ p ∈ add, q.1 < p.1) → DatIn add r (.list ((spansOf ps).map pd)) → Q r {s with heap := h', toks := tk'}) :
    wpAny (model prog w) (ktrTop dp un gd cn cs L a ccd cl outer) (call (.ref 191) [v]) Q E s := by
  refine wpAny_call ?_
  refine fold_goal (fun gX gk => ?_)
  cases hv
  rename_i a' vs' n' hmv hda
  have hmv' := hkn _ hmv
  refine gk ?_
  clear gk gX
  k_dflt (walk_at "mine:enterC")
  rename_i g1 L1 h1 tk1 FG1 F1 B1 X1 T1 l1 o1 d1 N1
  walk_at "mine:steps"
  rename_i lf hA l2 lt hB l3 hC hD hE F2 N2
  refine For_turns F2 ?_
  walk_at "mine:steps"
  rename_i h3 tk3 t1 t2 t3 R3 F3 N3 k3
  refine for_range ((lf, listOf #[] 0) :: (L1 + 1, o1) :: ([] ++ news)) rfl F3 N3 (fun q hq => .tail _ hq) R3 (by decide) (by rfl) (fun I l4 => ?_) (fun _ _ _ _ _ q => wpAny_pure q)
  have bI1 := ltN (l4 _ (.tail _ (.head _)))
  have bI2 := ltN (l4 _ (.tail _ (.tail _ (.head _))))
  dsimp only at bI1 bI2
  have offc : ∀ q ∈ news, q.1 ≠ L1 + 1 := fun q hq => Nat.ne_of_lt (Nat.lt_succ_of_lt (l1 q hq))
  have offf : ∀ q ∈ news, q.1 ≠ lf := fun q hq => Nat.ne_of_lt (tb_ltOf l2.2 q hq)
  have offI : ∀ (n : Nat) (vs : List Value) (oc oI : Obj) (add : List (Addr × Obj)), OwnOff add [lf, L1 + 1, I] → ∀ q ∈ (lf, listOf vs.toArray n) :: (L1 + 1, oc) :: (add ++ news), ∀ r ∈ [(I, oI)], q.1 ≠ r.1 := by
    intro n vs oc oI add hadd q hq r hr
    rw [List.mem_singleton.mp hr]
    rcases mem_cons_s hq with rfl | hq
    · exact Nat.ne_of_lt bI1
    · rcases mem_cons_s hq with rfl | hq
      · exact Nat.ne_of_lt bI2
      · rcases List.mem_append.mp hq with hq | hq
        · exact hadd q hq _ (.tail _ (.tail _ (.head _)))
        · exact Nat.ne_of_lt (l4 q (.tail _ (.tail _ (.tail _ hq))))
  refine items_ind (SpInv ps news lf (L1 + 1) I a' ((rangeKs (-8) 24).foldl (cstep ps) ([], none))) ?_ ?_ _ _ _ ?_
  · intro m5 nx h5 tk5 hI F5 N5
    refine fold_Q ?_
    intro qF0
    refine fold_E ?_
    intro eF0
    refine fold_A ?_
    intro aF0
    refine fold_goal (fun gX gk => ?_)
    obtain ⟨cs5, st5, oc5, x5, vs5, n5, add5, bv5, e1, e2, e3, e4, e5, e6, e7, e8, e9, e10, e11, e12⟩ := hI
    have e1' : cs5 = [] := by simpa using e1.symm
    subst e1' e3
    have F6 := fr_look [(Str.ofString "found", .ref lf)] F5 (by simpa using e8)
    dsimp only [look] at F6
    clear F5
    refine gk ?_
    clear gk gX
    dsimp only
    walk_at "mine:steps"
    rename Fr _ _ _ _ => F7
    rename News _ _ _ _ => N7
    have e2' : st5 = (rangeKs (-8) 24).foldl (cstep ps) ([], none) := e2
    refine ret _ ((lf, listOf vs5.toArray n5) :: (L1 + 1, oc5) :: add5) _ _ F7 N7 ?_ ?_
    · intro q hq r hr
      rcases mem_cons_s hr with rfl | hr
      · exact tb_ltOf l2.2 q hq
      · rcases mem_cons_s hr with rfl | hr
        · exact Nat.lt_succ_of_lt (l1 q hq)
        · exact e6 q hq r hr
    · refine DatIn.list (.head _) (DatAll.mono (fun q hq => .tail _ (.tail _ hq)) ?_)
      rw [spansOf, ← e2']
      exact e5
  · intro it r m5 nx hI v5 h5 tk5 hit F5 oI hoI N5
    refine fold_Q ?_
    intro qF1
    refine fold_E ?_
    intro eF1
    refine fold_A ?_
    intro aF1
    refine fold_goal (fun gX gk => ?_)
    obtain ⟨cs5, st5, oc5, x5, vs5, n5, add5, bv5, e1, e2, e3, e4, e5, e6, e7, e8, e9, e10, e11, e12⟩ := hI
    subst e3
    cases cs5 with
    | nil => simp at e1
    | cons c cs5 =>
      simp only [List.map_cons, List.cons.injEq] at e1
      obtain ⟨rfl, rfl⟩ := e1
      obtain ⟨t5, rfl⟩ := hit
      have F6 := fr_look [(Str.ofString "found", .ref lf), (Str.ofString "pairs", .ref a'), (Str.ofString "begun", bv5)] F5 (by simp [e8, e9, e10])
      dsimp only [look] at F6
      clear F5
      have offc5 : ∀ q ∈ add5 ++ news, q.1 ≠ L1 + 1 := fun q hq => (List.mem_append.mp hq).elim (fun h => e7 q h _ (.tail _ (.head _))) (offc q)
      have offf5 : ∀ q ∈ add5 ++ news, q.1 ≠ lf := fun q hq => (List.mem_append.mp hq).elim (fun h => e7 q h _ (.head _)) (offf q)
      have N6 : News g1 L1 h5 ((I, oI) :: (lf, listOf vs5.toArray n5) :: (L1 + 1, oc5) :: (add5 ++ news)) := N5
      clear N5
      refine gk ?_
      clear gk gX
      dsimp only
      walk_at "mine:steps"
      rename_i h7 o7 F7 N7 d7
      refine comp_rule F7 (by with_unfolding_all rfl) (by decide) (by rfl) (by decide) ?_
      walk_at "mine:steps"
      refine comp_list rfl F7 N7 (.tail _ (.tail _ (.tail _ (List.mem_append_right _ hmv')))) rfl rfl ?_ (fun I8 h8' tk8 l8 => ?_)
      · rw [hda.length, List.length_map, sizeLine_eq]; omega
      · refine comp_ind (fun xs ys nx => Ex3 fun (rs fs : List (Int × Int)) (us : List Value) => An5 (xs = us.map .val) (DatAll kn us (rs.map pd)) (nx = (I, oI) :: (lf, listOf vs5.toArray n5) :: (L1 + 1, o7) :: (add5 ++ news)) (DatAll kn ys (fs.map pd)) (fs ++ rs.filter (covers c) = ps.filter (covers c))) ?_ ?_ _ _ _ ?_
        · intro ys nx hI0 D9 h9 tk9 F9 N9 o9
          refine fold_Q ?_
          intro qF2
          refine fold_E ?_
          intro eF2
          refine fold_A ?_
          intro aF2
          refine fold_goal (fun gX gk => ?_)
          obtain ⟨rs, fs, us, x1, x2, x3, x4, x5⟩ := hI0
          subst x3
          have x1' : us = [] := by simpa using x1.symm
          subst x1'
          have x2' : rs = [] := by
            have := x2.length
            simpa using this.symm
          subst x2'
          refine gk ?_
          clear gk gX
          walk_at "mine:steps"
          rename_i l10 h10 F10 N10 l10'
          refine kqd_ne N10 (.tail _ (.head _)) rfl rfl x4 (fun q hq => .tail _ (.tail _ (.tail _ (.tail _ (.tail _ (List.mem_append_right _ (hkn q hq))))))) (.head _) rfl rfl DatAll.nil (List.forall_mem_nil _) (pd_ok _) (List.forall_mem_nil _) ?_ ?_
          · ke_room
          · have hb := pd_any fs ps c (by simpa using x5)
            rw [hb]
            clear hb x5
            have N11 : News g1 L1 h10 ((I, oI) :: (lf, listOf vs5.toArray n5) :: (L1 + 1, o7) :: (add5 ++ news)) := fun q hq => N10 q (.tail _ (.tail _ hq))
            clear N10 l10'
            have hsz : vs5.length ≤ 24 := by
              have := e5.length
              rw [List.length_map] at this
              simp only [List.length_cons] at e12
              omega
            cases hst : st5.2 with
            | none =>
              have hbv : bv5 = .none := by simpa [OptIs, hst] using e11
              subst hbv
              cases hin : isIn ps c
              · walk_at "mine:steps"
                rename Fr _ _ _ _ => F12
                rename News _ _ _ _ => N12
                have hc : cstep ps st5 c = st5 := by rw [cstep, hin, hst]
                exact unr_mk _ _ _ ((lf, listOf vs5.toArray n5) :: (L1 + 1, o7) :: (add5 ++ news)) rfl F12 N12 (offI n5 vs5 o7 oI add5 e7) trivial ⟨cs5, st5, o7, _, vs5, n5, add5, .none, rfl, by rw [← e2, List.foldl_cons, hc], rfl, d7, e5, e6, e7, rfl, rfl, rfl, e11, by simp only [List.length_cons] at e12; omega⟩
              · walk_at "mine:steps"
                rename Fr _ _ _ _ => F12
                rename News _ _ _ _ => N12
                have hc : cstep ps st5 c = (st5.1, some c) := by rw [cstep, hin, hst]
                exact unr_mk _ _ _ ((lf, listOf vs5.toArray n5) :: (L1 + 1, o7) :: (add5 ++ news)) rfl F12 N12 (offI n5 vs5 o7 oI add5 e7) trivial ⟨cs5, (st5.1, some c), o7, _, vs5, n5, add5, .int c t5, rfl, by rw [← e2, List.foldl_cons, hc], rfl, d7, e5, e6, e7, rfl, rfl, rfl, ⟨_, rfl⟩, by show st5.1.length + cs5.length ≤ 24; simp only [List.length_cons] at e12; omega⟩
            | some b =>
              have hbv : ∃ t, bv5 = .int b t := by simpa [OptIs, hst] using e11
              refine fold_goal (fun gX gk => ?_)
              obtain ⟨tb, rfl⟩ := hbv
              refine gk ?_
              clear gk gX
              cases hin : isIn ps c
              · walk_at "mine:steps"
                rename_i lD hD' l13 _ _ F12 N12
                have hc : cstep ps st5 c = (st5.1 ++ [(b, c)], none) := by rw [cstep, hin, hst]
                rw [List.push_toArray] at N12
                refine fold_goal (fun gX gk => ?_)
                obtain ⟨p1, p2, p3, p4⟩ := l13
                have p5 := tb_ltOf p4
                have hadd : OwnOff ((lD, ({ cls := .type "tuple", data := .seq [Value.int b tb, Value.int c t5].toArray } : Obj)) :: add5) [lf, L1 + 1, I] := by
                  intro q hq r hr
                  rcases mem_cons_s hq with rfl | hq
                  · rcases mem_cons_s hr with rfl | hr
                    · exact (Nat.ne_of_lt p2).symm
                    · rcases mem_cons_s hr with rfl | hr
                      · exact (Nat.ne_of_lt p3).symm
                      · rw [List.mem_singleton.mp hr]; exact (Nat.ne_of_lt p1).symm
                  · exact e7 q hq r hr
                refine gk ?_
                clear gk gX
                refine unr_mk _ _ _ ((lf, listOf (vs5 ++ [Value.ref lD]).toArray (n5 + 1)) :: (L1 + 1, o7) :: ((lD, { cls := .type "tuple", data := .seq [Value.int b tb, Value.int c t5].toArray }) :: add5 ++ news)) rfl F12 ?_ (offI _ _ o7 oI _ hadd) trivial ⟨cs5, (st5.1 ++ [(b, c)], none), o7, _, vs5 ++ [Value.ref lD], n5 + 1, _, .none, rfl, by rw [← e2, List.foldl_cons, hc], rfl, d7, ?_, ?_, hadd, rfl, rfl, rfl, rfl, ?_⟩
                · intro q hq
                  refine N12 q ?_
                  (first | (refine sub_in hq ?_; walk_at "mine:in"; done) | (trace "GRINDBACK"; simp only [List.mem_cons, List.mem_append, List.nil_append, List.cons_append, List.not_mem_nil, or_false, false_or] at hq ⊢; grind only))
                · show DatAll _ (vs5 ++ [Value.ref lD]) ((st5.1 ++ [(b, c)]).map pd)
                  rw [List.map_append]
                  exact DatAll.append (DatAll.mono (fun q hq => .tail _ hq) e5) (DatAll.one (DatIn.tuple (n := 0) (.head _) (.cons (.int _ _) (.cons (.int _ _) .nil))))
                · intro q hq r hr
                  rcases mem_cons_s hr with rfl | hr
                  · exact p5 q (List.mem_append_right _ hq)
                  · exact e6 q hq r hr
                · show (st5.1 ++ [(b, c)]).length + cs5.length ≤ 24
                  simp only [List.length_cons, List.length_append, List.length_nil] at e12 ⊢
                  omega
              · walk_at "mine:steps"
                rename Fr _ _ _ _ => F12
                rename News _ _ _ _ => N12
                have hc : cstep ps st5 c = st5 := by rw [cstep, hin, hst]
                exact unr_mk _ _ _ ((lf, listOf vs5.toArray n5) :: (L1 + 1, o7) :: (add5 ++ news)) rfl F12 N12 (offI n5 vs5 o7 oI add5 e7) trivial ⟨cs5, st5, o7, _, vs5, n5, add5, .int b tb, rfl, by rw [← e2, List.foldl_cons, hc], rfl, d7, e5, e6, e7, rfl, rfl, rfl, e11, by simp only [List.length_cons] at e12; omega⟩
        · intro it r ys nx hI0 v9 C9 oC9 m9 D9 h9 tk9 E9 hv9 hoC9 F9 hCD oI9 hoI9 N9 o9 o9'
          refine fold_Q ?_
          intro qF3
          refine fold_E ?_
          intro eF3
          refine fold_A ?_
          intro aF3
          refine fold_goal (fun gX gk => ?_)
          obtain ⟨rs, fs, us, x1, x2, x3, x4, x5⟩ := hI0
          subst x3
          cases us with
          | nil => simp at x1
          | cons u us =>
            simp only [List.map_cons, List.cons.injEq] at x1
            obtain ⟨rfl, rfl⟩ := x1
            cases rs with
            | nil => cases x2
            | cons pr rs =>
              have hu9 : v9 = u := hv9
              subst hu9
              cases x2
              rename_i x2 x6
              have hD9 := x2
              cases x2
              rename_i t9 us9 n9 ht9 hd9
              cases hd9
              rename_i hd9 hd10
              cases hd9
              cases hd10
              rename_i hd9 hd10
              cases hd9
              cases hd10
              have ht9' := hkn _ ht9
              refine gk ?_
              clear gk gX
              refine comp_asg1 (pre := [(I8, oI9)]) (by rfl) (by rfl) hoC9 F9 N9 ?_ ?_ (fun oC10 m10 h10 tk10 hoC10 hm10 F10 N10 => ?_)
              · intro q hq
                exact (o9' q hq).1
              · intro q hq
                rcases mem_cons_s hq with rfl | hq
                · exact Ne.symm hCD
                · exact (o9 q hq).2.1
              refine wpAny_tests_one ?_
              walk_at "mine:steps"
              · have hc : covers c pr = true := by
                  simp only [covers, Bool.and_eq_true, decide_eq_true_eq]
                  omega
                refine ⟨_, _, _, _, _, rfl, F10, hoC10, N10, o9, ⟨.tail _ (.tail _ (.tail _ (List.mem_append_right _ hmv'))), trivial⟩, rs, fs ++ [pr], us, rfl, x6, rfl, ?_, ?_⟩
                · rw [List.map_append]
                  exact DatAll.append x4 (DatAll.one hD9)
                · rw [List.append_assoc, List.singleton_append, ← x5, List.filter_cons_of_pos hc]
              · have hc : ¬ covers c pr = true := by
                  simp only [covers, Bool.and_eq_true, decide_eq_true_eq]
                  omega
                exact ⟨_, _, _, _, _, rfl, F10, hoC10, N10, o9, ⟨.tail _ (.tail _ (.tail _ (List.mem_append_right _ hmv'))), trivial⟩, rs, fs, us, rfl, x6, rfl, x4, by rw [← x5, List.filter_cons_of_neg hc]⟩
              · have hc : ¬ covers c pr = true := by
                  simp only [covers, Bool.and_eq_true, decide_eq_true_eq]
                  omega
                exact ⟨_, _, _, _, _, rfl, F10, hoC10, N10, o9, ⟨.tail _ (.tail _ (.tail _ (List.mem_append_right _ hmv'))), trivial⟩, rs, fs, us, rfl, x6, rfl, x4, by rw [← x5, List.filter_cons_of_neg hc]⟩
        · exact ⟨ps, [], vs', rfl, hda, rfl, .nil, rfl⟩
  · refine ⟨rangeKs (-8) 24, ([], none), o1, _, [], 0, [], .none, rfl, rfl, rfl, d1, .nil, fun _ _ _ h => (nomatch h), (fun _ h => nomatch h), rfl, rfl, rfl, rfl, by decide⟩
end
end
section
theorem reset_PSort : True := by
  w_top off
  trivial
local macro_rules | `(tactic| walk_at "mine:none") => `(tactic| skip)
section
theorem dat_int {kn : List (Addr × Obj)} {v : Value} {k : Int} (h : DatIn kn v (.int k)) : Ex1 fun (t : Tok) => v = .int k t := by
  cases h
  exact ⟨_, rfl⟩
theorem dat_tuple {kn : List (Addr × Obj)} {v : Value} {ds : List Dat} (h : DatIn kn v (.tuple ds)) : Ex3 fun (t : Addr) (vs : List Value) (n : Nat) => An3 (v = .ref t) ((t, ({ cls := .type "tuple", data := .seq vs.toArray n } : Obj)) ∈ kn) (DatAll kn vs ds) := by
  cases h
  rename_i t us n ht hd
  exact ⟨_, _, _, rfl, ht, hd⟩
theorem dat_all_cons {kn : List (Addr × Obj)} {vs : List Value} {d : Dat} {ds : List Dat} (h : DatAll kn vs (d :: ds)) : Ex2 fun (v : Value) (us : List Value) => An3 (vs = v :: us) (DatIn kn v d) (DatAll kn us ds) := by
  cases h
  rename_i h1 h2
  exact ⟨_, _, rfl, h1, h2⟩
theorem dat_all_nil {kn : List (Addr × Obj)} {vs : List Value} (h : DatAll kn vs []) : vs = [] := by
  cases h
  rfl
theorem dat_pair {kn : List (Addr × Obj)} {v : Value} {q : Int × Int} (h : DatIn kn v (pd q)) : Ex4 fun (t : Addr) (ta tb : Tok) (n : Nat) => An2 (v = .ref t) ((t, ({ cls := .type "tuple", data := .seq [Value.int q.1 ta, Value.int q.2 tb].toArray n } : Obj)) ∈ kn) := by
  obtain ⟨t, vs, n, rfl, ht, a0⟩ := dat_tuple h
  obtain ⟨v1, vs1, e1, h1, a1⟩ := dat_all_cons a0
  obtain ⟨v2, vs2, e2, h2, a2⟩ := dat_all_cons a1
  have e9 := dat_all_nil a2
  subst e9 e2 e1
  obtain ⟨t1, rfl⟩ := dat_int h1
  obtain ⟨t2, rfl⟩ := dat_int h2
  exact ⟨_, _, _, _, rfl, ht⟩
theorem dat_list {kn : List (Addr × Obj)} {v : Value} {ds : List Dat} (h : DatIn kn v (.list ds)) : Ex3 fun (t : Addr) (vs : List Value) (n : Nat) => An3 (v = .ref t) ((t, listOf vs.toArray n) ∈ kn) (DatAll kn vs ds) := by
  cases h
  rename_i t us n ht hd
  exact ⟨_, _, _, rfl, ht, hd⟩
theorem dat_cons {kn : List (Addr × Obj)} {vs : List Value} {v : Value} {ds : List Dat} (h : DatAll kn (v :: vs) ds) : ∃ d ds', ds = d :: ds' ∧ DatIn kn v d ∧ DatAll kn vs ds' := by
  cases h
  rename_i h1 h2
  exact ⟨_, _, rfl, h1, h2⟩
end
section
variable {prog : Program} {w : World} {A : Around} {E : Value → Shared → Prop} {s : Shared} {h₀ : Heap} {L : Addr} {m : Str → Option Value} {news : List (Addr × Obj)}
theorem zip_short (vs : List Value) (h2 : vs.length < 2) : (vs.toArray.zip vs.toArray).map (·.2) = vs.toArray := by
  apply Array.toList_inj.mp
  rcases vs with _ | ⟨v, us⟩
  · simp
  · rcases us with _ | ⟨u, us⟩
    · simp
    · exact absurd h2 (Nat.not_lt.mpr (Nat.le_add_left 2 us.length))
/-- a list of fewer than two items is sorted as it lies -/
theorem sort_short {a : Addr} {vs : List Value} {n : Nat} {P : PySem.Fin → Shared → Prop} (ho : s.heap.get? a = some (seqObj "list" vs.toArray n)) (h2 : vs.length < 2)
    (h : P (.done (.ret .none)) { s with heap := sortedHeap s.heap a vs vs.toArray }) : wpAny (model prog w) A (Builtin.«list.sort» ⟨[.ref a], []⟩) P E s := by
  rw [list_sort_plain]
  have ha : a < s.heap.objs.size := Heap.lt_size ho
  refine wpAny_bind (listItems_at ho rfl ?_)
  refine wpAny_bind (listUpdate_at ho rfl ?_ (by rw [List.size_toArray, sizeLine_eq]; omega) (Nat.zero_le _))
  obtain ⟨e1, ho1⟩ : ∃ e1, (s.heap.update a (Obj.mapSeq fun _ => #[])).get? a = some (seqObj "list" #[] e1) := ⟨_, get?_update_seq ho (fun _ => #[])⟩
  refine wpAny_bind (seqEpoch_at ho1 rfl ?_)
  refine wpAny_bind (wpAny_newTuple ?_ (by show vs.length ≤ _; rw [sizeLine_eq]; omega))
  refine wpAny_bind (wpAny_newList ?_ (Nat.zero_le _))
  refine wpAny_holding ?_
  have ho6 : (((s.heap.update a (Obj.mapSeq fun _ => #[])).push (seqObj "tuple" vs.toArray 0)).push (seqObj "list" #[] 0)).get? a = some (seqObj "list" #[] e1) := by
    rw [Heap.get?_push_ne _ _ _ (by rw [size_push', Heap.size_update]; exact Nat.ne_of_lt (Nat.lt_succ_of_lt ha)), Heap.get?_push_ne _ _ _ (by rw [Heap.size_update]; exact Nat.ne_of_lt ha)]
    exact ho1
  show wpAny (model prog w) A _ P E { s with heap := ((s.heap.update a (Obj.mapSeq fun _ => #[])).push (seqObj "tuple" vs.toArray 0)).push (seqObj "list" #[] 0) }
  dsimp only
  have hz : vs.toArray.size < 2 := by rw [List.size_toArray]; exact h2
  rw [if_pos hz, if_pos hz]
  refine wpAny_bind (wpAny_pure ?_)
  rw [StateT.run_pure]
  refine wpAny_bind (wpAny_pure ?_)
  dsimp only
  have hout := zip_short vs h2
  refine wpAny_bind (seqEpoch_at ho6 rfl ?_)
  show wpAny (model prog w) A _ P E { s with heap := ((s.heap.update a (Obj.mapSeq fun _ => #[])).push (seqObj "tuple" vs.toArray 0)).push (seqObj "list" #[] 0) }
  have hout' : (arrOf (SortSt.mk' general' (vs.toArray.zip vs.toArray) #[] 7 none)).map (·.2) = vs.toArray := hout
  rw [hout']
  refine wpAny_bind (listUpdate_at ho6 rfl ?_ (Nat.zero_le _) (by rw [List.size_toArray, sizeLine_eq]; omega))
  simp only [bne_self_eq_false, Bool.false_eq_true, if_false]
  exact wpAny_pure h
theorem sorted_short {l : Addr} {vs : List Value} {Q : Value → Shared → Prop} (F : Fr h₀ L s.heap m) (N : News h₀ L s.heap news) (hl : s.heap.IsList l vs.toArray) (h2 : vs.length < 2)
    (h : ∀ D h' e, Fr h₀ L h' m → News h₀ L h' ((D, seqObj "list" vs.toArray e) :: news) → (∀ q ∈ news, q.1 < D) → Q (.ref D) { s with heap := h' }) :
    wpAny (model prog w) A (call (.builtin "sorted") [.ref l]) Q E s := by
  refine Calls.call_function_entry kind_sorted plain_sorted entry_sorted (args_sorted1 _) ?_
  unfold Builtin.«sorted»
  refine wpAny_bind (m := checkCount "sorted" 1 1 _) (wpAny_pure ?_)
  refine wpAny_bind (collect_list hl ?_ (by rw [sizeLine_eq]; omega))
  refine wpAny_bind (wpAny_newList ?_ (by rw [sizeLine_eq]; omega))
  have hsz : ((s.heap.push (seqObj "list" #[] 0)).update s.heap.objs.size (Obj.mapSeq (· ++ vs.toArray))).objs.size = s.heap.objs.size + 1 := by
    rw [Heap.size_update, size_push']
  have hoL : (((s.heap.push (seqObj "list" #[] 0)).update s.heap.objs.size (Obj.mapSeq (· ++ vs.toArray))).push (seqObj "list" vs.toArray 0)).get? (s.heap.objs.size + 1) = some (seqObj "list" vs.toArray 0) := by
    rw [← hsz]; exact Heap.get?_push_size _ rfl
  show wpAny _ _ _ _ _ { s with heap := ((s.heap.push (seqObj "list" #[] 0)).update s.heap.objs.size (Obj.mapSeq (· ++ vs.toArray))).push (seqObj "list" vs.toArray 0) }
  rw [hsz]
  refine wpAny_bind (wpAny_holding (wpAny_call_entry slot_list_sort ⟨_, hoL, rfl⟩ entry_list_sort (sort_short hoL h2 ⟨_, rfl, ?_⟩) (args_list_sort _)))
  obtain ⟨e, he⟩ := sortedAll_at s.heap vs vs.toArray
  exact wpAny_pure ⟨_, rfl, h _ _ e (F.kept fun _ _ => sortedAll_old) (N.kept_cons F (fun _ _ => sortedAll_old) (Nat.le_succ _) he) fun q hq => Nat.lt_succ_of_lt (Heap.lt_size (N q hq).1)⟩

/-- what was told leads from x to y: x's key is at most y's -/
def reach (fs : List (Nat × Nat × Bool)) : Nat → Nat → Nat → Bool
  | 0, x, y => x == y
  | f + 1, x, y => x == y || fs.any fun q => if q.2.2 then q.1 == x && reach fs f q.2.1 y else q.2.1 == x && reach fs f q.1 y
theorem reach_le {key : Nat → Int} {fs : List (Nat × Nat × Bool)} (hf : ∀ q ∈ fs, decide (key q.1 < key q.2.1) = q.2.2) : ∀ (f x y : Nat), reach fs f x y = true → key x ≤ key y
  | 0, x, y, h => by
    have e : x = y := by simpa [reach] using h
    rw [e]; exact Int.le_refl _
  | f + 1, x, y, h => by
    rw [reach, Bool.or_eq_true] at h
    rcases h with h | h
    · have e : x = y := by simpa using h
      rw [e]; exact Int.le_refl _
    · obtain ⟨q, hq, h⟩ := List.any_eq_true.mp h
      have hk := hf q hq
      cases hb : q.2.2 with
      | true =>
        rw [hb, if_pos rfl, Bool.and_eq_true] at h
        have e : q.1 = x := by simpa using h.1
        have := reach_le hf f _ _ h.2
        rw [hb, decide_eq_true_eq, e] at hk
        omega
      | false =>
        rw [hb, if_neg (by decide), Bool.and_eq_true] at h
        have e : q.2.1 = x := by simpa using h.1
        have := reach_le hf f _ _ h.2
        rw [hb, decide_eq_false_iff_not, e] at hk
        omega
/-- what was told says that x's key is below y's -/
def below (fs : List (Nat × Nat × Bool)) (n x y : Nat) : Bool := fs.any fun q => q.2.2 && reach fs n x q.1 && reach fs n q.2.1 y
theorem below_lt {key : Nat → Int} {fs : List (Nat × Nat × Bool)} (hf : ∀ q ∈ fs, decide (key q.1 < key q.2.1) = q.2.2) {n x y : Nat} (h : below fs n x y = true) : key x < key y := by
  obtain ⟨q, hq, h⟩ := List.any_eq_true.mp h
  rw [Bool.and_eq_true, Bool.and_eq_true] at h
  have h1 := reach_le hf _ _ _ h.1.2
  have h2 := reach_le hf _ _ _ h.2
  have hk := hf q hq
  rw [h.1.1, decide_eq_true_eq] at hk
  omega
/-- a decision tree with what was told: is every leaf a sorted order -/
def treeOk (n : Nat) : KasT (Array Nat) → List (Nat × Nat × Bool) → Bool
  | .ret p, fs => p.toList.isPerm (List.range n) && (p.toList.zip (p.toList.drop 1)).all fun q => reach fs n q.1 q.2
  | .ask i j k, fs => decide (i < n) && decide (j < n) && (reach fs n j i || treeOk n (k true) ((i, j, true) :: fs)) && (below fs n i j || treeOk n (k false) ((i, j, false) :: fs))
theorem adj_sorted (key : Nat → Int) : ∀ l : List Nat, (∀ q ∈ l.zip (l.drop 1), key q.1 ≤ key q.2) → l.Pairwise (fun i j => key i ≤ key j)
  | [], _ => .nil
  | [_], _ => by simp
  | a :: b :: r, h => by
    have hr := adj_sorted key (b :: r) fun q hq => h q (by simpa using Or.inr (by simpa using hq))
    have hab : key a ≤ key b := h (a, b) (by simp)
    refine List.pairwise_cons.mpr ⟨fun x hx => ?_, hr⟩
    rcases mem_cons_s hx with rfl | hx
    · exact hab
    · exact Int.le_trans hab ((List.pairwise_cons.mp hr).1 x hx)
theorem tree_sorts {n : Nat} (key : Nat → Int) {cmp : Nat → Nat → (Bool → Shared → Prop) → Shared → Prop} {G : Array Nat → Shared → Prop} {s : Shared}
    (hc : ∀ i j C, i < n → j < n → C (decide (key i < key j)) s → cmp i j C s) (hG : ∀ p : Array Nat, p.toList.Perm (List.range n) → p.toList.Pairwise (fun i j => key i ≤ key j) → G p s) :
    ∀ (t : KasT (Array Nat)) (fs : List (Nat × Nat × Bool)), (∀ q ∈ fs, decide (key q.1 < key q.2.1) = q.2.2) → treeOk n t fs = true → t.kasWp cmp G s
  | .ret p, fs, hf, h => by
    rw [treeOk, Bool.and_eq_true] at h
    exact hG p (List.isPerm_iff.mp h.1) (adj_sorted key _ fun q hq => reach_le hf _ _ _ (List.all_eq_true.mp h.2 q hq))
  | .ask i j k, fs, hf, h => by
    rw [treeOk, Bool.and_eq_true, Bool.and_eq_true, Bool.and_eq_true, Bool.or_eq_true, Bool.or_eq_true] at h
    refine hc i j _ (of_decide_eq_true h.1.1.1) (of_decide_eq_true h.1.1.2) ?_
    have step : ∀ b, decide (key i < key j) = b → treeOk n (k b) ((i, j, b) :: fs) = true → (k b).kasWp cmp G s := fun b hb ht =>
      tree_sorts key hc hG (k b) _ (fun q hq => by
        rcases mem_cons_s hq with rfl | hq
        · exact hb
        · exact hf q hq) ht
    cases hb : decide (key i < key j) with
    | true =>
      rcases h.1.2 with h3 | h3
      · have := reach_le hf _ _ _ h3
        rw [decide_eq_true_eq] at hb
        omega
      · exact step true hb h3
    | false =>
      rcases h.2 with h3 | h3
      · have := below_lt hf h3
        rw [decide_eq_false_iff_not] at hb
        omega
      · exact step false hb h3
theorem treeOk2 : treeOk 2 (kas_sort 2) [] = true := by decide +kernel
theorem treeOk3 : treeOk 3 (kas_sort 3) [] = true := by decide +kernel
theorem treeOk4 : treeOk 4 (kas_sort 4) [] = true := by decide +kernel
/-- a pair's place in the order -/
def pkey (q : Int × Int) : Int := q.1 * 64 + q.2
/-- bounds within which pkey is the order of pairs -/
def pbd (q : Int × Int) : Prop := -16 ≤ q.2 ∧ q.2 < 32
def qAt (qs : List (Int × Int)) (i : Nat) : Int × Int := qs.getD i (0, 0)
theorem dat_getD {kn : List (Addr × Obj)} {vs : List Value} {qs : List (Int × Int)} (h : DatAll kn vs (qs.map pd)) {i : Nat} (hi : i < vs.length) : DatIn kn (vs.getD i Value.none) (pd (qAt qs i)) := by
  have hl := h.length
  rw [List.length_map] at hl
  obtain ⟨v, hv, hd⟩ := h.get (k := i) (by rw [List.length_map]; omega)
  have e1 : vs.getD i Value.none = v := by rw [List.getD_eq_getElem?_getD, hv]; rfl
  have e2 : (qs.map pd)[i]'(by rw [List.length_map]; omega) = pd (qAt qs i) := by
    rw [List.getElem_map]
    congr 1
    rw [qAt, List.getD_eq_getElem?_getD, List.getElem?_eq_getElem (by omega)]
    rfl
  rw [e1, ← e2]
  exact hd
theorem ask_pairs {kn : List (Addr × Obj)} {vs : List Value} {qs : List (Int × Int)} (N : News h₀ L s.heap news) (hkn : ∀ q ∈ kn, q ∈ news) (hd : DatAll kn vs (qs.map pd)) (hb : ∀ q ∈ qs, pbd q)
    (i j : Nat) (C : Bool → Shared → Prop) (hi : i < vs.length) (hj : j < vs.length) (h : C (decide (pkey (qAt qs i) < pkey (qAt qs j))) s) : kas_ask prog w A (tuples' true) vs i j C s := by
  have hl := hd.length
  rw [List.length_map] at hl
  have mem : ∀ k, k < vs.length → qAt qs k ∈ qs := fun k hk => by
    rw [qAt, List.getD_eq_getElem?_getD, List.getElem?_eq_getElem (by omega)]
    exact List.getElem_mem _
  obtain ⟨x, ta, tb, n, ex, hx⟩ := dat_pair (dat_getD hd hi)
  obtain ⟨y, tc, te, k, ey, hy⟩ := dat_pair (dat_getD hd hj)
  have b1 := hb _ (mem i hi)
  have b2 := hb _ (mem j hj)
  rw [kas_ask, ex, ey]
  refine kat_lt (N _ (hkn _ hx)).1 rfl (N _ (hkn _ hy)).1 rfl ?_
  show KatLex prog w A true false C [(Value.int (qAt qs i).1 ta, Value.int (qAt qs j).1 tc), (Value.int (qAt qs i).2 tb, Value.int (qAt qs j).2 te)] 0 s
  unfold pbd at b1 b2
  unfold pkey at h
  refine kat_cons (wpAny_eqBool_int ?_)
  refine kat_go (fun e1 => ?_) fun e1 => ?_
  · have e1' : (qAt qs i).1 = (qAt qs j).1 := by simpa using e1
    refine kat_yes (kat_cons (wpAny_eqBool_int ?_))
    refine kat_go (fun e2 => ?_) fun e2 => ?_
    · have e2' : (qAt qs i).2 = (qAt qs j).2 := by simpa using e2
      refine kat_yes (kat_nil ?_)
      rw [show decide ((qAt qs i).1 * 64 + (qAt qs i).2 < (qAt qs j).1 * 64 + (qAt qs j).2) = false from decide_eq_false (by omega)] at h
      exact h
    · have e2' : (qAt qs i).2 ≠ (qAt qs j).2 := by simpa using e2
      refine kat_no ?_
      rw [show decide ((qAt qs i).1 * 64 + (qAt qs i).2 < (qAt qs j).1 * 64 + (qAt qs j).2) = decide ((qAt qs i).2 < (qAt qs j).2) from decide_eq_decide.mpr (by omega)] at h
      show wpAny (model prog w) A (oneLt' false _ _) C _ s
      exact kat_one _ _ (lt_int h)
  · have e1' : (qAt qs i).1 ≠ (qAt qs j).1 := by simpa using e1
    refine kat_no ?_
    rw [show decide ((qAt qs i).1 * 64 + (qAt qs i).2 < (qAt qs j).1 * 64 + (qAt qs j).2) = decide ((qAt qs i).1 < (qAt qs j).1) from decide_eq_decide.mpr (by omega)] at h
    exact oneLt_int h
theorem first_tups {kn : List (Addr × Obj)} (N : News h₀ L s.heap news) (hkn : ∀ q ∈ kn, q ∈ news) : ∀ {vs : List Value} {qs : List (Int × Int)}, DatAll kn vs (qs.map pd) →
    ∃ fs : List Value, KatTups s.heap vs fs ∧ fs.length = vs.length ∧ ∀ v ∈ fs, ∃ k t, v = Value.int k t
  | [], qs, _ => ⟨[], KatTups.nil, rfl, fun _ h => nomatch h⟩
  | v :: vs, [], h => by cases h
  | v :: vs, q :: qs, h => by
    cases h
    rename_i h1 h2
    obtain ⟨fs, a1, a2, a3⟩ := first_tups N hkn h2
    obtain ⟨t, ta, tb, n, rfl, ht⟩ := dat_pair h1
    refine ⟨Value.int q.1 ta :: fs, KatTups.cons (N _ (hkn _ ht)).1 rfl rfl rfl a1, by simp [a2], fun v hv => ?_⟩
    rcases mem_cons_s hv with rfl | hv
    · exact ⟨_, _, rfl⟩
    · exact a3 v hv
theorem perm_out {α β : Type} {f : Nat → α} {n : Nat} {p : List Nat} (h : p.Perm (List.range n)) {l : List α} (hl : l.length = n) (d : α) (hf : ∀ i, i < n → f i = l.getD i d) : (p.map f).Perm l := by
  refine (h.map f).trans (List.Perm.of_eq ?_)
  apply List.ext_getElem
  · simp [hl]
  · intro i h1 h2
    have hi : i < n := by simpa using h1
    rw [List.getElem_map, List.getElem_range, hf i hi, List.getD_eq_getElem?_getD, List.getElem?_eq_getElem h2]
    rfl
theorem sorted_pairs {kn : List (Addr × Obj)} {l : Addr} {vs : List Value} {qs : List (Int × Int)} {Q : Value → Shared → Prop} (F : Fr h₀ L s.heap m) (N : News h₀ L s.heap news) (hkn : ∀ q ∈ kn, q ∈ news) (hl : s.heap.IsList l vs.toArray) (hd : DatAll kn vs (qs.map pd)) (hb : ∀ q ∈ qs, pbd q) (h4 : qs.length ≤ 4)
    (h : ∀ D h' e vs' (qs' : List (Int × Int)), Fr h₀ L h' m → News h₀ L h' ((D, listOf vs'.toArray e) :: news) → (∀ q ∈ news, q.1 < D) → DatAll kn vs' (qs'.map pd) → qs'.Perm qs → qs'.Pairwise (fun a b => a.1 ≤ b.1) → Q (.ref D) { s with heap := h' }) :
    wpAny (model prog w) A (call (.builtin "sorted") [.ref l]) Q E s := by
  have hlen := hd.length
  rw [List.length_map] at hlen
  by_cases h2 : vs.length < 2
  · refine sorted_short F N hl h2 fun D h' e F' N' lt => h D h' e vs qs F' N' lt hd (List.Perm.refl _) ?_
    match qs, hlen with
    | [], _ => exact .nil
    | [q], _ => exact List.pairwise_singleton _ _
    | _ :: _ :: _, hl' => simp at hl'; omega
  · refine kat_sorted F N hl (by omega) (by omega) fun D e1 h' F' N' lt => ?_
    obtain ⟨fs, a1, a2, a3⟩ := first_tups (s := { s with heap := h' }) (news := (D, seqObj "list" #[] e1) :: news) N' (fun q hq => .tail _ (hkn q hq)) hd
    refine kat_kind (T := .type "int") a1 (by omega) (fun v hv => ?_) (by rfl) ?_
    · obtain ⟨k, t, rfl⟩ := a3 v hv
      exact Looks.of_pure rfl
    · have ask := fun i j C hi hj hC => ask_pairs (prog := prog) (w := w) (A := A.in1.in1) (s := { s with heap := h' }) (news := (D, seqObj "list" #[] e1) :: news) N' (fun q hq => .tail _ (hkn q hq)) hd hb i j C hi hj hC
      have fin : ∀ p : Array Nat, p.toList.Perm (List.range vs.length) → p.toList.Pairwise (fun i j => pkey (qAt qs i) ≤ pkey (qAt qs j)) → KasFin h₀ L m D e1 (p.toList.map fun i => vs.getD i Value.none) (fun s3 => Q (.ref D) s3) { s with heap := h' } := by
        intro p hp hs
        refine KasFin.intro F' N' (UpdF.head fun q hq => Nat.ne_of_lt (lt q hq)) fun h'' c F'' N'' => ?_
        have hin : ∀ i ∈ p.toList, i < vs.length := fun i hi => List.mem_range.mp (hp.mem_iff.mp hi)
        have memq : ∀ i ∈ p.toList, qAt qs i ∈ qs := fun i hi => by
          have := hin i hi
          rw [qAt, List.getD_eq_getElem?_getD, List.getElem?_eq_getElem (by omega)]
          exact List.getElem_mem _
        refine h D h'' c _ (p.toList.map (qAt qs)) F'' N'' lt ?_ (perm_out (β := Nat) (n := vs.length) hp hlen.symm (0, 0) fun i _ => rfl) ?_
        · have all : ∀ r : List Nat, (∀ i ∈ r, i < vs.length) → DatAll kn (r.map fun i => vs.getD i Value.none) ((r.map (qAt qs)).map pd) := by
            intro r
            induction r with
            | nil => intro _; exact .nil
            | cons i r ih => intro hr; exact .cons (dat_getD hd (hr i (.head _))) (ih fun j hj => hr j (.tail _ hj))
          exact all _ hin
        · rw [List.pairwise_map]
          refine hs.imp_of_mem fun {i j} hi hj hij => ?_
          have b1 := hb _ (memq i hi)
          have b2 := hb _ (memq j hj)
          unfold pbd at b1 b2
          unfold pkey at hij
          omega
      have tr : treeOk vs.length (kas_sort vs.length) [] = true := by
        have : vs.length = 2 ∨ vs.length = 3 ∨ vs.length = 4 := by omega
        rcases this with e | e | e <;> rw [e]
        · exact treeOk2
        · exact treeOk3
        · exact treeOk4
      exact tree_sorts (fun i => pkey (qAt qs i)) ask fin _ [] (fun _ h => (List.not_mem_nil h).elim) tr
end
end
section
theorem reset_PLen : True := by
  w_top off
  trivial
section
variable {prog : Program} {w : World} {p : Program} {loose : List Str} {mean : ExcName → Option Value} {mg mb : Str → Option Value}
inductive LenInv (kn news : List (Addr × Obj)) (total : Int) (xs : List Itm) (m : Str → Option Value) (nx : List (Addr × Obj)) : Prop
  | mk (ps : List (Int × Int)) (us : List Value) (k : Int) (t : Tok) (ih0 : xs = us.map .val) (ih1 : DatAll kn us (ps.map pd)) (ih2 : nx = news) (ih3 : m (Str.ofString "total") = some (.int k t)) (ih4 : k + lenOf ps = total) : LenInv kn news total xs m nx
theorem length_c {dp un : Nat} {gd : Option (List Code)} {cn : Str} {cs : Scope} {a : Addr} {ccd : Value} {cl : List (Str × Addr)} {outer : List Env} {A₀ : Around} {base h₀ : Heap} {L : Addr} {m : Str → Option Value} {s : Shared}
    {Q E : Value → Shared → Prop} {v : Value} {ps : List (Int × Int)} {kn news : List (Addr × Obj)}
    (B : Below A₀ base outer h₀) (F : Fr h₀ L s.heap m) (X : (hd.heap_1 w.params).In h₀) (N : News h₀ L s.heap news) (hkn : ∀ p ∈ kn, p ∈ news)
    (T : Top p loose mean mg mb h₀) (hk : cs.kind = .function) (hd : dp + 1 < recursionLimit) (hu : un + 100 < cLine) (hv : DatIn kn v (.list (ps.map pd)))
    (ret : ∀ t h' tk', Fr h₀ L h' m → News h₀ L h' news → Q (.int (lenOf ps) t) {s with heap := h', toks := tk'}) :
    wpAny (model prog w) (ktrTop dp un gd cn cs L a ccd cl outer) (call (.ref 40) [v]) Q E s := by
  refine wpAny_call ?_
  refine fold_goal (fun gX gk => ?_)
  obtain ⟨l, vs, n, rfl, hl, hd⟩ := dat_list hv
  have hl' := hkn _ hl
  refine gk ?_
  clear gk gX
  k_dflt (walk_at "mine:enter")
  rename_i g1 L1 h1 FG1 F1 N1 B1 X1 T1
  walk_at "mine:steps"
  rename Fr _ _ _ (fun y => _) => F2
  refine For_turns F2 ?_
  walk_at "mine:steps"
  rename News g1 _ _ _ => N2
  refine for_list news rfl F2 N2 (fun q hq => hq) hl' rfl rfl (fun I l4 => ?_)
  refine items_ind (LenInv kn news (lenOf ps)) ?_ ?_ _ _ _ ?_
  · intro m5 nx h5 tk5 hI F5 N5
    refine fold_Q ?_
    intro qF0
    refine fold_E ?_
    intro eF0
    refine fold_A ?_
    intro aF0
    refine fold_goal (fun gX gk => ?_)
    obtain ⟨ps5, us5, k5, t5, e1, e2, e3, e4, e5⟩ := hI
    subst e3
    have e1' : us5 = [] := by simpa using e1.symm
    subst e1'
    have e2' : ps5 = [] := by simpa using e2.length.symm
    subst e2'
    have F6 := fr_look [(Str.ofString "total", .int k5 t5)] F5 (by simpa using e4)
    dsimp only [look] at F6
    clear F5
    refine gk ?_
    clear gk gX
    dsimp only
    walk_at "mine:steps"
    rename Fr _ _ _ _ => F7
    rename News _ _ _ _ => N7
    have e5' : k5 = lenOf ps := by simpa [lenOf] using e5
    rw [← e5'] at ret
    exact ret _ _ _ F7 N7
  · intro it r m5 nx hI v5 h5 tk5 hit F5 oI hoI N5
    refine fold_Q ?_
    intro qF1
    refine fold_E ?_
    intro eF1
    refine fold_A ?_
    intro aF1
    refine fold_goal (fun gX gk => ?_)
    obtain ⟨ps5, us5, k5, t5, e1, e2, e3, e4, e5⟩ := hI
    subst e3
    cases us5 with
    | nil => simp at e1
    | cons u us5 =>
      simp only [List.map_cons, List.cons.injEq] at e1
      obtain ⟨rfl, rfl⟩ := e1
      have hu5 : v5 = u := hit
      subst hu5
      cases ps5 with
      | nil => cases e2
      | cons q ps5 =>
        cases e2
        rename_i e2 e6
        obtain ⟨t, ta, tb, n9, rfl, ht⟩ := dat_pair e2
        have ht' := hkn _ ht
        have F6 := fr_look [(Str.ofString "total", .int k5 t5)] F5 (by simpa using e4)
        dsimp only [look] at F6
        clear F5
        have N6 : News g1 L1 h5 ((I, oI) :: nx) := N5
        clear N5
        refine gk ?_
        clear gk gX
        dsimp only
        walk_at "mine:steps"
        rename Fr g1 _ _ _ => F9
        rename News g1 _ _ _ => N9
        refine unr_mk _ _ _ nx rfl F9 N9 ?_ (⟨hl', trivial⟩) ⟨ps5, us5, k5 + (q.2 - q.1), _, rfl, e6, rfl, rfl, ?_⟩
        · intro q hq r hr
          rw [List.mem_singleton.mp hr]
          exact Nat.ne_of_lt (l4 q hq)
        · rw [← e5, lenOf, lenOf, List.map_cons, List.sum_cons]
          omega
  · exact ⟨ps, vs, 0, _, rfl, hd, rfl, rfl, by simp⟩
inductive NormInv (kn news : List (Addr × Obj)) (total : Bool) (xs : List Itm) (m : Str → Option Value) (nx : List (Addr × Obj)) : Prop
  | mk (ps : List (Int × Int)) (us : List Value) (av : Value) (o : Option Int) (ih0 : xs = us.map .val) (ih1 : DatAll kn us (ps.map pd)) (ih2 : nx = news) (ih3 : m (Str.ofString "ahead") = some av) (ih4 : OptIs av o) (ih5 : normFrom o ps = total) : NormInv kn news total xs m nx
theorem isnormal_c {dp un : Nat} {gd : Option (List Code)} {cn : Str} {cs : Scope} {a : Addr} {ccd : Value} {cl : List (Str × Addr)} {outer : List Env} {A₀ : Around} {base h₀ : Heap} {L : Addr} {m : Str → Option Value} {s : Shared}
    {Q E : Value → Shared → Prop} {v : Value} {ps : List (Int × Int)} {kn news : List (Addr × Obj)}
    (B : Below A₀ base outer h₀) (F : Fr h₀ L s.heap m) (X : (hd.heap_1 w.params).In h₀) (N : News h₀ L s.heap news) (hkn : ∀ p ∈ kn, p ∈ news)
    (T : Top p loose mean mg mb h₀) (hk : cs.kind = .function) (hd : dp + 1 < recursionLimit) (hu : un + 100 < cLine) (hv : DatIn kn v (.list (ps.map pd)))
    (ret : ∀ h' tk', Fr h₀ L h' m → News h₀ L h' news → Q (.bool (normFrom none ps)) {s with heap := h', toks := tk'}) :
    wpAny (model prog w) (ktrTop dp un gd cn cs L a ccd cl outer) (call (.ref 28) [v]) Q E s := by
  refine wpAny_call ?_
  refine fold_goal (fun gX gk => ?_)
  obtain ⟨l, vs, n, rfl, hl, hd⟩ := dat_list hv
  have hl' := hkn _ hl
  refine gk ?_
  clear gk gX
  k_dflt (walk_at "mine:enter")
  rename_i g1 L1 h1 FG1 F1 N1 B1 X1 T1
  walk_at "mine:steps"
  rename Fr _ _ _ (fun y => _) => F2
  refine For_turns F2 ?_
  walk_at "mine:steps"
  rename News g1 _ _ _ => N2
  refine for_list news rfl F2 N2 (fun q hq => hq) hl' rfl rfl (fun I l4 => ?_)
  refine items_ind (NormInv kn news (normFrom none ps)) ?_ ?_ _ _ _ ?_
  · intro m5 nx h5 tk5 hI F5 N5
    refine fold_Q ?_
    intro qF2
    refine fold_E ?_
    intro eF2
    refine fold_A ?_
    intro aF2
    refine fold_goal (fun gX gk => ?_)
    obtain ⟨ps5, us5, av, o, e1, e2, e3, e4, e5, e6⟩ := hI
    subst e3
    have e1' : us5 = [] := by simpa using e1.symm
    subst e1'
    have e2' : ps5 = [] := by simpa using e2.length.symm
    subst e2'
    refine gk ?_
    clear gk gX
    dsimp only
    walk_at "mine:steps"
    rename Fr _ _ _ _ => F7
    rename News _ _ _ _ => N7
    rw [← e6] at ret
    exact ret _ _ F7 N7
  · intro it r m5 nx hI v5 h5 tk5 hit F5 oI hoI N5
    refine fold_Q ?_
    intro qF3
    refine fold_E ?_
    intro eF3
    refine fold_A ?_
    intro aF3
    refine fold_goal (fun gX gk => ?_)
    obtain ⟨ps5, us5, av, o, e1, e2, e3, e4, e5, e6⟩ := hI
    subst e3
    cases us5 with
    | nil => simp at e1
    | cons u us5 =>
      simp only [List.map_cons, List.cons.injEq] at e1
      obtain ⟨rfl, rfl⟩ := e1
      have hu5 : v5 = u := hit
      subst hu5
      cases ps5 with
      | nil => cases e2
      | cons q ps5 =>
        cases e2
        rename_i e2 e7
        obtain ⟨t, ta, tb, n9, rfl, ht⟩ := dat_pair e2
        have ht' := hkn _ ht
        have offI : ∀ q ∈ nx, ∀ r ∈ [(I, oI)], q.1 ≠ r.1 := by
          intro q hq r hr
          rw [List.mem_singleton.mp hr]
          exact Nat.ne_of_lt (l4 q hq)
        have F6 := fr_look [(Str.ofString "ahead", av)] F5 (by simpa using e4)
        dsimp only [look] at F6
        clear F5
        have N6 : News g1 L1 h5 ((I, oI) :: nx) := N5
        clear N5
        refine gk ?_
        clear gk gX
        dsimp only
        cases o with
        | none =>
          have hav : av = .none := e5
          subst hav
          walk_at "mine:steps"
          · rename_i hq kF kN _ _
            have e : normFrom none ps = false := by
              rw [← e6, normFrom, decide_eq_true hq]
              rfl
            rw [e] at ret
            exact ret _ _ kF (fun q hq => kN q (.tail _ hq))
          · rename_i hq h9 F9 N9
            refine unr_mk _ _ _ nx rfl F9 N9 offI (⟨hl', trivial⟩) ⟨ps5, us5, _, some q.2, rfl, e7, rfl, rfl, ⟨_, rfl⟩, ?_⟩
            rw [← e6, normFrom, decide_eq_false hq]
            rfl
        | some b =>
          refine fold_goal (fun gX gk => ?_)
          obtain ⟨tv, rfl⟩ : ∃ t, av = .int b t := e5
          refine gk ?_
          clear gk gX
          walk_at "mine:steps"
          · rename_i hq kF kN _ _
            have e : normFrom none ps = false := by
              rw [← e6, normFrom, decide_eq_true hq]
              rfl
            rw [e] at ret
            exact ret _ _ kF (fun q hq => kN q (.tail _ hq))
          · rename_i hq hq2 kF kN _ _
            have e : normFrom none ps = false := by
              rw [← e6]
              simp [normFrom, hq2]
            rw [e] at ret
            exact ret _ _ kF (fun q hq => kN q (.tail _ hq))
          · rename_i hq hq2 h9 F9 N9
            refine unr_mk _ _ _ nx rfl F9 N9 offI (⟨hl', trivial⟩) ⟨ps5, us5, _, Option.some q.2, rfl, e7, rfl, rfl, ⟨_, rfl⟩, ?_⟩
            rw [← e6]
            simp [normFrom, hq, hq2]
  · exact ⟨ps, vs, .none, none, rfl, hd, rfl, rfl, rfl, rfl⟩
end
end
section
theorem reset_PList : True := by
  w_top off
  trivial
local macro_rules | `(tactic| walk_at "mine:none") => `(tactic| skip)
section
variable {prog : Program} {w : World} {A : Around} {E : Value → Shared → Prop} {s : Shared} {h₀ : Heap} {L D : Addr} {m : Str → Option Value} {news news' : List (Addr × Obj)}
theorem setItem_neg {l : Addr} {items : Array Value} {k : Int} {t : Tok} {v : Value} {Q : Unit → Shared → Prop} {o : Obj} {ne : Nat} (ho : s.heap.get? l = some o) (hc : o.cls = .type "list") (hd : o.data = .seq items ne)
    (h0 : k < 0) (h1 : -(items.size : Int) ≤ k) (hfit : -(2 ^ 63) ≤ k) (h : Q () { s with heap := s.heap.update l (Obj.mapSeq (·.setIfInBounds (k + items.size).toNat v)) }) :
    wpAny (model prog w) A (setItem (.ref l) (.int k t) v) Q E s := by
  have hl : s.heap.IsList l items := ⟨o, ho, hc, ne, hd⟩
  unfold setItem
  try with_reducible refine wpAny_holding ?_
  first | refine wpAny_bind (wpAny_pure ?_) | skip
  refine wpAny_bind (wpAny_sequenceKey hl.typeIs (by decide) ?_)
  refine wpAny_bind (wpAny_callSpecial?_slot (name := Str.ofString "__setitem__") hl.typeIs slot_list_setitem
    (wpAny_call_entry slot_list_setitem hl.typeIs entry_list_setitem ?_ (args_list_setitem _ _ _)))
  show wpAny _ _ (Builtin.List.listSubscript? (.int k t) >>= _) _ _ s
  refine wpAny_bind (wpAny_listSubscript_int (fitsIndex_neg h0 hfit) ?_)
  clear hfit
  have hidx := seqIndex_neg h0 h1
  have hj : (k + items.size).toNat < items.size := by omega
  have hx : items[(k + items.size).toNat]? = some items[(k + items.size).toNat] := Array.getElem?_eq_getElem hj
  refine fold_goal (fun gX gk => ?_)
  obtain ⟨j, rfl⟩ : ∃ j : Nat, k = Int.negSucc j := by
    cases k with
    | ofNat n => exact absurd h0 (Int.not_lt.mpr (Int.ofNat_nonneg n))
    | negSucc n => exact ⟨n, rfl⟩
  refine gk ?_
  clear gk gX
  show wpAny _ _ ((Builtin.List.listItems (.ref l) >>= fun xs => pure ((seqIndex? (Int.negSucc j) xs.size).bind fun i => xs[i]?.map (i, ·))) >>= _) _ _ s
  refine wpAny_bind (wpAny_bind ?_)
  show wpAny _ _ (seqItems? (.ref l) >>= _) _ _ s
  refine wpAny_bind (wpAny_seqItems ho hd (wpAny_pure (wpAny_pure ?_)))
  rw [hidx]
  simp only [Option.bind_some, hx, Option.map_some]
  refine wpAny_bind (wpAny_setSeqItemAt ho hd ?_)
  first
    | exact wpAny_bind (wpAny_pure (wpAny_pure ⟨.none, rfl, wpAny_pure h⟩))
    | exact wpAny_pure ⟨.none, rfl, wpAny_pure h⟩
theorem set_last {ys : List Value} {x v : Value} {n : Nat} {t : Tok} {Q : Unit → Shared → Prop} (F : Fr h₀ L s.heap m) (N : News h₀ L s.heap news) (U : Upd D (listOf (ys ++ [x]).toArray n) (listOf (ys ++ [v]).toArray n) news news')
    (h : ∀ h', Fr h₀ L h' m → News h₀ L h' news' → Q () { s with heap := h' }) : wpAny (model prog w) A (setItem (.ref D) (.int (-1) t) v) Q E s := by
  refine fold_goal (fun gX gk => ?_)
  obtain ⟨pre, post, rfl, rfl, a, b⟩ := U.split
  have z := N (D, listOf (ys ++ [x]).toArray n) (List.mem_append.mpr (.inr (.head _)))
  have e : (-1 + ((ys ++ [x]).toArray.size : Int)).toNat = ys.length := by simp; omega
  have hset : (ys ++ [x]).toArray.setIfInBounds ys.length v = (ys ++ [v]).toArray := by
    apply Array.toList_inj.mp
    simp
  refine gk ?_
  clear gk gX
  refine setItem_neg z.1 rfl rfl (by decide) (by simp; omega) (by decide) ?_
  rw [e]
  refine h _ (F.change (Heap.SameBut.update ..) z.2.1 z.2.2) (ki_turn _ N a b ?_ ?_)
  · exact hset
  · simp
theorem item_last {value slice : PySem.Expr} {ys : List Value} {x : Value} {n : Nat} {t : Tok} {Q : Value → Shared → Prop} (N : News h₀ L s.heap news) (hm : (D, listOf (ys ++ [x]).toArray n) ∈ news) (h : Q x s)
    (hs : subscripted slice false (.ref D) (.int (-1) t) = operate [.ref D, .int (-1) t] (getItem (.ref D) (.int (-1) t)) := by with_unfolding_all rfl) :
    wpAny (model prog w) A (subscriptTail value slice (.ref D) (.int (-1) t)) Q E s := by
  have hl : s.heap.IsList D (ys ++ [x]).toArray := News.isList N hm
  refine tail_any hl.typeIs slot_list_getitem.lookup (wpAny_getItem_list_neg hl (by decide) (by simp; omega) (by decide) ?_ h) hs
  have e : (-1 + ((ys ++ [x]).toArray.size : Int)).toNat = ys.length := by simp; omega
  rw [e]
  simp
end
end
section
theorem reset_PNormal : True := by
  w_top off
  trivial
local macro_rules | `(tactic| walk_at "subscriptTail") => `(tactic| (k_here; (with_reducible show wpAny _ _ (subscriptTail _ _ (Value.ref _) (Value.int (-1) _)) _ _ _); k_dflt (refine' item_last ?l ?a ?_ ?e; (case l => k_asm); (case a => k_mem); (case e => with_unfolding_all rfl); k_whole)))
local macro_rules | `(tactic| walk_at "setItem ref int") => `(tactic| (k_here; (with_reducible show wpAny _ _ (setItem (Value.ref _) (Value.int (-1) _) _) _ _ _); k_dflt (refine' set_last ?k1 ?k2 ?k3 ?_; (case k1 => k_asm); (case k2 => k_asm); (case k3 => k_upd); k_whole); intro h' F' N'; (try k_sweep)))
section
variable {prog : Program} {w : World} {p : Program} {loose : List Str} {mean : ExcName → Option Value} {mg mb : Str → Option Value}
/-- the joining loop: what stands between the turns -/
inductive NoInv (kn rest : List (Addr × Obj)) (lf lI : Addr) (total : List (Int × Int)) (xs : List Itm) (m : Str → Option Value) (nx : List (Addr × Obj)) : Prop
  | mk (qs fs : List (Int × Int)) (us vs : List Value) (n : Nat) (add : List (Addr × Obj)) (ih0 : xs = us.map .val) (ih1 : DatAll kn us (qs.map pd)) (ih2 : nx = (lf, listOf vs.toArray n) :: (add ++ rest)) (ih3 : DatAll add vs (fs.map pd)) (ih4 : (∀ q ∈ rest, ∀ r ∈ add, q.1 < r.1)) (ih5 : OwnOff add [lf, lI]) (ih6 : m (Str.ofString "found") = some (.ref lf)) (ih7 : qs.foldl mstep fs = total) (ih8 : fs.length + qs.length ≤ 4) : NoInv kn rest lf lI total xs m nx
theorem normal_c {dp un : Nat} {gd : Option (List Code)} {cn : Str} {cs : Scope} {a : Addr} {ccd : Value} {cl : List (Str × Addr)} {outer : List Env} {A₀ : Around} {base h₀ : Heap} {L : Addr} {m : Str → Option Value} {s : Shared}
    {Q E : Value → Shared → Prop} {v : Value} {ps : List (Int × Int)} {kn news : List (Addr × Obj)}
    (B : Below A₀ base outer h₀) (F : Fr h₀ L s.heap m) (X : (hd.heap_1 w.params).In h₀) (N : News h₀ L s.heap news) (hkn : ∀ p ∈ kn, p ∈ news)
    (T : Top p loose mean mg mb h₀) (hk : cs.kind = .function) (hd : dp + 1 < recursionLimit) (hu : un + 100 < cLine) (hv : DatIn kn v (.list (ps.map pd))) (hlen : ps.length ≤ 4) (hb : ∀ q ∈ ps, pbd q)
    (ret : ∀ r add h' tk' (qs : List (Int × Int)), Fr h₀ L h' m → News h₀ L h' (add ++ news) → (∀ q ∈ news, ∀ p ∈ add, q.1 < p.1) → qs.Perm ps → qs.Pairwise (fun a b => a.1 ≤ b.1) → DatIn add r (.list ((mergeOf qs).map pd)) → Q r {s with heap := h', toks := tk'}) :
    wpAny (model prog w) (ktrTop dp un gd cn cs L a ccd cl outer) (call (.ref 33) [v]) Q E s := by
  refine wpAny_call ?_
  refine fold_goal (fun gX gk => ?_)
  obtain ⟨l, vs, n, rfl, hl, hda⟩ := dat_list hv
  have hl' := hkn _ hl
  refine gk ?_
  clear gk gX
  k_dflt (walk_at "mine:enter")
  rename_i g1 L1 h1 FG1 F1 N1 B1 X1 T1
  walk_at "mine:steps"
  rename Fr _ _ _ (fun y => _) => F2
  refine For_turns F2 ?_
  walk_at "mine:steps"
  rename_i lf hA l2 hB N2
  refine comp_rule F2 (by with_unfolding_all rfl) (by decide) (by rfl) (by decide) ?_
  walk_at "mine:steps"
  refine comp_list rfl F2 N2 (.tail _ hl') rfl rfl ?_ (fun I3 h3 tk3 l3 => ?_)
  · rw [hda.length, List.length_map, sizeLine_eq]; omega
  refine comp_ind (fun xs ys nx => Ex4 fun (rs fs : List (Int × Int)) (us : List Value) (add : List (Addr × Obj)) => An6 (xs = us.map .val) (DatAll kn us (rs.map pd)) (nx = add ++ ((lf, listOf #[] 0) :: news)) (DatAll add ys (fs.map pd)) (fs ++ rs = ps)
    (∀ q ∈ (lf, listOf #[] 0) :: news, ∀ r ∈ add, q.1 < r.1)) ?_ ?_ _ _ _ ?_
  · intro ys nx hI0 D9 h9 tk9 F9 N9 o9
    refine fold_Q ?_
    intro qF0
    refine fold_E ?_
    intro eF0
    refine fold_A ?_
    intro aF0
    refine fold_goal (fun gX gk => ?_)
    obtain ⟨rs, fs, us, add, x1, x2, x3, x4, x5, x6⟩ := hI0
    subst x3
    have x1' : us = [] := by simpa using x1.symm
    subst x1'
    have x2' : rs = [] := by simpa using x2.length.symm
    subst x2'
    have x5' : fs = ps := by simpa using x5
    subst x5'
    refine gk ?_
    clear gk gX
    walk_at "mine:steps"
    refine sorted_pairs (kn := add) F9 N9 (fun q hq => .tail _ (List.mem_append_left _ hq)) (News.isList N9 (.head _)) x4 hb hlen (fun D10 h10 e10 vs10 qs10 F10 N10 l10 d10 p10 s10 => ?_)
    walk_at "mine:steps"
    have lD1 := ltN (l10 (lf, listOf #[] 0) (.tail _ (List.mem_append_right _ (.head _))))
    dsimp only at lD1
    have rest : ∀ q ∈ (D10, listOf vs10.toArray e10) :: (add ++ news), q ∈ (D10, listOf vs10.toArray e10) :: (D9, lst ys) :: (add ++ (lf, listOf #[] 0) :: news) := by
      intro q hq
      (first | (refine sub_in hq ?_; walk_at "mine:in"; done) | (trace "GRINDBACK"; simp only [List.mem_cons, List.mem_append] at hq ⊢; grind only))
    refine for_list ((lf, listOf #[] 0) :: ([] ++ ((D10, listOf vs10.toArray e10) :: (add ++ news)))) rfl F10 N10 ?_ (.tail _ (.head _)) rfl rfl (fun I l4 => ?_)
    · intro q hq
      (first | (refine sub_in hq ?_; walk_at "mine:in"; done) | (trace "GRINDBACK"; simp only [List.mem_cons, List.mem_append, List.nil_append] at hq ⊢; grind only))
    have bI1 := ltN (l4 (lf, listOf #[] 0) (.tail _ (.tail _ (List.mem_append_right _ (.head _)))))
    dsimp only at bI1
    have offf : ∀ q ∈ (D10, listOf vs10.toArray e10) :: (add ++ news), q.1 ≠ lf := by
      intro q hq
      simp only [List.mem_cons, List.mem_append] at hq
      rcases hq with rfl | hq | hq
      · exact (Nat.ne_of_lt lD1).symm
      · exact (Nat.ne_of_lt (x6 _ (.head _) q hq)).symm
      · exact Nat.ne_of_lt (l2 q hq)
    have hI0 : ∀ q ∈ (D10, listOf vs10.toArray e10) :: (add ++ news), q.1 < I := fun q hq => l4 q (rest q hq)
    have offI : ∀ (n : Nat) (vs : List Value) (oI : Obj) (ad : List (Addr × Obj)), OwnOff ad [lf, I] → ∀ q ∈ (lf, listOf vs.toArray n) :: (ad ++ ((D10, listOf vs10.toArray e10) :: (add ++ news))), ∀ r ∈ [(I, oI)], q.1 ≠ r.1 := by
      intro n vs oI ad had q hq r hr
      rw [List.mem_singleton.mp hr]
      rcases mem_cons_s hq with rfl | hq
      · exact Nat.ne_of_lt bI1
      · rcases List.mem_append.mp hq with hq | hq
        · exact had q hq _ (.tail _ (.head _))
        · exact Nat.ne_of_lt (hI0 q hq)
    have newOff : ∀ (D : Addr) (o : Obj) (ad : List (Addr × Obj)), lf < D → I < D → OwnOff ad [lf, I] → OwnOff ((D, o) :: ad) [lf, I] := by
      intro D o ad h1 h2 had q hq r hr
      rcases mem_cons_s hq with rfl | hq
      · rcases mem_cons_s hr with rfl | hr
        · exact (Nat.ne_of_lt h1).symm
        · rw [List.mem_singleton.mp hr]
          exact (Nat.ne_of_lt h2).symm
      · exact had q hq r hr
    refine items_ind (NoInv add ((D10, listOf vs10.toArray e10) :: (add ++ news)) lf I (mergeOf qs10)) ?_ ?_ _ _ _ ?_
    · intro m5 nx h5 tk5 hI F5 N5
      refine fold_Q ?_
      intro qF1
      refine fold_E ?_
      intro eF1
      refine fold_A ?_
      intro aF1
      refine fold_goal (fun gX gk => ?_)
      obtain ⟨qs5, fs5, us5, vs5, n5, add5, e1, e2, e3, e4, e5, e6, e7, e8, e9⟩ := hI
      subst e3
      have e1' : us5 = [] := by simpa using e1.symm
      subst e1'
      have e2' : qs5 = [] := by simpa using e2.length.symm
      subst e2'
      have F6 := fr_look [(Str.ofString "found", .ref lf)] F5 (by simpa using e7)
      dsimp only [look] at F6
      clear F5
      refine gk ?_
      clear gk gX
      dsimp only
      walk_at "mine:steps"
      rename Fr _ _ _ _ => F7
      rename News _ _ _ _ => N7
      refine ret _ ((lf, listOf vs5.toArray n5) :: add5) _ _ qs10 F7 ?_ ?_ p10 s10 ?_
      · intro q hq
        refine N7 q ?_
        (first | (refine sub_in hq ?_; walk_at "mine:in"; done) | (trace "GRINDBACK"; simp only [List.mem_cons, List.mem_append, List.cons_append] at hq ⊢; grind only))
      · intro q hq r hr
        rcases mem_cons_s hr with rfl | hr
        · exact l2 q hq
        · exact e5 q (.tail _ (List.mem_append_right _ hq)) r hr
      · refine DatIn.list (.head _) (DatAll.mono (fun q hq => .tail _ hq) ?_)
        rw [← e8]
        exact e4
    · intro it r m5 nx hI v5 h5 tk5 hit F5 oI hoI N5
      refine fold_Q ?_
      intro qF2
      refine fold_E ?_
      intro eF2
      refine fold_A ?_
      intro aF2
      refine fold_goal (fun gX gk => ?_)
      obtain ⟨qs5, fs5, us5, vs5, n5, add5, e1, e2, e3, e4, e5, e6, e7, e8, e9⟩ := hI
      subst e3
      cases us5 with
      | nil => simp at e1
      | cons u us5 =>
        simp only [List.map_cons, List.cons.injEq] at e1
        obtain ⟨rfl, rfl⟩ := e1
        have hu5 : v5 = u := hit
        subst hu5
        cases qs5 with
        | nil => cases e2
        | cons q5 qs5 =>
          cases e2
          rename_i e2 e10'
          obtain ⟨t, ta, tb, n9, rfl, ht⟩ := dat_pair e2
          have F6 := fr_look [(Str.ofString "found", .ref lf)] F5 (by simpa using e7)
          dsimp only [look] at F6
          clear F5
          have ht1 : (t, ({ cls := .type "tuple", data := .seq [Value.int q5.1 ta, Value.int q5.2 tb].toArray n9 } : Obj)) ∈ add5 ++ ((D10, listOf vs10.toArray e10) :: (add ++ news)) := List.mem_append_right _ (.tail _ (List.mem_append_left _ ht))
          have N6 : News g1 L1 h5 ((I, oI) :: (lf, listOf vs5.toArray n5) :: (add5 ++ ((D10, listOf vs10.toArray e10) :: (add ++ news)))) := N5
          clear N5
          have offf5 : ∀ q ∈ add5 ++ ((D10, listOf vs10.toArray e10) :: (add ++ news)), q.1 ≠ lf := fun q hq => (List.mem_append.mp hq).elim (fun h => e6 q h _ (.head _)) (offf q)
          refine gk ?_
          clear gk gX
          dsimp only
          walk_at "mine:steps"
          · rename_i h9' F9' N9' hq
            have hm : mstep fs5 q5 = fs5 := by rw [mstep, if_pos hq]
            exact unr_mk _ _ _ ((lf, listOf vs5.toArray n5) :: (add5 ++ ((D10, listOf vs10.toArray e10) :: (add ++ news)))) rfl F9' N9' (offI _ _ _ _ e6) (⟨.tail _ (List.mem_append_right _ (.head _)), trivial⟩) ⟨qs5, fs5, us5, vs5, n5, add5, rfl, e10', rfl, e4, e5, e6, rfl, by rw [← e8, List.foldl_cons, hm], by simp only [List.length_cons] at e9; omega⟩
          · rename_i hle l11 h11 F11 N11 l11'
            refine kqd_ne N11 (.tail _ (.tail _ (.head _))) rfl rfl e4 (fun q hq => .tail _ (.tail _ (.tail _ (List.mem_append_left _ hq)))) (.head _) rfl rfl DatAll.nil (List.forall_mem_nil _) (pd_ok _) (List.forall_mem_nil _) ?_ ?_
            · ke_room
            · have N12 : News g1 L1 h11 ((I, oI) :: (lf, listOf vs5.toArray n5) :: (add5 ++ ((D10, listOf vs10.toArray e10) :: (add ++ news)))) := fun q hq => N11 q (.tail _ hq)
              clear N11 l11'
              have hsz : vs5.length ≤ 24 := by
                have := e4.length
                rw [List.length_map] at this
                omega
              rcases fs5.eq_nil_or_concat with rfl | ⟨gs, l9, rfl⟩
              · rw [pd_nil]
                walk_at "mine:steps"
                rename_i D13 h13 l13 h14 F14 N14
                rw [List.push_toArray] at N14
                refine fold_goal (fun gX gk => ?_)
                obtain ⟨ta', tb', N14⟩ : ∃ x y, News g1 L1 h14 ((D13, tup2 q5.1 x q5.2 y) :: (I, oI) :: (lf, listOf (vs5 ++ [Value.ref D13]).toArray (n5 + 1)) :: (add5 ++ ((D10, listOf vs10.toArray e10) :: (add ++ news)))) := ⟨_, _, N14⟩
                obtain ⟨p1, p2, p3⟩ := l13
                have p4 := tb_ltOf p3
                have hm : mstep [] q5 = [q5] := by rw [mstep, if_neg hle]; rfl
                have hv0 : vs5 = [] := by simpa using e4.length
                subst hv0
                refine gk ?_
                clear gk gX
                refine unr_mk _ _ _ ((lf, listOf ([] ++ [Value.ref D13]).toArray (n5 + 1)) :: (((D13, tup2 q5.1 ta' q5.2 tb') :: add5) ++ ((D10, listOf vs10.toArray e10) :: (add ++ news)))) rfl F14 ?_ (offI _ _ _ _ (newOff _ _ _ p2 p1 e6)) (⟨.tail _ (List.mem_append_right _ (.head _)), trivial⟩) ⟨qs5, [q5], us5, [Value.ref D13], n5 + 1, (D13, tup2 q5.1 ta' q5.2 tb') :: add5, rfl, e10', rfl, ?_, ?_, newOff _ _ _ p2 p1 e6, rfl, by rw [← e8, List.foldl_cons, hm], by simp only [List.length_cons, List.length_nil] at e9 ⊢; omega⟩
                · intro q hq
                  refine N14 q ?_
                  (first | (refine sub_in hq ?_; walk_at "mine:in"; done) | (trace "GRINDBACK"; simp only [List.mem_cons, List.mem_append, List.cons_append, List.nil_append] at hq ⊢; grind only))
                · exact DatAll.one (tup2_dat (.head _))
                · intro q hq r hr
                  rcases mem_cons_s hr with rfl | hr
                  · exact p4 q (List.mem_append_right _ hq)
                  · exact e5 q hq r hr
              · rw [List.concat_eq_append] at *
                rw [pd_snoc]
                refine fold_goal (fun gX gk => ?_)
                obtain ⟨us9, x9, rfl⟩ : ∃ us x, vs5 = us ++ [x] := by
                  rcases vs5.eq_nil_or_concat with rfl | ⟨us, x, rfl⟩
                  · have := e4.length
                    simp at this
                  · exact ⟨us, x, by rw [List.concat_eq_append]⟩
                obtain ⟨es9, d9, hes, hd9, hx9⟩ := e4.snoc
                rw [List.map_append] at hes
                obtain ⟨rfl, hes2⟩ := List.append_inj' hes rfl
                simp only [List.map_cons, List.map_nil, List.cons.injEq, and_true] at hes2
                subst hes2
                obtain ⟨t9, ta9, tb9, n9', rfl, ht9⟩ := dat_pair hx9
                refine gk ?_
                clear gk gX
                walk_at "mine:steps"
                · rename_i hlt _ _ _ D13 h13 l13 h14 F14 N14
                  refine fold_goal (fun gX gk => ?_)
                  obtain ⟨z, ta', tb', hz, N14⟩ : ∃ (z : Int) (x y : Tok), z = max l9.2 q5.2 ∧ News g1 L1 h14 ((D13, tup2 l9.1 x z y) :: (I, oI) :: (lf, listOf (us9 ++ [Value.ref D13]).toArray n5) :: (add5 ++ ((D10, listOf vs10.toArray e10) :: (add ++ news)))) := by
                    refine ⟨_, _, _, ?_, N14⟩
                    split <;> omega
                  subst hz
                  obtain ⟨p1, p2, p3⟩ := l13
                  have p4 := tb_ltOf p3
                  have hm : mstep (gs ++ [l9]) q5 = gs ++ [(l9.1, max l9.2 q5.2)] := by
                    rw [mstep, if_neg hle, List.getLast?_append]
                    simp only [List.getLast?_singleton, Option.some_or]
                    rw [if_pos hlt, List.dropLast_concat]
                  refine gk ?_
                  clear gk gX
                  refine unr_mk _ _ _ ((lf, listOf (us9 ++ [Value.ref D13]).toArray n5) :: (((D13, tup2 l9.1 ta' (max l9.2 q5.2) tb') :: add5) ++ ((D10, listOf vs10.toArray e10) :: (add ++ news)))) rfl F14 ?_ (offI _ _ _ _ (newOff _ _ _ p2 p1 e6)) (⟨.tail _ (List.mem_append_right _ (.head _)), trivial⟩) ⟨qs5, gs ++ [(l9.1, max l9.2 q5.2)], us5, us9 ++ [Value.ref D13], n5, (D13, tup2 l9.1 ta' (max l9.2 q5.2) tb') :: add5, rfl, e10', rfl, ?_, ?_, newOff _ _ _ p2 p1 e6, rfl, by rw [← e8, List.foldl_cons, hm], by simp only [List.length_cons, List.length_append, List.length_nil] at e9 ⊢; omega⟩
                  · intro q hq
                    refine N14 q ?_
                    (first | (refine sub_in hq ?_; walk_at "mine:in"; done) | (trace "GRINDBACK"; simp only [List.mem_cons, List.mem_append, List.cons_append, List.nil_append] at hq ⊢; grind only))
                  · rw [List.map_append]
                    exact DatAll.append (DatAll.mono (fun q hq => .tail _ hq) hd9) (DatAll.one (tup2_dat (.head _)))
                  · intro q hq r hr
                    rcases mem_cons_s hr with rfl | hr
                    · exact p4 q (List.mem_append_right _ hq)
                    · exact e5 q hq r hr
                · rename_i hgt _ D13 h13 l13 h14 F14 N14
                  rw [List.push_toArray] at N14
                  refine fold_goal (fun gX gk => ?_)
                  obtain ⟨ta', tb', N14⟩ : ∃ x y, News g1 L1 h14 ((D13, tup2 q5.1 x q5.2 y) :: (I, oI) :: (lf, listOf ((us9 ++ [Value.ref t9]) ++ [Value.ref D13]).toArray (n5 + 1)) :: (add5 ++ ((D10, listOf vs10.toArray e10) :: (add ++ news)))) := ⟨_, _, N14⟩
                  obtain ⟨p1, p2, p3⟩ := l13
                  have p4 := tb_ltOf p3
                  have hm : mstep (gs ++ [l9]) q5 = (gs ++ [l9]) ++ [q5] := by
                    rw [mstep, if_neg hle, List.getLast?_append]
                    simp only [List.getLast?_singleton, Option.some_or]
                    rw [if_neg hgt]
                  refine gk ?_
                  clear gk gX
                  refine unr_mk _ _ _ ((lf, listOf ((us9 ++ [Value.ref t9]) ++ [Value.ref D13]).toArray (n5 + 1)) :: (((D13, tup2 q5.1 ta' q5.2 tb') :: add5) ++ ((D10, listOf vs10.toArray e10) :: (add ++ news)))) rfl F14 ?_ (offI _ _ _ _ (newOff _ _ _ p2 p1 e6)) (⟨.tail _ (List.mem_append_right _ (.head _)), trivial⟩) ⟨qs5, (gs ++ [l9]) ++ [q5], us5, (us9 ++ [Value.ref t9]) ++ [Value.ref D13], n5 + 1, (D13, tup2 q5.1 ta' q5.2 tb') :: add5, rfl, e10', rfl, ?_, ?_, newOff _ _ _ p2 p1 e6, rfl, by rw [← e8, List.foldl_cons, hm], by simp only [List.length_cons, List.length_append, List.length_nil] at e9 ⊢; omega⟩
                  · intro q hq
                    refine N14 q ?_
                    (first | (refine sub_in hq ?_; walk_at "mine:in"; done) | (trace "GRINDBACK"; simp only [List.mem_cons, List.mem_append, List.cons_append, List.nil_append] at hq ⊢; grind only))
                  · rw [List.map_append]
                    exact DatAll.append (DatAll.mono (fun q hq => .tail _ hq) e4) (DatAll.one (tup2_dat (.head _)))
                  · intro q hq r hr
                    rcases mem_cons_s hr with rfl | hr
                    · exact p4 q (List.mem_append_right _ hq)
                    · exact e5 q hq r hr
    · refine ⟨qs10, [], vs10, [], 0, [], rfl, d10, rfl, .nil, fun _ _ _ h => (nomatch h), (fun _ h => nomatch h), rfl, rfl, ?_⟩
      rw [p10.length_eq]
      simpa using hlen
  · intro it r ys nx hI0 v9 C9 oC9 m9 D9 h9 tk9 E9 hv9 hoC9 F9 hCD oI9 hoI9 N9 o9 o9'
    refine fold_Q ?_
    intro qF3
    refine fold_E ?_
    intro eF3
    refine fold_A ?_
    intro aF3
    refine fold_goal (fun gX gk => ?_)
    obtain ⟨rs, fs, us, add, x1, x2, x3, x4, x5, x6⟩ := hI0
    subst x3
    cases us with
    | nil => simp at x1
    | cons u us =>
      simp only [List.map_cons, List.cons.injEq] at x1
      obtain ⟨rfl, rfl⟩ := x1
      cases rs with
      | nil => cases x2
      | cons pr rs =>
        have hu9 : v9 = u := hv9
        subst hu9
        cases x2
        rename_i x2 x7
        obtain ⟨t, ta, tb, n9, rfl, ht⟩ := dat_pair x2
        have ht' := hkn _ ht
        have ht1 : (t, ({ cls := .type "tuple", data := .seq [Value.int pr.1 ta, Value.int pr.2 tb].toArray n9 } : Obj)) ∈ add ++ ((lf, listOf #[] 0) :: news) := List.mem_append_right _ (.tail _ ht')
        refine gk ?_
        clear gk gX
        refine comp_asg2 (pre := [(I3, oI9)]) rfl ⟨_, (N9 _ (.tail _ (.tail _ (.tail _ ht1)))).1, rfl, n9, rfl⟩ (by rfl) (by rfl) (by decide) (by rfl) hoC9 F9 N9 ?_ ?_ (fun oC10 m10 h10 tk10 hoC10 hm10 hm11 F10 N10 => ?_)
        · intro q hq
          exact (o9' q hq).1
        · intro q hq
          rcases mem_cons_s hq with rfl | hq
          · exact Ne.symm hCD
          · exact (o9 q hq).2.1
        refine wpAny_tests_nil ?_
        simp only [if_true]
        walk_at "mine:steps"
        rename_i D11 h11 F11 N11 l11
        refine fold_goal (fun gX gk => ?_)
        obtain ⟨ta', tb', N11⟩ : ∃ x y, News g1 L1 h11 ((D11, tup2 pr.1 x pr.2 y) :: ([(I3, oI9)] ++ (C9, oC10) :: (D9, lst ys) :: (add ++ ((lf, listOf #[] 0) :: news)))) := ⟨_, _, N11⟩
        have gt : ∀ q ∈ [(I3, oI9)] ++ (C9, oC10) :: (D9, lst ys) :: (add ++ ((lf, listOf #[] 0) :: news)), q.1 < D11 := l11
        refine gk ?_
        clear gk gX
        refine ⟨_, _, oC10, m10, ((D11, tup2 pr.1 ta' pr.2 tb') :: add) ++ ((lf, listOf #[] 0) :: news), rfl, F11, hoC10, ?_, ?_, ⟨List.mem_append_right _ (.tail _ hl'), trivial⟩, rs, fs ++ [pr], us, (D11, tup2 pr.1 ta' pr.2 tb') :: add, rfl, x7, rfl, ?_, ?_, ?_⟩
        · intro q hq
          refine N11 q ?_
          (first | (refine sub_in hq ?_; walk_at "mine:in"; done) | (trace "GRINDBACK"; simp only [List.mem_cons, List.mem_append, List.cons_append, List.nil_append] at hq ⊢; grind only))
        · intro q hq
          rcases List.mem_append.mp hq with hq | hq
          · rcases mem_cons_s hq with rfl | hq
            · refine ⟨fun r hr => ?_, ?_, ?_⟩
              · rw [List.mem_singleton.mp hr]
                exact (Nat.ne_of_lt (gt _ (.head _))).symm
              · exact (Nat.ne_of_lt (gt _ (.tail _ (.head _)))).symm
              · exact (Nat.ne_of_lt (gt _ (.tail _ (.tail _ (.head _))))).symm
            · exact o9 q (List.mem_append_left _ hq)
          · exact o9 q (List.mem_append_right _ hq)
        · rw [List.map_append]
          exact DatAll.append (DatAll.mono (fun q hq => .tail _ hq) x4) (DatAll.one (tup2_dat (.head _)))
        · rw [List.append_assoc, List.singleton_append]
          exact x5
        · intro q hq r hr
          rcases mem_cons_s hr with rfl | hr
          · exact gt q (.tail _ (.tail _ (.tail _ (List.mem_append_right _ hq))))
          · exact x6 q hq r hr
  · exact ⟨ps, [], vs, [], rfl, hda, rfl, .nil, rfl, fun _ _ _ h => nomatch h⟩
end
end
section
theorem reset_PKeys : True := by
  w_top off
  trivial
section
variable {prog : Program} {w : World} {A : Around} {E : Value → Shared → Prop} {s : Shared} {h₀ : Heap} {L D : Addr} {m : Str → Option Value} {news news' : List (Addr × Obj)}
theorem keys_none : typeLookup (.type "list") (Str.ofString "keys") = pure none := by rw [typeLookup_type, builtinLookup_eq_fast]; kernel_rfl
theorem keys_miss {a : Addr} {o : Obj} {xs : Array Value} {k : Nat} {Q : Option Value → Shared → Prop} (hx : s.heap.get? a = some o) (hc : o.cls = .type "list") (hdat : o.data = .seq xs k) (hd : o.dict = none) (hA : A.handled = none)
    (h : ∀ h' tk e, Heap.NewExcOf s.heap h' e "AttributeError" → Q none { s with heap := h', toks := tk }) : wpAny (model prog w) A (getAttr? (.ref a) (Str.ofString "keys")) Q E s := by
  refine fold_goal (fun gX gk => ?_)
  obtain ⟨c, dct, dat, sl⟩ := o
  simp only at hc hdat hd
  subst hc hdat hd
  obtain ⟨hp, g, d, tk, os⟩ := s
  have hT : ∀ tk', (⟨hp, g, d, tk', os⟩ : Shared).TypeIs (.ref a) "list" := fun _ => ⟨_, hx, rfl⟩
  have f1 := sub_AttributeError
  have f3 := F.slot_list_getattribute.lookup
  have f4 := F.slot_list_getattribute.bind (.ref a)
  have f5 := am_list_getattr_none
  refine gk ?_
  clear gk gX
  unfold getAttr? getAttrBy? getAttrBy
  repeat (any_goals (first | assumption | exact hT _ | ((with_reducible show wpAny _ _ (call (Value.builtin "list.__getattribute__") _ _) _ _ _); refine call_meets F.slot_list_getattribute (hT _) am_entry_list_getattribute (F.args_list_getattribute_2 _ _) (meets_getattribute_miss_list a xs k sl (Str.ofString "keys") _ keys_none (by decide) (by decide)) ⟨hx, hA, fun h' tk' e hx' => ?_⟩) | wp_step))
  refine fold_goal (fun gX gk => ?_)
  obtain ⟨t', u', he⟩ := hx'.there
  refine gk ?_
  clear gk gX
  show wpAny _ _ (getattributeRaised _ _ _ _ _ _ _) _ _ _
  unfold getattributeRaised
  repeat (any_goals (first | assumption | wp_step))
  exact h _ _ _ hx'.of
theorem entry_upd : entryFor table "dict.update.loop" = some Builtin.«dict.update.loop» := entryFor_of_fast (by kernel_rfl)
/-- the values are made pairs of an int and a value -/
inductive PairVals (h : Heap) : List Value → List (Int × Value) → Prop
  | nil : PairVals h [] []
  | cons {T : Addr} {k : Int} {t : Tok} {x : Value} {n : Nat} {vs : List Value} {r : List (Int × Value)} : h.get? T = some { cls := .type "tuple", data := .seq [Value.int k t, x].toArray n } → PairVals h vs r → PairVals h (.ref T :: vs) ((k, x) :: r)
theorem PairVals.mono {h h' : Heap} {bad : Addr → Prop} (hk : ∀ b o, ¬ bad b → h.get? b = some o → h'.get? b = some o) (hb : ∀ b o, bad b → h.get? b = some o → o.cls ≠ .type "tuple") {vs : List Value} {r : List (Int × Value)} (p : PairVals h vs r) : PairVals h' vs r := by
  induction p with
  | nil => exact .nil
  | @cons T k t x n vs r hT _ ih => exact .cons (hk _ _ (fun q => hb _ _ q hT rfl) hT) ih
theorem dictOf_at {h h' : Heap} {d : Addr} {kvs : List (Int × Value)} (x : h.DictOf (PySem.intKind prog w) d kvs) (k : ∀ o, h.get? d = some o → h'.get? d = some o) : h'.DictOf (PySem.intKind prog w) d kvs := let ⟨o, es, ep, ho, r⟩ := x; ⟨o, es, ep, k o ho, r⟩
theorem dict_loop {I l d : Addr} (hh : A.handled = none) (hId : I ≠ d) (hld : l ≠ d) (hlI : l ≠ I) : ∀ (r : List (Int × Value)) (pre vs : List Value) (i : Int) (kvs : List (Int × Value)) (s : Shared) (R : Result → Shared → Prop),
    s.heap.IsListIter I l pre.length → s.heap.IsList l (pre ++ vs).toArray → s.heap.DictOf (PySem.intKind prog w) d kvs → PairVals s.heap vs r → kvs.length + r.length ≤ 1000 →
    (∀ h' tk, h'.DictOf (PySem.intKind prog w) d (r.foldl (fun a p => stored a p.1 p.2) kvs) → (∀ b o, b ≠ I → b ≠ d → s.heap.get? b = some o → h'.get? b = some o) → R (.ok (.ret .none)) { s with heap := h', toks := tk }) →
    codeAny (model prog w) A (.builtin "dict.update.loop" ⟨[.ref d, .ref I, rawInt i, .none], []⟩) R s
  | [], pre, vs, i, kvs, s, R, hit, hl, hd, hp, hz, hR => by
    cases hp
    refine codeAny_builtin entry_upd ?_
    unfold Builtin.«dict.update.loop»
    dsimp only [rawInt]
    refine wpAny_bind (wpAny_pyNext_list_end (by exact hh) hit hl (by simp) fun h₁ he₁ => ?_)
    dsimp only
    unfold Builtin.Dict.addKeywords
    refine wpAny_bind (wpAny_pure ?_)
    exact wpAny_pure (hR h₁ s.toks (dictOf_at hd fun o e => he₁ _ o (Ne.symm hId) e) fun b o hb _ e => he₁ b o hb e)
  | (k, x) :: r, pre, _, i, kvs, s, R, hit, hl, hd, hp, hz, hR => by
    cases hp
    rename_i T t n vs hT hp
    refine codeAny_builtin entry_upd ?_
    unfold Builtin.«dict.update.loop»
    dsimp only [rawInt]
    refine wpAny_bind (wpAny_pyNext_list_item hit hl (x := .ref T) (by simp) fun h₁ hit₁ hs₁ => ?_)
    dsimp only
    have hTI : T ≠ I := fun e => by
      obtain ⟨o, ho, hc, _⟩ := hit
      rw [← e, hT] at ho
      rw [← Option.some.inj ho] at hc
      have hc' : Value.type "tuple" = Value.type "list_iterator" := hc
      simp at hc'
    have hT₁ : h₁.get? T = some { cls := .type "tuple", data := .seq [Value.int k t, x].toArray n } := hs₁.extBut _ _ hTI hT
    have hTd : T ≠ d := fun e => by
      obtain ⟨o, es, ep, ho, hc, _⟩ := hd
      rw [← e, hT] at ho
      have hc' := hc.1
      rw [← Option.some.inj ho] at hc'
      simp at hc'
    have hd₁ := dictOf_at hd fun o e => hs₁.extBut _ o (Ne.symm hId) e
    refine wpAny_bind (wpAny_holding (wpAny_bind (wpAny_tryCatch ?_)))
    unfold Builtin.Dict.pairItems
    refine wpAny_bind (wpAny_typeOf (T := "tuple") ⟨_, hT₁, rfl⟩ ?_)
    have ht : (Value.type "tuple" == Value.type "list" || Value.type "tuple" == Value.type "tuple") = true := by simp
    rw [if_pos ht]
    refine wpAny_bind (wpAny_seqItems hT₁ rfl (wpAny_pure ?_))
    dsimp only [Option.getD]
    refine wpAny_holding ?_
    unfold dictSet
    refine wpAny_holding (wpAny_bind (wpAny_pyHash_int ?_))
    refine wpAny_dictSetHashed_pairs (knd := PySem.intKind prog w) (k := k) (by simp [PySem.intKind, Value.isInt]) hd₁ (fun h₂ hd₂ hs₂ => ?_) (by rw [sizeLine_eq]; simp only [List.length_cons] at hz; omega)
    have old : ∀ b o, b ≠ I → b ≠ d → s.heap.get? b = some o → h₂.get? b = some o := fun b o h1 h2 e => hs₂.extBut b o h2 (hs₁.extBut b o h1 e)
    refine wpAny_pure ⟨Code.quiet_builtin _ (by decide +kernel), ?_⟩
    have hst := stored_length_le kvs k x
    refine dict_loop hh hId hld hlI r (pre ++ [.ref T]) vs (i + 1) (stored kvs k x) _ R ?_ ?_ hd₂ ?_ ?_ ?_
    · rw [List.length_append, List.length_singleton]
      exact hit₁.extBut hs₂.extBut hId
    · rw [List.append_assoc, List.singleton_append]
      obtain ⟨o, ho, r⟩ := hl
      exact ⟨o, old _ _ hlI hld ho, r⟩
    · refine hp.mono (bad := fun b => b = I ∨ b = d) (fun b o hb e => old b o (fun q => hb (.inl q)) (fun q => hb (.inr q)) e) fun b o hb e => ?_
      rcases hb with rfl | rfl
      · obtain ⟨o', ho, hc, _⟩ := hit
        rw [ho] at e
        rw [← Option.some.inj e, hc]
        simp
      · obtain ⟨o', es, ep, ho, hc, _⟩ := hd
        rw [ho] at e
        rw [← Option.some.inj e, hc.1]
        simp
    · simp only [List.length_cons] at hz
      omega
    · intro h' tk hd' hk'
      exact hR h' tk hd' fun b o h1 h2 e => hk' b o h1 h2 (old b o h1 h2 e)
theorem call_dict_list {o : Addr} {ob : Obj} {vs : List Value} {k : Nat} {r : List (Int × Value)} {Q : Value → Shared → Prop} (hh : A.handled = none) (ho : s.heap.get? o = some ob) (hc : ob.cls = .type "list") (hdat : ob.data = .seq vs.toArray k) (hdn : ob.dict = none) (hp : PairVals s.heap vs r) (hz : r.length ≤ 1000)
    (h : ∀ h' tk d, (∀ b o, s.heap.get? b = some o → h'.get? b = some o) → s.heap.objs.size ≤ d → h'.DictOf (PySem.intKind prog w) d (r.foldl (fun a p => stored a p.1 p.2) []) → Q (.ref d) { s with heap := h', toks := tk }) :
    wpAny (model prog w) A (call (.type "dict") [.ref o]) Q E s := by
  refine callType_codes (Q₁ := fun obj s₁ => obj = .ref s.heap.objs.size ∧ s₁ = { s with heap := s.heap.push { cls := .type "dict", data := .dict #[] } }) _root_.PySem.F.kt_called_dict (_root_.PySem.F.kt_typeCall_dict_1 _) _root_.PySem.F.entry_dict_init (kt_code_dict_new _ ⟨rfl, rfl⟩) ?_
  intro obj s₁ hI0
  refine fold_goal (fun gX gk => ?_)
  obtain ⟨rfl, rfl⟩ := hI0
  have hnew : (s.heap.push { cls := .type "dict", data := .dict #[] }).DictOf (PySem.intKind prog w) s.heap.objs.size [] := Heap.DictOf.new s.heap
  have ho' : (s.heap.push { cls := .type "dict", data := .dict #[] }).get? o = some ob := Heap.get?_push_of_some _ ho
  refine gk ?_
  clear gk gX
  refine ⟨hnew.typeIs, _root_.PySem.F.args_dict_init_2 _ _, ?_⟩
  unfold Builtin.«dict.__init__»
  refine wpAny_bind ?_
  unfold Builtin.Dict.selfAndRest
  refine wpAny_bind (wpAny_notOrdered_dict hnew.typeIs ?_)
  show wpAny _ _ (pure (s.heap.objs.size, [Value.ref o])) _ _ _
  refine wpAny_pure ?_
  show wpAny _ _ (Builtin.Dict.updateFrom "dict.__init__" s.heap.objs.size (.ref o) [] .none) _ _ _
  unfold Builtin.Dict.updateFrom
  refine wpAny_bind (wpAny_typeOf (T := "list") ⟨_, ho', hc⟩ ?_)
  rw [if_pos (by decide)]
  refine wpAny_bind (keys_miss ho' hc hdat hdn (by exact hh) fun h₁ tk₁ e₁ x₁ => ?_)
  simp only [Option.isNone_none, if_true]
  refine wpAny_bind (wpAny_rule (wpAny_bind ?_))
  have ho₁ : h₁.get? o = some ob := x₁.keeps _ _ ho'
  refine wpAny_pyIter_list ⟨ob, ho₁, hc, k, hdat⟩ ?_
  have hsz : (s.heap.push { cls := .type "dict", data := .dict #[] }).objs.size ≤ h₁.objs.size := by
    rcases Nat.lt_or_ge h₁.objs.size (s.heap.push { cls := .type "dict", data := .dict #[] }).objs.size with hlt | hge
    · exfalso
      have e := Heap.get?_push_size s.heap (o := { cls := .type "dict", data := .dict #[] }) rfl
      have := ltN (Heap.lt_size (x₁.keeps _ _ e))
      rw [Heap.size_push] at hlt
      omega
    · exact hge
  rw [Heap.size_push] at hsz
  have olt : o < s.heap.objs.size := Heap.lt_size ho
  have hl₂ : (h₁.push { cls := .type "list_iterator", data := .fields #[.ref o, .int 0 0] }).IsList o ([] ++ vs).toArray := ⟨ob, Heap.get?_push_of_some _ ho₁, hc, k, hdat⟩
  have hd₁ : h₁.DictOf (PySem.intKind prog w) s.heap.objs.size [] := dictOf_at hnew fun o e => x₁.keeps _ _ e
  have up : ∀ b o', s.heap.get? b = some o' → (h₁.push { cls := .type "list_iterator", data := .fields #[.ref o, .int 0 0] }).get? b = some o' := fun b o' e => Heap.get?_push_of_some _ (x₁.keeps _ _ (Heap.get?_push_of_some _ e))
  refine wpAny_pure ⟨Code.quiet_builtin _ (by decide +kernel), ?_⟩
  refine dict_loop (by exact hh) (Nat.ne_of_gt (Nat.lt_of_lt_of_le (Nat.lt_succ_self _) hsz)) (Nat.ne_of_lt olt) (Nat.ne_of_lt (Nat.lt_of_lt_of_le olt (Nat.le_of_succ_le hsz))) r [] vs 0 [] _ _ ⟨_, Heap.get?_push_size _ rfl, rfl, rfl⟩ hl₂ (dictOf_at hd₁ fun o e => Heap.get?_push_of_some _ e) (hp.mono (bad := fun _ => False) (fun b o' _ e => up b o' e) fun _ _ q => q.elim) (by simpa using hz) fun h' tk hd' hk' => ?_
  refine ⟨rfl, h h' tk _ (fun b o' e => hk' b o' ?_ ?_ (up b o' e)) (Nat.le_refl _) hd'⟩
  · have := Heap.lt_size e
    exact Nat.ne_of_lt (Nat.lt_of_lt_of_le this (Nat.le_of_succ_le hsz))
  · exact Nat.ne_of_lt (Heap.lt_size e)
end
end
section
theorem reset_PRows : True := by
  w_top off
  trivial
local macro_rules | `(tactic| walk_at "mine:none") => `(tactic| skip)
abbrev Rows := List (Int × List (Int × Int))
def rget (R : Rows) (k : Int) : Option (List (Int × Int)) := (R.find? fun q => q.1 = k).map (·.2)
def rput (R : Rows) (k : Int) (v : List (Int × Int)) : Rows := if R.any (fun q => q.1 = k) then R.map (fun q => if q.1 = k then (q.1, v) else q) else R ++ [(k, v)]
def rowAt (R : Rows) (y : Int) : List (Int × Int) := (rget R y).getD []
abbrev pds (ps : List (Int × Int)) : Dat := .list (ps.map pd)
inductive RowsIn (kn : List (Addr × Obj)) : List (Int × Value) → Rows → Prop
  | nil : RowsIn kn [] []
  | cons {k : Int} {v : Value} {ps : List (Int × Int)} {kvs : List (Int × Value)} {R : Rows} : DatIn kn v (pds ps) → RowsIn kn kvs R → RowsIn kn ((k, v) :: kvs) ((k, ps) :: R)
theorem RowsIn.mono {kn kn' : List (Addr × Obj)} (h : ∀ p ∈ kn, p ∈ kn') {kvs : List (Int × Value)} {R : Rows} (x : RowsIn kn kvs R) : RowsIn kn' kvs R := by
  induction x with
  | nil => exact .nil
  | cons a _ ih => exact .cons (DatIn.mono h a) ih
theorem RowsIn.keys {kn : List (Addr × Obj)} {kvs : List (Int × Value)} {R : Rows} (x : RowsIn kn kvs R) : kvs.map (·.1) = R.map (·.1) := by
  induction x with
  | nil => rfl
  | cons _ _ ih => simp only [List.map_cons, ih]
theorem RowsIn.length {kn : List (Addr × Obj)} {kvs : List (Int × Value)} {R : Rows} (x : RowsIn kn kvs R) : kvs.length = R.length := by
  induction x with
  | nil => rfl
  | cons _ _ ih => simp only [List.length_cons, ih]
theorem RowsIn.at {kn : List (Addr × Obj)} {kvs : List (Int × Value)} {R : Rows} (x : RowsIn kn kvs R) (k : Int) : (valueAt kvs k = none ∧ rget R k = none) ∨ ∃ v ps, valueAt kvs k = some v ∧ rget R k = some ps ∧ DatIn kn v (pds ps) := by
  induction x with
  | nil => exact .inl ⟨rfl, rfl⟩
  | @cons k' v ps kvs R hv _ ih =>
    unfold valueAt rget at *
    simp only [List.find?_cons]
    by_cases e : k' = k
    · simp only [e, decide_true, Option.map_some]
      exact .inr ⟨v, ps, rfl, rfl, hv⟩
    · simp only [e, decide_false]
      exact ih
theorem RowsIn.any {kn : List (Addr × Obj)} {kvs : List (Int × Value)} {R : Rows} (x : RowsIn kn kvs R) (k : Int) : kvs.any (fun kv => decide (kv.1 = k)) = R.any (fun q => decide (q.1 = k)) := by
  induction x with
  | nil => rfl
  | cons _ _ ih => simp only [List.any_cons, ih]
theorem RowsIn.map_put {kn : List (Addr × Obj)} {kvs : List (Int × Value)} {R : Rows} (x : RowsIn kn kvs R) (k : Int) {v : Value} {ps : List (Int × Int)} (hv : DatIn kn v (pds ps)) : RowsIn kn (kvs.map fun kv => if kv.1 = k then (kv.1, v) else kv) (R.map fun q => if q.1 = k then (q.1, ps) else q) := by
  induction x with
  | nil => exact .nil
  | @cons k' _ _ _ _ a _ ih =>
    simp only [List.map_cons]
    by_cases e : k' = k
    · rw [if_pos e, if_pos e]; exact .cons hv ih
    · rw [if_neg e, if_neg e]; exact .cons a ih
theorem RowsIn.snoc {kn : List (Addr × Obj)} {kvs : List (Int × Value)} {R : Rows} (x : RowsIn kn kvs R) (k : Int) {v : Value} {ps : List (Int × Int)} (hv : DatIn kn v (pds ps)) : RowsIn kn (kvs ++ [(k, v)]) (R ++ [(k, ps)]) := by
  induction x with
  | nil => exact .cons hv .nil
  | cons a _ ih => exact .cons a ih
theorem RowsIn.stored {kn : List (Addr × Obj)} {kvs : List (Int × Value)} {R : Rows} (x : RowsIn kn kvs R) (k : Int) {v : Value} {ps : List (Int × Int)} (hv : DatIn kn v (pds ps)) : RowsIn kn (stored kvs k v) (rput R k ps) := by
  unfold PySem.stored rput
  rw [x.any k]
  split
  · exact x.map_put k hv
  · exact x.snoc k hv
theorem rput_length (R : Rows) (k : Int) (v : List (Int × Int)) : (rput R k v).length ≤ R.length + 1 := by
  unfold rput
  split
  · rw [List.length_map]; omega
  · rw [List.length_append, List.length_singleton]; omega
theorem RowsIn.fold {kn : List (Addr × Obj)} : ∀ {r : List (Int × Value)} {S : Rows} {kvs : List (Int × Value)} {R : Rows}, RowsIn kn r S → RowsIn kn kvs R → RowsIn kn (r.foldl (fun a p => PySem.stored a p.1 p.2) kvs) (S.foldl (fun a p => rput a p.1 p.2) R) := by
  intro r S kvs R h
  induction h generalizing kvs R with
  | nil => exact fun x => x
  | cons a _ ih => exact fun x => ih (x.stored _ a)
/-- a dict of rows among what is known -/
def DictIn (prog : Program) (w : World) (kn : List (Addr × Obj)) (v : Value) (R : Rows) : Prop :=
  Ex3 fun (d : Addr) (od : Obj) (kvs : List (Int × Value)) => An5 (v = .ref d) ((d, od) ∈ kn) (od.IsDictOf (PySem.intKind prog w) kvs) (RowsIn kn kvs R) ((d == sysModules) = false)
/-- what a dict of rows holds, its place in the ledger aside -/
def DictAt (prog : Program) (w : World) (kn : List (Addr × Obj)) (d : Addr) (od : Obj) (R : Rows) : Prop := Ex1 fun (kvs : List (Int × Value)) => An3 (od.IsDictOf (PySem.intKind prog w) kvs) (RowsIn kn kvs R) ((d == sysModules) = false)
theorem DictIn.mono {prog : Program} {w : World} {kn kn' : List (Addr × Obj)} (h : ∀ p ∈ kn, p ∈ kn') {v : Value} {R : Rows} : DictIn prog w kn v R → DictIn prog w kn' v R := fun ⟨d, od, kvs, e, a, b, c, f⟩ => ⟨d, od, kvs, e, h _ a, b, c.mono h, f⟩
theorem isDictOf_nodup {prog : Program} {w : World} {od : Obj} {kvs : List (Int × Value)} (h : od.IsDictOf (PySem.intKind prog w) kvs) : (kvs.map (·.1)).Nodup := let ⟨_, _, _, _, _, _, n⟩ := h; n
theorem pd_inj {a b : List (Int × Int)} : a.map pd = b.map pd ↔ a = b :=
  List.map_inj_right fun a b hab => by
    simp only [Dat.tuple.injEq, List.cons.injEq, Dat.int.injEq, and_true] at hab
    exact Prod.ext hab.1 hab.2
open Classical in
theorem pd_eq_t {a b : List (Int × Int)} (h : a = b) : decide (a.map pd = b.map pd) = true := decide_eq_true (pd_inj.mpr h)
open Classical in
theorem pd_eq_f {a b : List (Int × Int)} (h : a ≠ b) : decide (a.map pd = b.map pd) = false := decide_eq_false fun e => h (pd_inj.mp e)
theorem news_drop2 {h₀ h : Heap} {L : Addr} {a b : Addr × Obj} {l : List (Addr × Obj)} (N : News h₀ L h (a :: b :: l)) : News h₀ L h (a :: l) := fun q hq => N q (by
  rcases mem_cons_s hq with rfl | hq
  · exact .head _
  · exact .tail _ (.tail _ hq))
section
variable {prog : Program} {w : World} {A : Around} {E : Value → Shared → Prop} {s : Shared} {h₀ : Heap} {L d : Addr} {m : Str → Option Value} {news : List (Addr × Obj)} {od : Obj} {kvs : List (Int × Value)}
theorem rows_list {Q : Value → Shared → Prop} (hh : A.handled = none) (F : Fr h₀ L s.heap m) (N : News h₀ L s.heap news) (hp : (d, od) ∈ news) (hd : od.IsDictOf (PySem.intKind prog w) kvs) (lo : (d == sysModules) = false) (hn : kvs.length ≤ 1000)
    (h : ∀ (D : Addr) c h' tk (vs : List Value), Fr h₀ L h' m → News h₀ L h' ((D, listOf vs.toArray c) :: news) → (∀ q ∈ news, q.1 < D) → IntsAre vs (kvs.map (·.1)) → Q (.ref D) { s with heap := h', toks := tk }) :
    wpAny (model prog w) A (call (.type "list") [.ref d]) Q E s := by
  obtain ⟨ep, hat⟩ := (kda_dict N hp hd).dictAt
  refine kdl_N (kdl_dict (knd := PySem.intKind prog w) (kvs := kvs) (ep := ep) lo) hh F N hat (kdl_size (by omega)) fun D c h' tk vs F' N' l1 hl hv => h D c h' tk vs F' N' l1 ?_
  clear hat hd hn F' N' h
  induction vs generalizing kvs with
  | nil =>
    have : kvs = [] := List.length_eq_zero_iff.mp hl.symm
    subst this
    exact .nil
  | cons v vs ih =>
    refine fold_goal (fun gX gk => ?_)
    cases kvs with
    | nil => simp at hl
    | cons p kvs =>
      obtain ⟨k, x, hx, hk⟩ := hv 0 v rfl
      simp only [List.getElem?_cons_zero, Option.some.injEq] at hx
      subst hx
      obtain ⟨t, rfl⟩ := intKind_out hk
      refine gk ?_
      clear gk gX
      exact .cons _ _ (ih (by simpa using hl) fun j u hu => hv (j + 1) u (by simpa using hu))
theorem sorted_ns {l : Addr} {vs : List Value} {ns : List Int} {Q : Value → Shared → Prop} (F : Fr h₀ L s.heap m) (N : News h₀ L s.heap news) (hl : s.heap.IsList l vs.toArray) (hI : IntsAre vs ns) (h64 : vs.length < 64)
    (h : ∀ D h' vs' ns' e, Fr h₀ L h' m → News h₀ L h' ((D, listOf vs'.toArray e) :: news) → (∀ q ∈ news, q.1 < D) → IntsAre vs' ns' → ns'.Perm ns → ns'.Pairwise (· ≤ ·) → Q (.ref D) { s with heap := h' }) :
    wpAny (model prog w) A (call (.builtin "sorted") [.ref l]) Q E s :=
  sorted_N F N hl hI h64 fun h' vs' ns' e F' N' a b c => h _ h' vs' ns' e F' N' (fun q hq => Nat.lt_succ_of_lt (Heap.lt_size (N q hq).1)) a b c
theorem list_add_c {l b : Addr} {us vs : List Value} {n k : Nat} {Q : Value → Shared → Prop} (F : Fr h₀ L s.heap m) (N : News h₀ L s.heap news) (hl : (l, listOf us.toArray n) ∈ news) (hb : (b, listOf vs.toArray k) ∈ news)
    (h : ∀ D h', Fr h₀ L h' m → News h₀ L h' ((D, listOf (us ++ vs).toArray 0) :: news) → (∀ q ∈ news, q.1 < D) → Q (.ref D) { s with heap := h' }) (hz : us.length + vs.length ≤ 10000) : wpAny (model prog w) A (binaryOp .Add (.ref l) (.ref b)) Q E s := by
  refine kmk_add_lit F N (News.isList N hl) (News.isList N hb) (by simp) (fun D h' F' N' l' => h D h' F' N' l') ?_
  simp only [sizeLine_eq, List.toList_toArray]; omega
/-- `rows[y]` -/
theorem rows_item {value slice : PySem.Expr} {Q : Value → Shared → Prop} {k : Int} {t : Tok} {kn : List (Addr × Obj)} {R : Rows} {ps : List (Int × Int)} (N : News h₀ L s.heap news) (hkn : ∀ p ∈ kn, p ∈ news) (hD : DictAt prog w kn d od R) (a : (d, od) ∈ news) (hl : rget R k = some ps)
    (h : ∀ l vs n, (l, listOf vs.toArray n) ∈ kn → (l, listOf vs.toArray n) ∈ news → DatAll kn vs (ps.map pd) → vs.length = ps.length → Q (.ref l) { s with toks := s.toks + 1 })
    (hs : subscripted slice false (.ref d) (.int k t) = operate [.ref d, .int k t] (getItem (.ref d) (.int k t))) (hg : ∀ r, letTemporaryGo value (.ref d) r = pure ()) :
    wpAny (model prog w) A (subscriptTail value slice (.ref d) (.int k t)) Q E s := by
  refine fold_goal (fun gX gk => ?_)
  obtain ⟨kvs, b, c, f⟩ := hD
  refine gk ?_
  clear gk gX
  rcases c.at k with ⟨_, e2⟩ | ⟨v, ps', e1, e2, hv⟩
  · rw [e2] at hl; cases hl
  · rw [e2] at hl
    refine fold_goal (fun gX gk => ?_)
    cases hl
    obtain ⟨l, vs, n, rfl, h1, h2⟩ := dat_list hv
    refine gk ?_
    clear gk gX
    exact kda_item N a b (intKind_is prog w k t) e1 (h l vs n h1 (hkn _ h1) h2 (by rw [h2.length, List.length_map])) hs hg
theorem rows_get_method {pl : Sem Bool} {Q : Value × List Value → Shared → Prop} {kn : List (Addr × Obj)} {R : Rows} (N : News h₀ L s.heap news) (hD : DictAt prog w kn d od R) (a : (d, od) ∈ news) (h : Q (.builtin "dict.get", [.ref d]) s) : wpAny (model prog w) A (getMethod (.ref d) "get" pl) Q E s := by
  refine fold_goal (fun gX gk => ?_)
  obtain ⟨kvs, b, c, f⟩ := hD
  refine gk ?_
  clear gk gX
  exact kdg_method N a b h
/-- `rows.get(y, [])` -/
theorem rows_get {Q : Value → Shared → Prop} {k : Int} {t : Tok} {D : Addr} {kn : List (Addr × Obj)} {R : Rows} (N : News h₀ L s.heap news) (hkn : ∀ p ∈ kn, p ∈ news) (hD : DictAt prog w kn d od R) (a : (d, od) ∈ news) (hx : (D, listOf #[] 0) ∈ news)
    (h : ∀ l vs n, (l, listOf vs.toArray n) ∈ news → DatAll kn vs ((rowAt R k).map pd) → vs.length = (rowAt R k).length → Q (.ref l) { s with toks := s.toks + 1 }) :
    wpAny (model prog w) A (call (.builtin "dict.get") [.ref d, .int k t, .ref D]) Q E s := by
  refine fold_goal (fun gX gk => ?_)
  obtain ⟨kvs, b, c, f⟩ := hD
  refine gk ?_
  clear gk gX
  unfold rowAt at h
  rcases c.at k with ⟨e1, e2⟩ | ⟨v, ps', e1, e2, hv⟩
  · rw [e2] at h
    exact kdg_get2 N a b f (intKind_is prog w k t) _ e1 (h D [] 0 hx .nil rfl)
  · rw [e2] at h
    refine fold_goal (fun gX gk => ?_)
    obtain ⟨l, vs, n, rfl, h1, h2⟩ := dat_list hv
    refine gk ?_
    clear gk gX
    exact kdg_get2 N a b f (intKind_is prog w k t) _ e1 (h l vs n (hkn _ h1) h2 (by rw [h2.length, List.length_map]; rfl))
end
def rstep (R : Rows) (G : Rows) (y : Int) : Rows := if rowAt R y = [] then G else rput G y (rowAt R y)
/-- rows, rising, none empty, as a def tells them -/
def RegIs (G : Rows) (f : Int → List (Int × Int)) : Prop := G.Pairwise (fun a b => a.1 < b.1) ∧ (∀ q ∈ G, q.2 ≠ []) ∧ ∀ y, rowAt G y = f y
theorem rget_some_of_mem {R : Rows} (hn : (R.map (·.1)).Nodup) : ∀ {q : Int × List (Int × Int)}, q ∈ R → rget R q.1 = some q.2 := by
  induction R with
  | nil => intro q h; cases h
  | cons p R ih =>
    intro q h
    simp only [List.map_cons, List.nodup_cons] at hn
    unfold rget
    rw [List.find?_cons]
    rcases mem_cons_s h with rfl | h
    · simp
    · have : p.1 ≠ q.1 := fun e => hn.1 (e ▸ List.mem_map.mpr ⟨q, h, rfl⟩)
      simp only [this, decide_false]
      exact ih hn.2 h
theorem rget_none {R : Rows} {y : Int} (h : y ∉ R.map (·.1)) : rget R y = none := by
  unfold rget
  rw [Option.map_eq_none_iff, List.find?_eq_none]
  intro q hq
  simp only [decide_eq_true_eq]
  exact fun e => h (List.mem_map.mpr ⟨q, hq, e⟩)
theorem rput_new {G : Rows} {y : Int} {ps : List (Int × Int)} (h : y ∉ G.map (·.1)) : rput G y ps = G ++ [(y, ps)] := by
  unfold rput
  rw [if_neg]
  simp only [List.any_eq_true, decide_eq_true_eq, not_exists, not_and]
  exact fun q hq e => h (List.mem_map.mpr ⟨q, hq, e⟩)
theorem rstep_fold (R : Rows) : ∀ (ns : List Int) (G : Rows), ns.Pairwise (· < ·) → (∀ y ∈ ns, y ∉ G.map (·.1)) → ns.foldl (rstep R) G = G ++ (ns.filter fun y => rowAt R y != []).map fun y => (y, rowAt R y) := by
  intro ns
  induction ns with
  | nil => intro G _ _; simp
  | cons y ns ih =>
    intro G hs hG
    rw [List.pairwise_cons] at hs
    rw [List.foldl_cons]
    by_cases e : rowAt R y = []
    · rw [rstep, if_pos e, ih G hs.2 fun z hz => hG z (.tail _ hz)]
      simp [e]
    · rw [rstep, if_neg e, rput_new (hG y (.head _)), ih _ hs.2]
      · rw [List.filter_cons_of_pos (by simpa using e), List.map_cons, List.append_assoc, List.singleton_append]
      · intro z hz hm
        rw [List.map_append, List.mem_append] at hm
        rcases hm with hm | hm
        · exact hG z (.tail _ hz) hm
        · simp only [List.map_cons, List.map_nil, List.mem_singleton] at hm
          have := hs.1 z hz
          omega
theorem rowAt_map {f : Int → List (Int × Int)} : ∀ (ns : List Int) (y : Int), rowAt (ns.map fun z => (z, f z)) y = if y ∈ ns then f y else [] := by
  intro ns y
  induction ns with
  | nil => rfl
  | cons z ns ih =>
    unfold rowAt rget at *
    rw [List.map_cons, List.find?_cons]
    by_cases e : z = y
    · simp [e]
    · simp only [e, decide_false]
      rw [ih]
      have : y ≠ z := fun q => e q.symm
      simp [this]
theorem reg_is {R : Rows} {ns : List Int} (hn : (R.map (·.1)).Nodup) (hp : ns.Perm (R.map (·.1))) (hs : ns.Pairwise (· ≤ ·)) : RegIs (ns.foldl (rstep R) []) (rowAt R) := by
  have hnd : ns.Nodup := hp.nodup_iff.mpr hn
  have hlt : ns.Pairwise (· < ·) := by
    have := hs.and hnd
    exact this.imp fun h => by omega
  rw [rstep_fold R ns [] hlt (fun _ _ h => nomatch h), List.nil_append]
  refine ⟨?_, ?_, ?_⟩
  · rw [List.pairwise_map]
    exact (hlt.filter _).imp fun h => h
  · intro q hq
    obtain ⟨y, hy, rfl⟩ := List.mem_map.mp hq
    simpa using (List.mem_filter.mp hy).2
  · intro y
    rw [rowAt_map]
    by_cases hy : y ∈ ns
    · by_cases e : rowAt R y = []
      · rw [e]; split <;> rfl
      · rw [if_pos (List.mem_filter.mpr ⟨hy, by simpa using e⟩)]
    · rw [if_neg fun h => hy (List.mem_filter.mp h).1]
      have : y ∉ R.map (·.1) := fun h => hy (hp.mem_iff.mpr h)
      rw [rowAt, rget_none this]
      rfl

theorem rowAt_cons (k : Int) (ps : List (Int × Int)) (R : Rows) (z : Int) : rowAt ((k, ps) :: R) z = if k = z then ps else rowAt R z := by
  unfold rowAt rget
  rw [List.find?_cons]
  by_cases e : k = z
  · simp [e]
  · simp [e]
theorem rowAt_map_put (R : Rows) (y : Int) (v : List (Int × Int)) (z : Int) : rowAt (R.map fun q => if q.1 = y then (q.1, v) else q) z = if z = y then (if R.any (fun q => decide (q.1 = y)) then v else []) else rowAt R z := by
  induction R with
  | nil => simp [rowAt, rget]
  | cons q R ih =>
    obtain ⟨k, ps⟩ := q
    rw [List.map_cons, List.any_cons]
    by_cases e : k = y
    · subst e
      rw [if_pos rfl, rowAt_cons, ih, rowAt_cons]
      by_cases e2 : z = k
      · subst e2; simp
      · have : ¬ k = z := fun h => e2 h.symm
        simp [e2, this]
    · rw [if_neg e, rowAt_cons, ih, rowAt_cons]
      by_cases e2 : z = y
      · subst e2
        rw [if_neg e, if_pos rfl, if_pos rfl, decide_eq_false e, Bool.false_or]
      · simp [e2]
theorem rowAt_append (R S : Rows) (z : Int) : rowAt (R ++ S) z = if R.any (fun q => decide (q.1 = z)) then rowAt R z else rowAt S z := by
  induction R with
  | nil => simp
  | cons q R ih =>
    obtain ⟨k, ps⟩ := q
    rw [List.cons_append, rowAt_cons, ih, rowAt_cons, List.any_cons]
    by_cases e : k = z
    · simp [e]
    · rw [if_neg e, if_neg e, decide_eq_false e, Bool.false_or]
theorem rowAt_rput (R : Rows) (y : Int) (v : List (Int × Int)) (z : Int) : rowAt (rput R y v) z = if z = y then v else rowAt R z := by
  unfold rput
  by_cases h : R.any (fun q => decide (q.1 = y)) = true
  · rw [if_pos h, rowAt_map_put, if_pos h]
  · rw [if_neg h, rowAt_append]
    by_cases e : z = y
    · subst e
      rw [if_neg h, rowAt_cons, if_pos rfl, if_pos rfl]
    · rw [rowAt_cons, if_neg (fun q : y = z => e q.symm)]
      by_cases h2 : R.any (fun q => decide (q.1 = z)) = true
      · rw [if_pos h2, if_neg e]
      · rw [if_neg h2, if_neg e]
        have : z ∉ R.map (·.1) := fun hm => by
          obtain ⟨q, hq, e⟩ := List.mem_map.mp hm
          exact h2 (List.any_eq_true.mpr ⟨q, hq, by simpa using e⟩)
        rw [rowAt, rowAt, rget_none this]
        rfl
theorem rput_keys (R : Rows) (y : Int) (v : List (Int × Int)) (z : Int) : z ∈ (rput R y v).map (·.1) ↔ z = y ∨ z ∈ R.map (·.1) := by
  unfold rput
  by_cases h : R.any (fun q => decide (q.1 = y)) = true
  · rw [if_pos h, List.map_map]
    have : ((fun q : Int × List (Int × Int) => q.1) ∘ fun q => if q.1 = y then (q.1, v) else q) = fun q => q.1 := by
      funext q
      show (if q.1 = y then (q.1, v) else q).1 = q.1
      split <;> rfl
    rw [this]
    constructor
    · exact .inr
    · rintro (rfl | h')
      · obtain ⟨q, hq, e⟩ := List.any_eq_true.mp h
        exact List.mem_map.mpr ⟨q, hq, by simpa using e⟩
      · exact h'
  · rw [if_neg h, List.map_append, List.mem_append]
    simp only [List.map_cons, List.map_nil, List.mem_singleton]
    exact Or.comm
theorem rput_nodup {R : Rows} (hn : (R.map (·.1)).Nodup) (y : Int) (v : List (Int × Int)) : ((rput R y v).map (·.1)).Nodup := by
  unfold rput
  by_cases h : R.any (fun q => decide (q.1 = y)) = true
  · rw [if_pos h, List.map_map]
    have : ((fun q : Int × List (Int × Int) => q.1) ∘ fun q => if q.1 = y then (q.1, v) else q) = fun q => q.1 := by
      funext q
      show (if q.1 = y then (q.1, v) else q).1 = q.1
      split <;> rfl
    rw [this]
    exact hn
  · rw [if_neg h, List.map_append]
    refine List.nodup_append.mpr ⟨hn, by simp, fun a ha b hb => ?_⟩
    simp only [List.map_cons, List.map_nil, List.mem_singleton] at hb
    subst hb
    rintro rfl
    obtain ⟨q, hq, e⟩ := List.mem_map.mp ha
    exact h (List.any_eq_true.mpr ⟨q, hq, by simpa using e⟩)
theorem rows_nil_of {R : Rows} (hn : (R.map (·.1)).Nodup) : R.foldl (fun a p => rput a p.1 p.2) [] = R := by
  have : ∀ (S R : Rows), (R.map (·.1)).Nodup → (∀ q ∈ R, q.1 ∉ S.map (·.1)) → R.foldl (fun a p => rput a p.1 p.2) S = S ++ R := by
    intro S R
    induction R generalizing S with
    | nil => intro _ _; simp
    | cons q R ih =>
      intro hn hS
      rw [List.map_cons, List.nodup_cons] at hn
      rw [List.foldl_cons, rput_new (hS q (.head _)), ih _ hn.2, List.append_assoc]
      · rfl
      · intro r hr hm
        rw [List.map_append, List.mem_append] at hm
        rcases hm with hm | hm
        · exact hS r (.tail _ hr) hm
        · simp only [List.map_cons, List.map_nil, List.mem_singleton] at hm
          exact hn.1 (hm ▸ List.mem_map.mpr ⟨r, hr, rfl⟩)
  simpa using this [] R hn fun _ _ h => nomatch h
end
section
theorem reset_PReg : True := by
  w_top off
  trivial
local macro_rules | `(tactic| walk_at "subscriptTail") => `(tactic| (k_here; (with_reducible show wpAny _ _ (subscriptTail _ _ (Value.ref _) (Value.int _ _)) _ _ _); k_dflt (refine' rows_item ?N ?kn ?hD ?hm ?hl ?_ ?hs ?hg; (case hD => assumption); (case N => k_asm); (case kn => walk_at "mine:known"); (case hm => k_mem); (case hl => assumption); (case hs => with_unfolding_all rfl); (case hg => (intro _; with_unfolding_all rfl)); k_whole); intro l' vs' n' hl' hm' hv' hn'))
local macro_rules | `(tactic| walk_at "getMethod ref") => `(tactic| (k_here; k_dflt (refine' rows_get_method ?N ?hD ?hm ?_; (case hD => assumption); (case N => k_asm); (case hm => k_mem); k_whole)))
local macro_rules | `(tactic| walk_at "call builtin:dict.get") => `(tactic| (k_here; k_dflt (refine' rows_get ?N ?kn ?hD ?hm ?hx ?_; (case hD => assumption); (case N => k_asm); (case kn => walk_at "mine:known"); (case hm => k_mem); (case hx => k_mem); k_whole); intro l' vs' n' hm' hv' hn'))
local macro_rules | `(tactic| walk_at "mine:known") => `(tactic| first | assumption | (intro q hq; first | exact List.mem_append_right _ (by solve_by_elim) | (simp only [List.mem_cons, List.mem_append] at hq ⊢; grind only)))
local macro_rules | `(tactic| walk_at "setItem ref int") => `(tactic| (k_here; (with_reducible show wpAny _ _ (setItem (Value.ref _) (Value.int _ _) _) _ _ _); k_dflt (refine' kda_set (knd := PySem.intKind _ _) ?F ?N ?U ?hd ?hk ?hz ?_; (case F => k_asm); (case N => k_asm); (case U => k_updF); (case hd => assumption); (case hk => exact intKind_is _ _ _ _); (case hz => (rw [sizeLine_eq]; omega)); k_whole); intro h' o' F' N' hd'; (try dsimp only at N'); (try k_sweep)))
local macro_rules | `(tactic| walk_at "call type:list") => `(tactic| (k_here; (with_reducible show wpAny _ _ (call (Value.type "list") [Value.ref _]) _ _ _); k_dflt (first
  | (refine' list_copyK ?k1 ?k2 ?k3 ?_ ?z; (case k1 => k_asm); (case k2 => k_asm); (case k3 => exact News.isList (by k_asm) (by k_mem)); (case z => (simp only [List.size_toArray, sizeLine_eq]; omega)); k_whole; intro D' c' h' F' N' l1; (try k_lt l1); (try k_sweep))
  | (refine' rows_list ?hh ?F ?N ?hp ?hd ?lo ?hn ?_; (case hh => exact rfl); (case F => k_asm); (case N => k_asm); (case hp => k_mem); (case hd => assumption); (case lo => assumption); (case hn => omega); k_whole; intro D' c' h' tk' vs' F' N' l1 hi'; (try k_lt l1); (try k_sweep)))))
local macro_rules | `(tactic| walk_at "call builtin:sum") => `(tactic| (k_here; (with_reducible show wpAny _ _ (call (Value.builtin "sum") [Value.ref _]) _ _ _); k_dflt (refine' sum_ints ?F ?N ?hh ?hl ?hi ?_; (case hi => assumption); (case F => k_asm); (case N => k_asm); (case hh => exact rfl); (case hl => exact News.isList (by k_asm) (by k_mem)); k_whole); intro h' tk' t' F' N'; (try k_sweep)))
local macro_rules | `(tactic| walk_at "binaryOp Add ref ref") => `(tactic| (k_here; (with_reducible show wpAny _ _ (binaryOp _ (Value.ref _) (Value.ref _)) _ _ _); k_dflt (refine' list_add_c ?F ?N ?a ?b ?_ ?z; (case F => k_asm); (case N => k_asm); (case a => k_mem); (case b => k_mem); (case z => (simp only [List.length_cons, List.length_nil]; omega)); k_whole); intro D' h' F' N' l1; (try k_lt l1); (try k_sweep)))
section
variable {prog : Program} {w : World} {p : Program} {loose : List Str} {mean : ExcName → Option Value} {mg mb : Str → Option Value}
/-- a region among what is known -/
def RegionIn (prog : Program) (w : World) (kn : List (Addr × Obj)) (v : Value) (G : Rows) : Prop :=
  Ex8 fun (x dx d : Addr) (od : Obj) (hsh : Int) (t : Tok) (n : Nat) (kvs : List (Int × Value)) => An7 (v = .ref x) ((x, instObj 102 dx) ∈ kn) ((dx, dictOf [⟨hsh, .str (Str.ofString "rows") t, .ref d⟩] n) ∈ kn) ((d, od) ∈ kn) (od.IsDictOf (PySem.intKind prog w) kvs) (RowsIn kn kvs G) ((d == sysModules) = false)
/-- the rows that are kept, loop -/
inductive RgInv (prog : Program) (w : World) (kn rest : List (Addr × Obj)) (d2 x1 d lI : Addr) (R total : Rows) (xs : List Itm) (m : Str → Option Value) (nx : List (Addr × Obj)) : Prop
  | mk (ns : List Int) (us : List Value) (od2 : Obj) (kvs2 : List (Int × Value)) (G : Rows) (add : List (Addr × Obj)) (ih0 : xs = us.map .val) (ih1 : IntsAre us ns) (ih2 : (∀ y ∈ ns, ∃ ps, rget R y = some ps)) (ih3 : nx = (d2, od2) :: (add ++ rest)) (ih4 : od2.IsDictOf (PySem.intKind prog w) kvs2) (ih5 : RowsIn (add ++ kn) kvs2 G) (ih6 : (∀ q ∈ rest, ∀ r ∈ add, q.1 < r.1)) (ih7 : OwnOff add [d2, lI]) (ih8 : m (Str.ofString "self") = some (.ref x1)) (ih9 : m (Str.ofString "rows") = some (.ref d)) (ih10 : ns.foldl (rstep R) G = total) (ih11 : G.length + ns.length ≤ 20) : RgInv prog w kn rest d2 x1 d lI R total xs m nx
theorem RegionIn.mono {kn kn' : List (Addr × Obj)} {v : Value} {G : Rows} (x : RegionIn prog w kn v G) (h : ∀ p ∈ kn, p ∈ kn') : RegionIn prog w kn' v G := let ⟨x, dx, d, od, hsh, t, n, kvs, e, a, b, c, f, g, i⟩ := x; ⟨x, dx, d, od, hsh, t, n, kvs, e, h _ a, h _ b, h _ c, f, g.mono h, i⟩
theorem region_c {dp un : Nat} {gd : Option (List Code)} {cn : Str} {cs : Scope} {a : Addr} {ccd : Value} {cl : List (Str × Addr)} {outer : List Env} {A₀ : Around} {base h₀ : Heap} {L : Addr} {m : Str → Option Value} {s : Shared}
    {Q E : Value → Shared → Prop} {v : Value} {R : Rows} {kn news : List (Addr × Obj)}
    (B : Below A₀ base outer h₀) (F : Fr h₀ L s.heap m) (X : (hd.heap_1 w.params).In h₀) (N : News h₀ L s.heap news) (hkn : ∀ p ∈ kn, p ∈ news)
    (T : Top p loose mean mg mb h₀) (hk : cs.kind = .function) (hd : dp + 1 < recursionLimit) (hu : un + 100 < cLine) (hv : DictIn prog w kn v R) (hlen : R.length ≤ 20)
    (hsz : ∀ q ∈ R, q.2.length ≤ 100)
    (ret : ∀ r add h' tk' G, Fr h₀ L h' m → News h₀ L h' (add ++ news) → (∀ q ∈ news, ∀ p ∈ add, q.1 < p.1) → RegionIn prog w (add ++ kn) r G → RegIs G (rowAt R) → Q r {s with heap := h', toks := tk'}) :
    wpAny (model prog w) (ktrTop dp un gd cn cs L a ccd cl outer) (call (.ref 102) [v]) Q E s := by
  have hv' := hv
  refine fold_goal (fun gX gk => ?_)
  obtain ⟨d, od, kvs, rfl, hd1, hd2, hd3, hd4⟩ := hv
  have hd1' := hkn _ hd1
  have hdk := hd3.keys
  have hdl := hd3.length
  have hDA : DictAt prog w kn d od R := ⟨kvs, hd2, hd3, hd4⟩
  refine gk ?_
  clear gk gX
  refine call_cls F X N (by k_is) (by k_is) (by k_is) ?_
  intro x1 dx1 h1 F1 N1 l1 l2
  have l1' := l1
  (try k_lt l1)
  (try k_lt2 l2)
  k_dflt (walk_at "mine:enter")
  rename_i g1 L1 h2 FG1 F2 N2 B1 X1 T1
  walk_at "mine:steps"
  rename_i d2 h3 o2 lo3 e3 e4 e5 e6 l3 h4 F4 N4
  clear e3 e4 e6
  obtain ⟨tk0, N4⟩ : ∃ tk0, News g1 L1 h4 ((d2, o2) :: (x1, instObj 102 dx1) :: (dx1, dictOf [⟨PyData.keyHash w.params (Str.ofString "rows"), .str (Str.ofString "rows") tk0, .ref d2⟩] 1) :: news) := ⟨_, N4⟩
  refine For_turns F4 ?_
  walk_at "mine:steps"
  refine comp_rule F4 (by with_unfolding_all rfl) (by decide) (by rfl) (by decide) ?_
  walk_at "mine:steps"
  refine comp_dict rfl F4 N4 (.tail _ (.tail _ (.tail _ hd1'))) hd2 hd4 ?_ (fun I5 h5 tk5 l5 => ?_)
  · rw [sizeLine_eq]; omega
  refine comp_ind (fun xs ys nx => Ex2 fun (rs : List (Int × Value)) (ns : List Int) => An4 (xs = keyItms rs) (IntsAre ys ns) (ns ++ rs.map (·.1) = kvs.map (·.1)) (nx = (d2, o2) :: (x1, instObj 102 dx1) :: (dx1, dictOf [⟨PyData.keyHash w.params (Str.ofString "rows"), .str (Str.ofString "rows") tk0, .ref d2⟩] 1) :: news)) ?_ ?_ _ _ _ ?_
  · intro ys nx hI0 D9 h9 tk9 F9 N9 o9
    refine fold_Q ?_
    intro qF0
    refine fold_E ?_
    intro eF0
    refine fold_A ?_
    intro aF0
    refine fold_goal (fun gX gk => ?_)
    obtain ⟨rs, ns, q1, q2, q3, rfl⟩ := hI0
    have q1' : rs = [] := by simpa [keyItms] using q1.symm
    subst q1'
    rw [List.map_nil, List.append_nil] at q3
    subst q3
    refine gk ?_
    clear gk gX
    walk_at "mine:steps"
    refine sorted_ns F9 N9 (News.isList N9 (.head _)) q2 (by rw [q2.length, List.length_map]; omega) (fun D10 h10 vs10 ns10 z10 F10 N10 l10 i10 p10 s10 => ?_)
    rw [hdk] at p10
    walk_at "mine:steps"
    have lD := ltN (l10 _ (.tail _ (.head _)))
    dsimp only at lD
    refine for_list ((d2, o2) :: ([] ++ ((D10, listOf vs10.toArray z10) :: (x1, instObj 102 dx1) :: (dx1, dictOf [⟨PyData.keyHash w.params (Str.ofString "rows"), .str (Str.ofString "rows") tk0, .ref d2⟩] 1) :: news))) rfl F10 N10 ?_ (.tail _ (.head _)) rfl rfl (fun I l4 => ?_)
    · intro q hq
      (first | (refine sub_in hq ?_; walk_at "mine:in"; done) | (trace "GRINDBACK"; simp only [List.mem_cons, List.mem_append, List.nil_append] at hq ⊢; grind only))
    have bI := ltN (l4 _ (.tail _ (.tail _ (.head _))))
    dsimp only at bI
    have offd : ∀ q ∈ ((D10, listOf vs10.toArray z10) :: (x1, instObj 102 dx1) :: (dx1, dictOf [⟨PyData.keyHash w.params (Str.ofString "rows"), .str (Str.ofString "rows") tk0, .ref d2⟩] 1) :: news), q.1 ≠ d2 := by
      intro q hq
      rcases mem_cons_s hq with rfl | hq
      · exact (Nat.ne_of_lt lD).symm
      · rcases mem_cons_s hq with rfl | hq
        · exact Nat.ne_of_lt l3.1
        · rcases mem_cons_s hq with rfl | hq
          · exact Nat.ne_of_lt l3.2.1
          · exact Nat.ne_of_lt (tb_ltOf l3.2.2 q hq)
    have offI : ∀ (o : Obj) (ad : List (Addr × Obj)) (oI : Obj), OwnOff ad [d2, I] → ∀ q ∈ (d2, o) :: (ad ++ ((D10, listOf vs10.toArray z10) :: (x1, instObj 102 dx1) :: (dx1, dictOf [⟨PyData.keyHash w.params (Str.ofString "rows"), .str (Str.ofString "rows") tk0, .ref d2⟩] 1) :: news)), ∀ r ∈ [(I, oI)], q.1 ≠ r.1 := by
      intro o ad oI had q hq r hr
      rw [List.mem_singleton.mp hr]
      rcases mem_cons_s hq with rfl | hq
      · exact Nat.ne_of_lt bI
      · rcases List.mem_append.mp hq with hq | hq
        · exact had q hq _ (.tail _ (.head _))
        · refine Nat.ne_of_lt (l4 q ?_)
          rcases mem_cons_s hq with rfl | hq
          · exact .head _
          · exact .tail _ (.tail _ (.tail _ hq))
    refine items_ind (RgInv prog w kn ((D10, listOf vs10.toArray z10) :: (x1, instObj 102 dx1) :: (dx1, dictOf [⟨PyData.keyHash w.params (Str.ofString "rows"), .str (Str.ofString "rows") tk0, .ref d2⟩] 1) :: news) d2 x1 d I R (ns10.foldl (rstep R) [])) ?_ ?_ _ _ _ ?_
    · intro m5 nx h5 tk5 hI F5 N5
      refine fold_Q ?_
      intro qF1
      refine fold_E ?_
      intro eF1
      refine fold_A ?_
      intro aF1
      refine fold_goal (fun gX gk => ?_)
      obtain ⟨ns5, us5, od5, kvs5, G5, add5, e1, e2, e3, e4, e5, e6, e7, e8, e9, e10, e11, e12⟩ := hI
      subst e4
      have e1' : us5 = [] := by simpa using e1.symm
      subst e1'
      cases e2
      refine gk ?_
      clear gk gX
      dsimp only
      walk_at "mine:steps"
      rename Fr _ _ _ _ => F7
      rename News _ _ _ _ => N7
      refine ret _ ((d2, od5) :: (add5 ++ [(D10, listOf vs10.toArray z10), (x1, instObj 102 dx1), (dx1, dictOf [⟨PyData.keyHash w.params (Str.ofString "rows"), .str (Str.ofString "rows") tk0, .ref d2⟩] 1)])) _ _ G5 F7 ?_ ?_ ?_ ?_
      · intro q hq
        refine N7 q ?_
        (first | (refine sub_in hq ?_; walk_at "mine:in"; done) | (trace "GRINDBACK"; simp only [List.mem_cons, List.mem_append, List.cons_append, List.append_assoc, List.nil_append, List.not_mem_nil, or_false, false_or] at hq ⊢; grind only))
      · intro q hq r hr
        simp only [List.mem_cons, List.mem_append, List.not_mem_nil, or_false] at hr
        have hq3 := tb_ltOf l3.2.2 q hq
        rcases hr with rfl | hr | rfl | rfl | rfl
        · exact hq3
        · exact e7 q (.tail _ (.tail _ (.tail _ hq))) r hr
        · exact l10 q (.tail _ (.tail _ (.tail _ (.tail _ hq))))
        · exact Nat.lt_trans (l1' q hq) l2
        · exact l1' q hq
      · refine ⟨x1, dx1, d2, od5, _, _, _, kvs5, rfl, List.mem_append_left _ (.tail _ (List.mem_append_right _ (.tail _ (.head _)))), List.mem_append_left _ (.tail _ (List.mem_append_right _ (.tail _ (.tail _ (.head _))))), .head _, e5, e6.mono fun q hq => ?_, lo3⟩
        (first | (refine sub_in hq ?_; walk_at "mine:in"; done) | (trace "GRINDBACK"; simp only [List.mem_cons, List.mem_append, List.cons_append] at hq ⊢; grind only))
      · have hG : G5 = ns10.foldl (rstep R) [] := e11
        rw [hG]
        exact reg_is (hdk ▸ isDictOf_nodup hd2) p10 s10
    · intro it r m5 nx hI v5 h5 tk5 hit F5 oI hoI N5
      refine fold_Q ?_
      intro qF2
      refine fold_E ?_
      intro eF2
      refine fold_A ?_
      intro aF2
      refine fold_goal (fun gX gk => ?_)
      obtain ⟨ns5, us5, od5, kvs5, G5, add5, e1, e2, e3, e4, e5, e6, e7, e8, e9, e10, e11, e12⟩ := hI
      subst e4
      cases us5 with
      | nil => simp at e1
      | cons u us5 =>
        simp only [List.map_cons, List.cons.injEq] at e1
        obtain ⟨rfl, rfl⟩ := e1
        have hu5 : v5 = u := hit
        subst hu5
        cases e2
        rename_i y5 ty5 ns5 e2
        obtain ⟨ps5, hps5⟩ := e3 y5 (.head _)
        have F6 := fr_look [(Str.ofString "self", .ref x1), (Str.ofString "rows", .ref d)] F5 (by simp [e9, e10])
        dsimp only [look] at F6
        clear F5
        refine gk ?_
        clear gk gX
        dsimp only
        have N6 : News g1 L1 h5 ((I, oI) :: (d2, od5) :: (add5 ++ ((D10, listOf vs10.toArray z10) :: (x1, instObj 102 dx1) :: (dx1, dictOf [⟨PyData.keyHash w.params (Str.ofString "rows"), .str (Str.ofString "rows") tk0, .ref d2⟩] 1) :: news))) := N5
        clear N5
        have off5 : ∀ q ∈ add5 ++ ((D10, listOf vs10.toArray z10) :: (x1, instObj 102 dx1) :: (dx1, dictOf [⟨PyData.keyHash w.params (Str.ofString "rows"), .str (Str.ofString "rows") tk0, .ref d2⟩] 1) :: news), q.1 ≠ d2 := by
          intro q hq
          rcases List.mem_append.mp hq with hq | hq
          · exact e8 q hq _ (.head _)
          · exact offd q hq
        have hdm : (d, od) ∈ add5 ++ ((D10, listOf vs10.toArray z10) :: (x1, instObj 102 dx1) :: (dx1, dictOf [⟨PyData.keyHash w.params (Str.ofString "rows"), .str (Str.ofString "rows") tk0, .ref d2⟩] 1) :: news) := List.mem_append_right _ (.tail _ (.tail _ (.tail _ hd1')))
        have hx1 : (x1, instObj 102 dx1) ∈ add5 ++ ((D10, listOf vs10.toArray z10) :: (x1, instObj 102 dx1) :: (dx1, dictOf [⟨PyData.keyHash w.params (Str.ofString "rows"), .str (Str.ofString "rows") tk0, .ref d2⟩] 1) :: news) := List.mem_append_right _ (.tail _ (.head _))
        have hdx1 : (dx1, dictOf [⟨PyData.keyHash w.params (Str.ofString "rows"), .str (Str.ofString "rows") tk0, .ref d2⟩] 1) ∈ add5 ++ ((D10, listOf vs10.toArray z10) :: (x1, instObj 102 dx1) :: (dx1, dictOf [⟨PyData.keyHash w.params (Str.ofString "rows"), .str (Str.ofString "rows") tk0, .ref d2⟩] 1) :: news) := List.mem_append_right _ (.tail _ (.tail _ (.head _)))
        walk_at "mine:steps"
        rename_i h7 tk7 l7 vs7 n7 hl7 hm7 hv7 hn7 l8 h8 F8 N8 lt8
        have hrow : rowAt R y5 = ps5 := by rw [rowAt, hps5]; rfl
        refine kqd_ne N8 (.tail _ hm7) rfl rfl hv7 (fun q hq => .tail _ (.tail _ (.tail _ (List.mem_append_right _ (.tail _ (.tail _ (.tail _ (hkn q hq)))))))) (.head _) rfl rfl DatAll.nil (List.forall_mem_nil _) (pd_ok _) (List.forall_mem_nil _) ?_ ?_
        · ke_room
        · rcases ps5 with _ | ⟨q5, r5⟩
          · rw [pd_nil]
            walk_at "mine:steps"
            have hG : rstep R G5 y5 = G5 := by rw [rstep, if_pos hrow]
            exact unr_mk _ _ _ ((d2, od5) :: (add5 ++ ((D10, listOf vs10.toArray z10) :: (x1, instObj 102 dx1) :: (dx1, dictOf [⟨PyData.keyHash w.params (Str.ofString "rows"), .str (Str.ofString "rows") tk0, .ref d2⟩] 1) :: news))) rfl F8 (fun q hq => N8 q (.tail _ hq)) (offI _ _ _ e8) (⟨.tail _ (List.mem_append_right _ (.head _)), trivial⟩) ⟨ns5, us5, od5, kvs5, G5, add5, rfl, e2, fun y hy => e3 y (.tail _ hy), rfl, e5, e6, e7, e8, rfl, rfl, by rw [← e11, List.foldl_cons, hG], by simp only [List.length_cons] at e12; omega⟩
          · have hne : (!decide ((q5 :: r5).map pd = [])) = true := by simp
            rw [hne]
            have hz : kvs5.length ≤ 1000 := by rw [e6.length]; simp only [List.length_cons] at e12; omega
            have hz7 : (q5 :: r5).length ≤ 1000 := by
              refine fold_goal (fun gX gk => ?_)
              obtain ⟨q, hq, hq'⟩ : ∃ q ∈ R, q.2 = q5 :: r5 := by
                unfold rget at hps5
                rw [Option.map_eq_some_iff] at hps5
                obtain ⟨q, hq, hq'⟩ := hps5
                exact ⟨q, List.mem_of_find?_eq_some hq, hq'⟩
              have := hsz q hq
              rw [hq'] at this
              refine gk ?_
              clear gk gX
              omega
            walk_at "mine:steps"
            rename_i l9 vs9 n9 hl9 hm9 hv9 hn9 D12 c12 h12 lt12 h13 o13 F13 N13 d13
            have hG : rstep R G5 y5 = rput G5 y5 (q5 :: r5) := by
              rw [rstep, if_neg (by rw [hrow]; exact List.cons_ne_nil _ _), hrow]
            have gt := tb_ltOf lt12.2.2.2
            have hrows : RowsIn ((D12, listOf vs9.toArray c12) :: (add5 ++ kn)) (stored kvs5 y5 (.ref D12)) (rput G5 y5 (q5 :: r5)) := (e6.mono fun q hq => .tail _ hq).stored y5 (DatIn.list (.head _) (DatAll.mono (fun q hq => .tail _ (List.mem_append_right _ hq)) hv9))
            refine unr_mk _ _ _ ((d2, o13) :: (((D12, listOf vs9.toArray c12) :: add5) ++ ((D10, listOf vs10.toArray z10) :: (x1, instObj 102 dx1) :: (dx1, dictOf [⟨PyData.keyHash w.params (Str.ofString "rows"), .str (Str.ofString "rows") tk0, .ref d2⟩] 1) :: news))) rfl F13 ?_ (offI _ _ _ ?off) (⟨.tail _ (List.mem_append_right _ (.head _)), trivial⟩) ⟨ns5, us5, o13, stored kvs5 y5 (.ref D12), rput G5 y5 (q5 :: r5), (D12, listOf vs9.toArray c12) :: add5, rfl, e2, fun y hy => e3 y (.tail _ hy), rfl, d13, hrows, ?_, ?off, rfl, rfl, by rw [← e11, List.foldl_cons, hG], ?_⟩
            · intro q hq
              refine N13 q ?_
              (first | (refine sub_in hq ?_; walk_at "mine:in"; done) | (trace "GRINDBACK"; simp only [List.mem_cons, List.mem_append, List.cons_append, List.nil_append] at hq ⊢; grind only))
            · intro q hq r hr
              rcases mem_cons_s hq with rfl | hq
              · rcases mem_cons_s hr with rfl | hr
                · exact (Nat.ne_of_lt lt12.2.2.1).symm
                · rw [List.mem_singleton.mp hr]
                  exact (Nat.ne_of_lt lt12.2.1).symm
              · exact e8 q hq r hr
            · intro q hq r hr
              rcases mem_cons_s hr with rfl | hr
              · exact gt q (List.mem_append_right _ hq)
              · exact e7 q hq r hr
            · have := rput_length G5 y5 (q5 :: r5)
              simp only [List.length_cons] at e12
              omega
    · refine ⟨ns10, vs10, o2, [], [], [], rfl, i10, ?_, rfl, e5, .nil, fun _ _ _ h => (nomatch h), (fun _ h => nomatch h), rfl, rfl, rfl, ?_⟩
      · intro y hy
        refine fold_goal (fun gX gk => ?_)
        obtain ⟨q, hq, rfl⟩ := List.mem_map.mp (p10.mem_iff.mp hy)
        refine gk ?_
        clear gk gX
        exact ⟨_, rget_some_of_mem (hdk ▸ isDictOf_nodup hd2) hq⟩
      · rw [p10.length_eq, List.length_map]
        simpa using hlen
  · intro it r ys nx hI0 v9 C9 oC9 m9 D9 h9 tk9 E9 hv9 hoC9 F9 hCD oI9 hoI9 N9 o9 o9'
    refine fold_Q ?_
    intro qF3
    refine fold_E ?_
    intro eF3
    refine fold_A ?_
    intro aF3
    refine fold_goal (fun gX gk => ?_)
    obtain ⟨rs, ns, q1, q2, q3, rfl⟩ := hI0
    cases rs with
    | nil => simp [keyItms] at q1
    | cons pr rs =>
      simp only [keyItms, List.map_cons, List.cons.injEq] at q1
      obtain ⟨rfl, rfl⟩ := q1
      obtain ⟨t9, rfl⟩ := hv9
      refine gk ?_
      clear gk gX
      refine comp_asg1 (pre := [(I5, oI9)]) (by rfl) (by rfl) hoC9 F9 N9 ?_ ?_ (fun oC10 m10 h10 tk10 hoC10 hm10 F10 N10 => ?_)
      · intro q hq
        exact (o9' q hq).1
      · intro q hq
        rcases mem_cons_s hq with rfl | hq
        · exact Ne.symm hCD
        · exact (o9 q hq).2.1
      refine wpAny_tests_nil ?_
      simp only [if_true]
      walk_at "mine:steps"
      refine ⟨_, _, oC10, m10, _, rfl, F10, hoC10, N10, o9, ⟨.tail _ (.tail _ (.tail _ hd1')), trivial⟩, rs, ns ++ [pr.1], rfl, ?_, ?_, rfl⟩
      · exact q2.append (.cons _ _ .nil)
      · rw [List.append_assoc, List.singleton_append]; exact q3
  · exact ⟨kvs, [], rfl, .nil, rfl, rfl⟩
end
end
section
theorem reset_PMeth : True := by
  w_top off
  trivial
local macro_rules | `(tactic| walk_at "mine:none") => `(tactic| skip)
local macro_rules | `(tactic| walk_at "subscriptTail") => `(tactic| (k_here; (with_reducible show wpAny _ _ (subscriptTail _ _ (Value.ref _) (Value.int _ _)) _ _ _); k_dflt (refine' rows_item ?N ?kn ?hD ?hm ?hl ?_ ?hs ?hg; (case hD => assumption); (case N => k_asm); (case kn => walk_at "mine:known"); (case hm => k_mem); (case hl => assumption); (case hs => with_unfolding_all rfl); (case hg => (intro _; with_unfolding_all rfl)); k_whole); intro l' vs' n' hl' hm' hv' hn'))
local macro_rules | `(tactic| walk_at "getMethod ref") => `(tactic| (k_here; k_dflt (refine' rows_get_method ?N ?hD ?hm ?_; (case hD => assumption); (case N => k_asm); (case hm => k_mem); k_whole)))
local macro_rules | `(tactic| walk_at "call builtin:dict.get") => `(tactic| (k_here; k_dflt (refine' rows_get ?N ?kn ?hD ?hm ?hx ?_; (case hD => assumption); (case N => k_asm); (case kn => walk_at "mine:known"); (case hm => k_mem); (case hx => k_mem); k_whole); intro l' vs' n' hm' hv' hn'))
local macro_rules | `(tactic| walk_at "mine:known") => `(tactic| first | assumption | (intro q hq; first | exact List.mem_append_right _ (by solve_by_elim) | (simp only [List.mem_cons, List.mem_append] at hq ⊢; grind only)))
local macro_rules | `(tactic| walk_at "setItem ref int") => `(tactic| (k_here; (with_reducible show wpAny _ _ (setItem (Value.ref _) (Value.int _ _) _) _ _ _); k_dflt (refine' kda_set (knd := PySem.intKind _ _) ?F ?N ?U ?hd ?hk ?hz ?_; (case F => k_asm); (case N => k_asm); (case U => k_updF); (case hd => assumption); (case hk => exact intKind_is _ _ _ _); (case hz => (rw [sizeLine_eq]; omega)); k_whole); intro h' o' F' N' hd'; (try dsimp only at N'); (try k_sweep)))
local macro_rules | `(tactic| walk_at "call type:list") => `(tactic| (k_here; (with_reducible show wpAny _ _ (call (Value.type "list") [Value.ref _]) _ _ _); k_dflt (first
  | (refine' list_copyK ?k1 ?k2 ?k3 ?_ ?z; (case k1 => k_asm); (case k2 => k_asm); (case k3 => exact News.isList (by k_asm) (by k_mem)); (case z => (simp only [List.size_toArray, sizeLine_eq]; omega)); k_whole; intro D' c' h' F' N' l1; (try k_lt l1); (try k_sweep))
  | (refine' rows_list ?hh ?F ?N ?hp ?hd ?lo ?hn ?_; (case hh => exact rfl); (case F => k_asm); (case N => k_asm); (case hp => k_mem); (case hd => assumption); (case lo => assumption); (case hn => omega); k_whole; intro D' c' h' tk' vs' F' N' l1 hi'; (try k_lt l1); (try k_sweep)))))
local macro_rules | `(tactic| walk_at "call builtin:sum") => `(tactic| (k_here; (with_reducible show wpAny _ _ (call (Value.builtin "sum") [Value.ref _]) _ _ _); k_dflt (refine' sum_ints ?F ?N ?hh ?hl ?hi ?_; (case hi => assumption); (case F => k_asm); (case N => k_asm); (case hh => exact rfl); (case hl => exact News.isList (by k_asm) (by k_mem)); k_whole); intro h' tk' t' F' N'; (try k_sweep)))
local macro_rules | `(tactic| walk_at "binaryOp Add ref ref") => `(tactic| (k_here; (with_reducible show wpAny _ _ (binaryOp _ (Value.ref _) (Value.ref _)) _ _ _); k_dflt (refine' list_add_c ?F ?N ?a ?b ?_ ?z; (case F => k_asm); (case N => k_asm); (case a => k_mem); (case b => k_mem); (case z => (simp only [List.length_cons, List.length_nil]; omega)); k_whole); intro D' h' F' N' l1; (try k_lt l1); (try k_sweep)))
section
variable {prog : Program} {w : World} {p : Program} {loose : List Str} {mean : ExcName → Option Value} {mg mb : Str → Option Value}
theorem heights_c {dp un : Nat} {gd : Option (List Code)} {cn : Str} {cs : Scope} {a : Addr} {ccd : Value} {cl : List (Str × Addr)} {outer : List Env} {A₀ : Around} {base h₀ : Heap} {L : Addr} {m : Str → Option Value} {s : Shared}
    {Q E : Value → Shared → Prop} {x : Addr} {G : Rows} {kn news : List (Addr × Obj)}
    (B : Below A₀ base outer h₀) (F : Fr h₀ L s.heap m) (X : (hd.heap_1 w.params).In h₀) (N : News h₀ L s.heap news) (hkn : ∀ p ∈ kn, p ∈ news)
    (T : Top p loose mean mg mb h₀) (hk : cs.kind = .function) (hd : dp + 1 < recursionLimit) (hu : un + 100 < cLine) (hv : RegionIn prog w kn (.ref x) G) (hz : G.length ≤ 1000)
    (ret : ∀ D c h' tk' (vs : List Value), Fr h₀ L h' m → News h₀ L h' ((D, listOf vs.toArray c) :: news) → (∀ q ∈ news, q.1 < D) → IntsAre vs (G.map (·.1)) → Q (.ref D) {s with heap := h', toks := tk'}) :
    wpAny (model prog w) (ktrTop dp un gd cn cs L a ccd cl outer) (call (.ref 66) [.ref x]) Q E s := by
  refine wpAny_call ?_
  refine fold_goal (fun gX gk => ?_)
  obtain ⟨x', dx, d, od, hsh, tx, nx, kvs, e, hx1, hx2, hx3, hd2, hd3, hd4⟩ := hv
  cases e
  have hD : DictAt prog w kn d od G := ⟨kvs, hd2, hd3, hd4⟩
  have hm1 := hkn _ hx1
  have hm2 := hkn _ hx2
  have hm3 := hkn _ hx3
  have hdk := hd3.keys
  have hdl := hd3.length
  refine gk ?_
  clear gk gX
  k_dflt (walk_at "mine:enter")
  rename_i g1 L1 h1 FG1 F1 N1 B1 X1 T1
  walk_at "mine:steps"
  rename IntsAre _ _ => hi
  rename News _ _ _ _ => N9
  rename Fr _ _ _ _ => F9
  rename ∀ q ∈ news, q.1 < _ => l9
  exact ret _ _ _ _ _ F9 N9 l9 (hdk ▸ hi)
theorem spans_of_c {dp un : Nat} {gd : Option (List Code)} {cn : Str} {cs : Scope} {a : Addr} {ccd : Value} {cl : List (Str × Addr)} {outer : List Env} {A₀ : Around} {base h₀ : Heap} {L : Addr} {m : Str → Option Value} {s : Shared}
    {Q E : Value → Shared → Prop} {x : Addr} {G : Rows} {kn news : List (Addr × Obj)} {y : Int} {t : Tok}
    (B : Below A₀ base outer h₀) (F : Fr h₀ L s.heap m) (X : (hd.heap_1 w.params).In h₀) (N : News h₀ L s.heap news) (hkn : ∀ p ∈ kn, p ∈ news)
    (T : Top p loose mean mg mb h₀) (hk : cs.kind = .function) (hd : dp + 1 < recursionLimit) (hu : un + 100 < cLine) (hv : RegionIn prog w kn (.ref x) G) (hz : (rowAt G y).length ≤ 1000)
    (ret : ∀ D c h' tk' (vs : List Value), Fr h₀ L h' m → News h₀ L h' ((D, listOf vs.toArray c) :: news) → (∀ q ∈ news, q.1 < D) → DatAll kn vs ((rowAt G y).map pd) → Q (.ref D) {s with heap := h', toks := tk'}) :
    wpAny (model prog w) (ktrTop dp un gd cn cs L a ccd cl outer) (call (.ref 59) [.ref x, .int y t]) Q E s := by
  refine wpAny_call ?_
  refine fold_goal (fun gX gk => ?_)
  obtain ⟨x', dx, d, od, hsh, tx, nx, kvs, e, hx1, hx2, hx3, hd2, hd3, hd4⟩ := hv
  cases e
  have hD : DictAt prog w kn d od G := ⟨kvs, hd2, hd3, hd4⟩
  have hm1 := hkn _ hx1
  have hm2 := hkn _ hx2
  have hm3 := hkn _ hx3
  have hdk := hd3.keys
  have hdl := hd3.length
  refine gk ?_
  clear gk gX
  k_dflt (walk_at "mine:enter")
  rename_i g1 L1 h1 FG1 F1 N1 B1 X1 T1
  walk_at "mine:steps"
  rename News _ _ _ _ => N9
  rename Fr _ _ _ _ => F9
  rename _ ∧ AllLt _ _ => l9
  rename DatAll _ _ _ => hv9
  exact ret _ _ _ _ _ F9 (news_drop2 N9) (tb_ltOf l9.2) hv9
end
end
section
theorem reset_PArea : True := by
  w_top off
  trivial
local macro_rules | `(tactic| walk_at "mine:none") => `(tactic| skip)
local macro_rules | `(tactic| walk_at "subscriptTail") => `(tactic| (k_here; (with_reducible show wpAny _ _ (subscriptTail _ _ (Value.ref _) (Value.int _ _)) _ _ _); k_dflt (refine' rows_item ?N ?kn ?hD ?hm ?hl ?_ ?hs ?hg; (case hD => assumption); (case N => k_asm); (case kn => walk_at "mine:known"); (case hm => k_mem); (case hl => assumption); (case hs => with_unfolding_all rfl); (case hg => (intro _; with_unfolding_all rfl)); k_whole); intro l' vs' n' hl' hm' hv' hn'))
local macro_rules | `(tactic| walk_at "getMethod ref") => `(tactic| (k_here; k_dflt (refine' rows_get_method ?N ?hD ?hm ?_; (case hD => assumption); (case N => k_asm); (case hm => k_mem); k_whole)))
local macro_rules | `(tactic| walk_at "call builtin:dict.get") => `(tactic| (k_here; k_dflt (refine' rows_get ?N ?kn ?hD ?hm ?hx ?_; (case hD => assumption); (case N => k_asm); (case kn => walk_at "mine:known"); (case hm => k_mem); (case hx => k_mem); k_whole); intro l' vs' n' hm' hv' hn'))
local macro_rules | `(tactic| walk_at "mine:known") => `(tactic| first | assumption | (intro q hq; first | exact List.mem_append_right _ (by solve_by_elim) | (simp only [List.mem_cons, List.mem_append] at hq ⊢; grind only)))
local macro_rules | `(tactic| walk_at "setItem ref int") => `(tactic| (k_here; (with_reducible show wpAny _ _ (setItem (Value.ref _) (Value.int _ _) _) _ _ _); k_dflt (refine' kda_set (knd := PySem.intKind _ _) ?F ?N ?U ?hd ?hk ?hz ?_; (case F => k_asm); (case N => k_asm); (case U => k_updF); (case hd => assumption); (case hk => exact intKind_is _ _ _ _); (case hz => (rw [sizeLine_eq]; omega)); k_whole); intro h' o' F' N' hd'; (try dsimp only at N'); (try k_sweep)))
local macro_rules | `(tactic| walk_at "call type:list") => `(tactic| (k_here; (with_reducible show wpAny _ _ (call (Value.type "list") [Value.ref _]) _ _ _); k_dflt (first
  | (refine' list_copyK ?k1 ?k2 ?k3 ?_ ?z; (case k1 => k_asm); (case k2 => k_asm); (case k3 => exact News.isList (by k_asm) (by k_mem)); (case z => (simp only [List.size_toArray, sizeLine_eq]; omega)); k_whole; intro D' c' h' F' N' l1; (try k_lt l1); (try k_sweep))
  | (refine' rows_list ?hh ?F ?N ?hp ?hd ?lo ?hn ?_; (case hh => exact rfl); (case F => k_asm); (case N => k_asm); (case hp => k_mem); (case hd => assumption); (case lo => assumption); (case hn => omega); k_whole; intro D' c' h' tk' vs' F' N' l1 hi'; (try k_lt l1); (try k_sweep)))))
local macro_rules | `(tactic| walk_at "call builtin:sum") => `(tactic| (k_here; (with_reducible show wpAny _ _ (call (Value.builtin "sum") [Value.ref _]) _ _ _); k_dflt (refine' sum_ints ?F ?N ?hh ?hl ?hi ?_; (case hi => assumption); (case F => k_asm); (case N => k_asm); (case hh => exact rfl); (case hl => exact News.isList (by k_asm) (by k_mem)); k_whole); intro h' tk' t' F' N'; (try k_sweep)))
local macro_rules | `(tactic| walk_at "binaryOp Add ref ref") => `(tactic| (k_here; (with_reducible show wpAny _ _ (binaryOp _ (Value.ref _) (Value.ref _)) _ _ _); k_dflt (refine' list_add_c ?F ?N ?a ?b ?_ ?z; (case F => k_asm); (case N => k_asm); (case a => k_mem); (case b => k_mem); (case z => (simp only [List.length_cons, List.length_nil]; omega)); k_whole); intro D' h' F' N' l1; (try k_lt l1); (try k_sweep)))
local macro_rules | `(tactic| walk_at "call ref") => `(tactic| (k_here; (with_reducible show wpAny _ _ (call (Value.ref 40) [Value.ref _]) _ _ _); k_dflt (refine' length_c ?b ?f ?x ?n ?kn ?t ?k ?d ?c ?v ?_; (case v => first | assumption | (refine' DatIn.list ?mm ?dd; (case dd => assumption); (case mm => assumption))); (case n => k_asm); (case kn => walk_at "mine:known"); (case b => k_asm); (case f => k_asm); (case x => k_asm); (case t => k_asm); (case k => first | exact rfl | assumption); (case d => walk_at "mine:room"); (case c => walk_at "mine:units"); k_whole); intro t' h' tk' F' N'; (try k_sweep); (try dsimp only)))
section
variable {prog : Program} {w : World} {p : Program} {loose : List Str} {mean : ExcName → Option Value} {mg mb : Str → Option Value}
def areaOf (G : Rows) : Int := (G.map fun q => lenOf q.2).sum
theorem area_c {dp un : Nat} {gd : Option (List Code)} {cn : Str} {cs : Scope} {a : Addr} {ccd : Value} {cl : List (Str × Addr)} {outer : List Env} {A₀ : Around} {base h₀ : Heap} {L : Addr} {m : Str → Option Value} {s : Shared}
    {Q E : Value → Shared → Prop} {x : Addr} {G : Rows} {kn news : List (Addr × Obj)}
    (B : Below A₀ base outer h₀) (F : Fr h₀ L s.heap m) (X : (hd.heap_1 w.params).In h₀) (N : News h₀ L s.heap news) (hkn : ∀ p ∈ kn, p ∈ news)
    (T : Top p loose mean mg mb h₀) (hk : cs.kind = .function) (hd : dp + 2 < recursionLimit) (hu : un + 200 < cLine) (hv : RegionIn prog w kn (.ref x) G) (hz : G.length ≤ 1000)
    (ret : ∀ t h' tk', Fr h₀ L h' m → News h₀ L h' news → Q (.int (areaOf G) t) {s with heap := h', toks := tk'}) :
    wpAny (model prog w) (ktrTop dp un gd cn cs L a ccd cl outer) (call (.ref 85) [.ref x]) Q E s := by
  refine wpAny_call ?_
  refine fold_goal (fun gX gk => ?_)
  obtain ⟨x', dx, d, od, hsh, tx, nx, kvs, e, hx1, hx2, hx3, hd2, hd3, hd4⟩ := hv
  cases e
  have hD : DictAt prog w kn d od G := ⟨kvs, hd2, hd3, hd4⟩
  have hm1 := hkn _ hx1
  have hm2 := hkn _ hx2
  have hm3 := hkn _ hx3
  have hdk := hd3.keys
  have hdl := hd3.length
  refine gk ?_
  clear gk gX
  k_dflt (walk_at "mine:enterC")
  rename_i g1 L1 h1 tk1 FG1 F1 B1 X1 T1 l1 o1 d1 N1
  walk_at "mine:steps"
  refine comp_rule F1 (by with_unfolding_all rfl) (by decide) (by rfl) (by decide) ?_
  walk_at "mine:steps"
  refine comp_dict rfl F1 N1 (.tail _ hm3) hd2 hd4 ?_ (fun I3 h3 tk3 l3 => ?_)
  · rw [sizeLine_eq]; omega
  refine comp_ind (fun xs ys nx => Ex4 fun (rs : List (Int × Value)) (Ss Sd : Rows) (ns : List Int) => An6 (xs = keyItms rs) (RowsIn kn rs Ss) (Sd ++ Ss = G) (IntsAre ys ns) (ns = Sd.map (fun q => lenOf q.2)) (nx = (L1 + 1, o1) :: news)) ?_ ?_ _ _ _ ?_
  · intro ys nx hI0 D9 h9 tk9 F9 N9 o9
    refine fold_Q ?_
    intro qF0
    refine fold_E ?_
    intro eF0
    refine fold_A ?_
    intro aF0
    refine fold_goal (fun gX gk => ?_)
    obtain ⟨rs, Ss, Sd, ns, q1, q2, q3, q4, q5, rfl⟩ := hI0
    have q1' : rs = [] := by simpa [keyItms] using q1.symm
    subst q1'
    cases q2
    rw [List.append_nil] at q3
    subst q3 q5
    refine gk ?_
    clear gk gX
    walk_at "mine:steps"
    rename News h₀ _ _ _ => N9
    rename Fr _ _ _ _ => F9
    exact ret _ _ _ F9 fun q hq => N9 q (.tail _ (.tail _ hq))
  · intro it r ys nx hI0 v9 C9 oC9 m9 D9 h9 tk9 E9 hv9 hoC9 F9 hCD oI9 hoI9 N9 o9 o9'
    refine fold_Q ?_
    intro qF1
    refine fold_E ?_
    intro eF1
    refine fold_A ?_
    intro aF1
    refine fold_goal (fun gX gk => ?_)
    obtain ⟨rs, Ss, Sd, ns, q1, q2, q3, q4, q5, rfl⟩ := hI0
    cases rs with
    | nil => simp [keyItms] at q1
    | cons pr rs =>
      simp only [keyItms, List.map_cons, List.cons.injEq] at q1
      obtain ⟨rfl, rfl⟩ := q1
      obtain ⟨t9, rfl⟩ := hv9
      cases q2
      rename_i k9 v9 ps9 Ss' q6 q7
      have hget : rget G k9 = some ps9 := by
        have : (k9, ps9) ∈ G := q3 ▸ List.mem_append_right _ (.head _)
        exact rget_some_of_mem (hdk ▸ isDictOf_nodup hd2) this
      refine gk ?_
      clear gk gX
      refine comp_asg1 (pre := [(I3, oI9)]) (by rfl) (by rfl) hoC9 F9 N9 ?_ ?_ (fun oC10 m10 h10 tk10 hoC10 hm10 F10 N10 => ?_)
      · intro q hq
        exact (o9' q hq).1
      · intro q hq
        rcases mem_cons_s hq with rfl | hq
        · exact Ne.symm hCD
        · exact (o9 q hq).2.1
      refine wpAny_tests_nil ?_
      simp only [if_true]
      walk_at "mine:steps"
      rename_i l11 vs11 n11 hl11 hm11 hv11 hn11 t12 h12 tk12 F12 N12
      refine ⟨_, _, oC10, m10, _, rfl, F12, hoC10, N12, o9, ⟨.tail _ hm3, trivial⟩, rs, Ss', Sd ++ [(k9, ps9)], ns ++ [lenOf ps9], rfl, q7, by rw [List.append_assoc, List.singleton_append]; exact q3, q4.append (.cons _ _ .nil), ?_, rfl⟩
      rw [q5, List.map_append]
      rfl
  · exact ⟨kvs, G, [], [], rfl, hd3, rfl, .nil, rfl, rfl⟩
end
end
section
theorem reset_PLike : True := by
  w_top off
  trivial
local macro_rules | `(tactic| walk_at "subscriptTail") => `(tactic| (k_here; (with_reducible show wpAny _ _ (subscriptTail _ _ (Value.ref _) (Value.int _ _)) _ _ _); k_dflt (refine' rows_item ?N ?kn ?hD ?hm ?hl ?_ ?hs ?hg; (case hD => assumption); (case N => k_asm); (case kn => walk_at "mine:known"); (case hm => k_mem); (case hl => assumption); (case hs => with_unfolding_all rfl); (case hg => (intro _; with_unfolding_all rfl)); k_whole); intro l' vs' n' hl' hm' hv' hn'))
local macro_rules | `(tactic| walk_at "getMethod ref") => `(tactic| (k_here; k_dflt (refine' rows_get_method ?N ?hD ?hm ?_; (case hD => assumption); (case N => k_asm); (case hm => k_mem); k_whole)))
local macro_rules | `(tactic| walk_at "call builtin:dict.get") => `(tactic| (k_here; k_dflt (refine' rows_get ?N ?kn ?hD ?hm ?hx ?_; (case hD => assumption); (case N => k_asm); (case kn => walk_at "mine:known"); (case hm => k_mem); (case hx => k_mem); k_whole); intro l' vs' n' hm' hv' hn'))
local macro_rules | `(tactic| walk_at "mine:known") => `(tactic| first | assumption | (intro q hq; first | exact List.mem_append_right _ (by solve_by_elim) | (simp only [List.mem_cons, List.mem_append] at hq ⊢; grind only)))
local macro_rules | `(tactic| walk_at "setItem ref int") => `(tactic| (k_here; (with_reducible show wpAny _ _ (setItem (Value.ref _) (Value.int _ _) _) _ _ _); k_dflt (refine' kda_set (knd := PySem.intKind _ _) ?F ?N ?U ?hd ?hk ?hz ?_; (case F => k_asm); (case N => k_asm); (case U => k_updF); (case hd => assumption); (case hk => exact intKind_is _ _ _ _); (case hz => (rw [sizeLine_eq]; omega)); k_whole); intro h' o' F' N' hd'; (try dsimp only at N'); (try k_sweep)))
local macro_rules | `(tactic| walk_at "call type:list") => `(tactic| (k_here; (with_reducible show wpAny _ _ (call (Value.type "list") [Value.ref _]) _ _ _); k_dflt (first
  | (refine' list_copyK ?k1 ?k2 ?k3 ?_ ?z; (case k1 => k_asm); (case k2 => k_asm); (case k3 => exact News.isList (by k_asm) (by k_mem)); (case z => (simp only [List.size_toArray, sizeLine_eq]; omega)); k_whole; intro D' c' h' F' N' l1; (try k_lt l1); (try k_sweep))
  | (refine' rows_list ?hh ?F ?N ?hp ?hd ?lo ?hn ?_; (case hh => exact rfl); (case F => k_asm); (case N => k_asm); (case hp => k_mem); (case hd => assumption); (case lo => assumption); (case hn => omega); k_whole; intro D' c' h' tk' vs' F' N' l1 hi'; (try k_lt l1); (try k_sweep)))))
local macro_rules | `(tactic| walk_at "call builtin:sum") => `(tactic| (k_here; (with_reducible show wpAny _ _ (call (Value.builtin "sum") [Value.ref _]) _ _ _); k_dflt (refine' sum_ints ?F ?N ?hh ?hl ?hi ?_; (case hi => assumption); (case F => k_asm); (case N => k_asm); (case hh => exact rfl); (case hl => exact News.isList (by k_asm) (by k_mem)); k_whole); intro h' tk' t' F' N'; (try k_sweep)))
local macro_rules | `(tactic| walk_at "binaryOp Add ref ref") => `(tactic| (k_here; (with_reducible show wpAny _ _ (binaryOp _ (Value.ref _) (Value.ref _)) _ _ _); k_dflt (refine' list_add_c ?F ?N ?a ?b ?_ ?z; (case F => k_asm); (case N => k_asm); (case a => k_mem); (case b => k_mem); (case z => (simp only [List.length_cons, List.length_nil]; omega)); k_whole); intro D' h' F' N' l1; (try k_lt l1); (try k_sweep)))
section
variable {prog : Program} {w : World} {p : Program} {loose : List Str} {mean : ExcName → Option Value} {mg mb : Str → Option Value}
theorem eq_same {A : Around} {s : Shared} {h₀ : Heap} {L : Addr} {news : List (Addr × Obj)} (N : News h₀ L s.heap news) (hu : A.in1.units + 64 < cLine) {v y : Value} {ps : List (Int × Int)} (hv : DatIn news v (pds ps)) (hy : DatIn news y (pds ps)) : SeqAt.EqAt A.in1 s v y true := by
  have ok : kqdOk 9 (pds ps) = true := by simpa [kqdOk] using pd_ok ps
  obtain ⟨as, ra⟩ := kqd_in N 9 hv ok
  obtain ⟨bs, rb⟩ := kqd_in N 9 hy ok
  have la := kqd_lay 9 (pds ps) ok
  have sh : SeqAt.shaped (kqdP (pds ps)) = true := by
    unfold SeqAt.shaped; rw [la.1, Bool.true_and]; exact decide_eq_true (Nat.le_trans la.2 (by decide))
  have := keq_at (A := A) ra rb sh sh hu
  rwa [(kqd_eqv 9 (pds ps) (pds ps) 9 ok ok).mpr rfl] at this
theorem hits_same {A : Around} {s : Shared} {h₀ : Heap} {L : Addr} {news : List (Addr × Obj)} (N : News h₀ L s.heap news) (hu : A.in1.units + 64 < cLine) {kb : List (Int × Value)} {G : Rows} (hb : RowsIn news kb G) {ka : List (Int × Value)} {Gs : Rows} (ha : RowsIn news ka Gs) : (∀ q ∈ Gs, rget G q.1 = some q.2) → KeqHits A.in1 s kb ka true := by
  induction ha with
  | nil => intro _; exact .nil
  | @cons k v ps kvs R hv _ ih =>
    intro h
    have hk := h (k, ps) (.head _)
    rcases hb.at k with ⟨_, e2⟩ | ⟨y, ps', e1, e2, hy⟩
    · rw [e2] at hk; cases hk
    · rw [e2] at hk
      cases hk
      exact .hit (e := true) (b := true) e1 (eq_same N hu hv hy) (ih fun q hq => h q (.tail _ hq))
theorem like_c {dp un : Nat} {gd : Option (List Code)} {cn : Str} {cs : Scope} {a : Addr} {ccd : Value} {cl : List (Str × Addr)} {outer : List Env} {A₀ : Around} {base h₀ : Heap} {L : Addr} {m : Str → Option Value} {s : Shared}
    {Q E : Value → Shared → Prop} {x z : Addr} {G : Rows} {kn news : List (Addr × Obj)}
    (B : Below A₀ base outer h₀) (F : Fr h₀ L s.heap m) (X : (hd.heap_1 w.params).In h₀) (N : News h₀ L s.heap news) (hkn : ∀ p ∈ kn, p ∈ news)
    (T : Top p loose mean mg mb h₀) (hk : cs.kind = .function) (hd : dp + 1 < recursionLimit) (hu : un + 200 < cLine) (hv : RegionIn prog w kn (.ref x) G) (hw : RegionIn prog w kn (.ref z) G)
    (ret : ∀ h' tk', Fr h₀ L h' m → News h₀ L h' news → Q (.bool true) {s with heap := h', toks := tk'}) :
    wpAny (model prog w) (ktrTop dp un gd cn cs L a ccd cl outer) (call (.ref 99) [.ref x, .ref z]) Q E s := by
  refine wpAny_call ?_
  refine fold_goal (fun gX gk => ?_)
  obtain ⟨x', dx, d, od, hsh, tx, nx, kvs, e, hx1, hx2, hx3, hd2, hd3, hd4⟩ := hv
  cases e
  obtain ⟨z', dz, f, of, hshz, tz, nz, kws, e, hz1, hz2, hz3, hf2, hf3, hf4⟩ := hw
  cases e
  have hm1 := hkn _ hx1
  have hm2 := hkn _ hx2
  have hm3 := hkn _ hx3
  have hm4 := hkn _ hz1
  have hm5 := hkn _ hz2
  have hm6 := hkn _ hz3
  refine gk ?_
  clear gk gX
  k_dflt (walk_at "mine:enter")
  rename_i g1 L1 h1 FG1 F1 N1 B1 X1 T1
  walk_at "mine:steps"
  refine keq_pairs N1 hm3 hm6 hd2 hf2 hd4 hf4 (by rw [hd3.length, hf3.length]) ?_ (hits_same N1 ?_ (hf3.mono hkn) (hd3.mono hkn) fun q hq => rget_some_of_mem (hd3.keys ▸ isDictOf_nodup hd2) hq) ?_
  · show un + 3 < cLine
    omega
  · show un + 3 + 1 + 64 < cLine
    omega
  walk_at "mine:steps"
  rename News h₀ _ _ _ => N9
  rename Fr h₀ _ _ _ => F9
  exact ret _ _ F9 N9
end
end
section
theorem reset_PBand : True := by
  w_top off
  trivial
local macro_rules | `(tactic| walk_at "mine:none") => `(tactic| skip)
local macro_rules | `(tactic| walk_at "subscriptTail") => `(tactic| (k_here; (with_reducible show wpAny _ _ (subscriptTail _ _ (Value.ref _) (Value.int _ _)) _ _ _); k_dflt (refine' rows_item ?N ?kn ?hD ?hm ?hl ?_ ?hs ?hg; (case hD => assumption); (case N => k_asm); (case kn => walk_at "mine:known"); (case hm => k_mem); (case hl => assumption); (case hs => with_unfolding_all rfl); (case hg => (intro _; with_unfolding_all rfl)); k_whole); intro l' vs' n' hl' hm' hv' hn'))
local macro_rules | `(tactic| walk_at "getMethod ref") => `(tactic| (k_here; k_dflt (refine' rows_get_method ?N ?hD ?hm ?_; (case hD => assumption); (case N => k_asm); (case hm => k_mem); k_whole)))
local macro_rules | `(tactic| walk_at "call builtin:dict.get") => `(tactic| (k_here; k_dflt (refine' rows_get ?N ?kn ?hD ?hm ?hx ?_; (case hD => assumption); (case N => k_asm); (case kn => walk_at "mine:known"); (case hm => k_mem); (case hx => k_mem); k_whole); intro l' vs' n' hm' hv' hn'))
local macro_rules | `(tactic| walk_at "mine:known") => `(tactic| first | assumption | (intro q hq; first | exact List.mem_append_right _ (by solve_by_elim) | (simp only [List.mem_cons, List.mem_append] at hq ⊢; grind only)))
local macro_rules | `(tactic| walk_at "setItem ref int") => `(tactic| (k_here; (with_reducible show wpAny _ _ (setItem (Value.ref _) (Value.int _ _) _) _ _ _); k_dflt (refine' kda_set (knd := PySem.intKind _ _) ?F ?N ?U ?hd ?hk ?hz ?_; (case F => k_asm); (case N => k_asm); (case U => k_updF); (case hd => assumption); (case hk => exact intKind_is _ _ _ _); (case hz => (rw [sizeLine_eq]; omega)); k_whole); intro h' o' F' N' hd'; (try dsimp only at N'); (try k_sweep)))
local macro_rules | `(tactic| walk_at "call type:list") => `(tactic| (k_here; (with_reducible show wpAny _ _ (call (Value.type "list") [Value.ref _]) _ _ _); k_dflt (first
  | (refine' list_copyK ?k1 ?k2 ?k3 ?_ ?z; (case k1 => k_asm); (case k2 => k_asm); (case k3 => exact News.isList (by k_asm) (by k_mem)); (case z => (simp only [List.size_toArray, sizeLine_eq]; omega)); k_whole; intro D' c' h' F' N' l1; (try k_lt l1); (try k_sweep))
  | (refine' rows_list ?hh ?F ?N ?hp ?hd ?lo ?hn ?_; (case hh => exact rfl); (case F => k_asm); (case N => k_asm); (case hp => k_mem); (case hd => assumption); (case lo => assumption); (case hn => omega); k_whole; intro D' c' h' tk' vs' F' N' l1 hi'; (try k_lt l1); (try k_sweep)))))
local macro_rules | `(tactic| walk_at "call builtin:sum") => `(tactic| (k_here; (with_reducible show wpAny _ _ (call (Value.builtin "sum") [Value.ref _]) _ _ _); k_dflt (refine' sum_ints ?F ?N ?hh ?hl ?hi ?_; (case hi => assumption); (case F => k_asm); (case N => k_asm); (case hh => exact rfl); (case hl => exact News.isList (by k_asm) (by k_mem)); k_whole); intro h' tk' t' F' N'; (try k_sweep)))
local macro_rules | `(tactic| walk_at "binaryOp Add ref ref") => `(tactic| (k_here; (with_reducible show wpAny _ _ (binaryOp _ (Value.ref _) (Value.ref _)) _ _ _); k_dflt (refine' list_add_c ?F ?N ?a ?b ?_ ?z; (case F => k_asm); (case N => k_asm); (case a => k_mem); (case b => k_mem); (case z => (simp only [List.length_cons, List.length_nil]; omega)); k_whole); intro D' h' F' N' l1; (try k_lt l1); (try k_sweep)))
section
variable {prog : Program} {w : World} {p : Program} {loose : List Str} {mean : ExcName → Option Value} {mg mb : Str → Option Value}
abbrev Quad := Int × Int × Int × Int
/-- a rectangle as a datum -/
abbrev qd (q : Quad) : Dat := .tuple [.int q.1, .int q.2.1, .int q.2.2.1, .int q.2.2.2]
abbrev tup4 (a : Int) (ta : Tok) (b : Int) (tb : Tok) (c : Int) (tc : Tok) (d : Int) (td : Tok) : Obj := { cls := .type "tuple", data := .seq [Value.int a ta, Value.int b tb, Value.int c tc, Value.int d td].toArray }
theorem tup4_dat {kn : List (Addr × Obj)} {x : Addr} {a b c d : Int} {ta tb tc td : Tok} (h : (x, tup4 a ta b tb c tc d td) ∈ kn) : DatIn kn (.ref x) (qd (a, b, c, d)) := DatIn.tuple (n := 0) h (.cons (.int _ _) (.cons (.int _ _) (.cons (.int _ _) (.cons (.int _ _) .nil))))
/-- the growing rectangles -/
structure BSt where
  done : List Quad
  spans : List (Int × Int)
  top : Int
  bottom : Int
def quadOf (top bottom : Int) (q : Int × Int) : Quad := (q.1, top, q.2 - q.1, bottom - top)
def closeB (S : BSt) : BSt := { S with done := S.done ++ S.spans.map (quadOf S.top S.bottom), spans := [] }
def takeB (S : BSt) (y : Int) (sp : List (Int × Int)) : BSt := if sp = S.spans ∧ y = S.bottom then { S with bottom := y + 1 } else { closeB S with spans := sp, top := y, bottom := y + 1 }
/-- the object's own dict -/
abbrev bent (P : Params) (k1 k2 k3 k4 : Tok) (ld ls : Addr) (top : Int) (t1 : Tok) (bot : Int) (t2 : Tok) : List DictEntry :=
  [⟨PyData.keyHash P (Str.ofString "done"), .str (Str.ofString "done") k1, .ref ld⟩, ⟨PyData.keyHash P (Str.ofString "spans"), .str (Str.ofString "spans") k2, .ref ls⟩, ⟨PyData.keyHash P (Str.ofString "top"), .str (Str.ofString "top") k3, .int top t1⟩, ⟨PyData.keyHash P (Str.ofString "bottom"), .str (Str.ofString "bottom") k4, .int bot t2⟩]
/-- the rectangles are put down, loop -/
inductive ClInv (kn rest : List (Addr × Obj)) (x ld lI : Addr) (top bot : Int) (total : List Quad) (xs : List Itm) (m : Str → Option Value) (nx : List (Addr × Obj)) : Prop
  | mk (rs : List (Int × Int)) (us vs : List Value) (n : Nat) (qs : List Quad) (add : List (Addr × Obj)) (ih0 : xs = us.map .val) (ih1 : DatAll kn us (rs.map pd)) (ih2 : nx = (ld, listOf vs.toArray n) :: (add ++ rest)) (ih3 : DatAll (add ++ kn) vs (qs.map qd)) (ih4 : (∀ q ∈ rest, ∀ r ∈ add, q.1 < r.1)) (ih5 : OwnOff add [ld, lI]) (ih6 : (∀ r ∈ add, @LT.lt Nat _ ld r.1)) (ih7 : m (Str.ofString "self") = some (.ref x)) (ih8 : qs ++ rs.map (quadOf top bot) = total) (ih9 : qs.length + rs.length ≤ 1000) : ClInv kn rest x ld lI top bot total xs m nx
theorem close_c {dp un : Nat} {gd : Option (List Code)} {cn : Str} {cs : Scope} {a : Addr} {ccd : Value} {cl : List (Str × Addr)} {outer : List Env} {A₀ : Around} {base h₀ : Heap} {L : Addr} {m : Str → Option Value} {s : Shared}
    {Q E : Value → Shared → Prop} {x dx ld ls : Addr} {k1 k2 k3 k4 t1 t2 : Tok} {n : Nat} {vs : List Value} {S : BSt} {kn news : List (Addr × Obj)}
    (B : Below A₀ base outer h₀) (F : Fr h₀ L s.heap m) (X : (hd.heap_1 w.params).In h₀) (N : News h₀ L s.heap ((x, instObj 147 dx) :: (dx, dictOf (bent w.params k1 k2 k3 k4 ld ls S.top t1 S.bottom t2) 4) :: (ld, listOf vs.toArray n) :: news)) (hkn : ∀ p ∈ kn, p ∈ news)
    (T : Top p loose mean mg mb h₀) (hk : cs.kind = .function) (hd : dp + 1 < recursionLimit) (hu : un + 100 < cLine) (ox : x ≠ dx) (ox2 : x ≠ ld) (od : dx ≠ ld) (off : ∀ q ∈ news, q.1 ≠ dx ∧ q.1 ≠ ld) (hs : DatIn kn (.ref ls) (pds S.spans)) (hv : DatAll kn vs (S.done.map qd)) (hz : S.done.length + S.spans.length ≤ 1000)
    (ret : ∀ ls' add vs' n' h' tk', Fr h₀ L h' m → News h₀ L h' ((x, instObj 147 dx) :: (dx, dictOf (bent w.params k1 k2 k3 k4 ld ls' S.top t1 S.bottom t2) 4) :: (ld, listOf vs'.toArray n') :: (add ++ news)) → (∀ q ∈ news, ∀ p ∈ add, q.1 < p.1) → (∀ p ∈ add, x < p.1 ∧ dx < p.1 ∧ ld < p.1) →
      DatIn (add ++ kn) (.ref ls') (pds []) → DatAll (add ++ kn) vs' ((closeB S).done.map qd) → Q .none {s with heap := h', toks := tk'}) :
    wpAny (model prog w) (ktrTop dp un gd cn cs L a ccd cl outer) (call (.ref 144) [.ref x]) Q E s := by
  refine wpAny_call ?_
  refine fold_goal (fun gX gk => ?_)
  obtain ⟨ls', us, n2, e, hl, hda⟩ := dat_list hs
  cases e
  have hl' := hkn _ hl
  have od' : ld ≠ dx := od.symm
  have offd : ∀ q ∈ news, q.1 ≠ dx := fun q hq => (off q hq).1
  have offl : ∀ q ∈ news, q.1 ≠ ld := fun q hq => (off q hq).2
  refine gk ?_
  clear gk gX
  k_dflt (walk_at "mine:enter")
  rename_i g1 L1 h1 FG1 F1 N1 B1 X1 T1
  walk_at "mine:steps"
  refine For_turns F1 ?_
  walk_at "mine:steps"
  refine for_list ((ld, listOf vs.toArray n) :: ([] ++ ((x, instObj 147 dx) :: (dx, dictOf (bent w.params k1 k2 k3 k4 ld ls S.top t1 S.bottom t2) 4) :: news))) rfl F1 N1 ?_ (.tail _ (.tail _ (.tail _ hl'))) rfl rfl (fun I l4 => ?_)
  · intro q hq
    (first | (refine sub_in hq ?_; walk_at "mine:in"; done) | (trace "GRINDBACK"; simp only [List.mem_cons, List.mem_append, List.nil_append] at hq ⊢; grind only))
  have bI := ltN (l4 _ (.tail _ (.tail _ (.head _))))
  dsimp only at bI
  have hl2 : (ls, listOf us.toArray n2) ∈ ((x, instObj 147 dx) :: (dx, dictOf (bent w.params k1 k2 k3 k4 ld ls S.top t1 S.bottom t2) 4) :: news) := .tail _ (.tail _ hl')
  have offr : ∀ q ∈ ((x, instObj 147 dx) :: (dx, dictOf (bent w.params k1 k2 k3 k4 ld ls S.top t1 S.bottom t2) 4) :: news), q.1 ≠ ld := by
    intro q hq
    rcases mem_cons_s hq with rfl | hq
    · exact ox2
    · rcases mem_cons_s hq with rfl | hq
      · exact od
      · exact offl q hq
  have hI0 : ∀ q ∈ ((x, instObj 147 dx) :: (dx, dictOf (bent w.params k1 k2 k3 k4 ld ls S.top t1 S.bottom t2) 4) :: news), q.1 < I := by
    intro q hq
    refine l4 q ?_
    (first | (refine sub_in hq ?_; walk_at "mine:in"; done) | (trace "GRINDBACK"; simp only [List.mem_cons] at hq ⊢; grind only))
  have offI : ∀ (n : Nat) (vs : List Value) (ad : List (Addr × Obj)) (oI : Obj), OwnOff ad [ld, I] → ∀ q ∈ (ld, listOf vs.toArray n) :: (ad ++ ((x, instObj 147 dx) :: (dx, dictOf (bent w.params k1 k2 k3 k4 ld ls S.top t1 S.bottom t2) 4) :: news)), ∀ r ∈ [(I, oI)], q.1 ≠ r.1 := by
    intro n vs ad oI had q hq r hr
    rw [List.mem_singleton.mp hr]
    rcases mem_cons_s hq with rfl | hq
    · exact Nat.ne_of_lt bI
    · rcases List.mem_append.mp hq with hq | hq
      · exact had q hq _ (.tail _ (.head _))
      · exact Nat.ne_of_lt (hI0 q hq)
  refine items_ind (ClInv kn ((x, instObj 147 dx) :: (dx, dictOf (bent w.params k1 k2 k3 k4 ld ls S.top t1 S.bottom t2) 4) :: news) x ld I S.top S.bottom (closeB S).done) ?_ ?_ _ _ _ ?_
  · intro m5 nx h5 tk5 hI F5 N5
    refine fold_Q ?_
    intro qF0
    refine fold_E ?_
    intro eF0
    refine fold_A ?_
    intro aF0
    refine fold_goal (fun gX gk => ?_)
    obtain ⟨rs5, us5, vs5, n5, qs5, add5, e1, e2, e3, e4, e5, e6, e7, e8, e9, e10⟩ := hI
    subst e3
    have e1' : us5 = [] := by simpa using e1.symm
    subst e1'
    have e2' : rs5 = [] := by simpa using e2.length.symm
    subst e2'
    have F6 := fr_look [(Str.ofString "self", .ref x)] F5 (by simpa using e8)
    dsimp only [look] at F6
    clear F5
    refine gk ?_
    clear gk gX
    dsimp only
    have N6 : News g1 L1 h5 ((ld, listOf vs5.toArray n5) :: (x, instObj 147 dx) :: (dx, dictOf (bent w.params k1 k2 k3 k4 ld ls S.top t1 S.bottom t2) 4) :: (add5 ++ news)) := by
      intro q hq
      refine N5 q ?_
      (first | (refine sub_in hq ?_; walk_at "mine:in"; done) | (trace "GRINDBACK"; simp only [List.mem_cons, List.mem_append] at hq ⊢; grind only))
    clear N5
    have off6 : ∀ q ∈ add5 ++ news, q.1 ≠ dx := fun q hq => (List.mem_append.mp hq).elim (fun h => (Nat.ne_of_lt (e5 _ (.tail _ (.head _)) q h)).symm) (offd q)
    walk_at "mine:steps"
    rename_i l9 h9 lt9 h10 F9' N9' F9 N9 T9 X9
    refine fold_goal (fun gX gk => ?_)
    obtain ⟨p1, p2, p3, p4⟩ := lt9
    have p5 := tb_ltOf p4
    refine gk ?_
    clear gk gX
    refine ret l9 ((l9, listOf #[] 0) :: add5) vs5 n5 _ _ F9 ?_ ?_ ?_ (DatIn.list (n := 0) (.head _) .nil) ?_
    · intro q hq
      refine N9 q ?_
      (first | (refine sub_in hq ?_; walk_at "mine:in"; done) | (trace "GRINDBACK"; simp only [List.mem_cons, List.mem_append, List.cons_append] at hq ⊢; grind only))
    · intro q hq r hr
      rcases mem_cons_s hr with rfl | hr
      · exact p5 q (List.mem_append_right _ hq)
      · exact e5 q (.tail _ (.tail _ hq)) r hr
    · intro r hr
      rcases mem_cons_s hr with rfl | hr
      · exact ⟨p2, p3, p1⟩
      · exact ⟨e5 _ (.head _) r hr, e5 _ (.tail _ (.head _)) r hr, e7 r hr⟩
    · rw [List.map_nil, List.append_nil] at e9
      rw [← e9]
      exact DatAll.mono (fun q hq => .tail _ hq) e4
  · intro it r m5 nx hI v5 h5 tk5 hit F5 oI hoI N5
    refine fold_Q ?_
    intro qF1
    refine fold_E ?_
    intro eF1
    refine fold_A ?_
    intro aF1
    refine fold_goal (fun gX gk => ?_)
    obtain ⟨rs5, us5, vs5, n5, qs5, add5, e1, e2, e3, e4, e5, e6, e7, e8, e9, e10⟩ := hI
    subst e3
    cases us5 with
    | nil => simp at e1
    | cons u us5 =>
      simp only [List.map_cons, List.cons.injEq] at e1
      obtain ⟨rfl, rfl⟩ := e1
      have hu5 : v5 = u := hit
      subst hu5
      cases rs5 with
      | nil => cases e2
      | cons q5 rs5 =>
        cases e2
        rename_i e2 e11
        obtain ⟨t, ta, tb, n9, rfl, ht⟩ := dat_pair e2
        have F6 := fr_look [(Str.ofString "self", .ref x)] F5 (by simpa using e8)
        dsimp only [look] at F6
        clear F5
        have ht1 : (t, ({ cls := .type "tuple", data := .seq [Value.int q5.1 ta, Value.int q5.2 tb].toArray n9 } : Obj)) ∈ add5 ++ ((x, instObj 147 dx) :: (dx, dictOf (bent w.params k1 k2 k3 k4 ld ls S.top t1 S.bottom t2) 4) :: news) := List.mem_append_right _ (.tail _ (.tail _ (hkn _ ht)))
        have hx1 : (x, instObj 147 dx) ∈ add5 ++ ((x, instObj 147 dx) :: (dx, dictOf (bent w.params k1 k2 k3 k4 ld ls S.top t1 S.bottom t2) 4) :: news) := List.mem_append_right _ (.head _)
        have hdx1 : (dx, dictOf (bent w.params k1 k2 k3 k4 ld ls S.top t1 S.bottom t2) 4) ∈ add5 ++ ((x, instObj 147 dx) :: (dx, dictOf (bent w.params k1 k2 k3 k4 ld ls S.top t1 S.bottom t2) 4) :: news) := List.mem_append_right _ (.tail _ (.head _))
        have N6 : News g1 L1 h5 ((I, oI) :: (ld, listOf vs5.toArray n5) :: (add5 ++ ((x, instObj 147 dx) :: (dx, dictOf (bent w.params k1 k2 k3 k4 ld ls S.top t1 S.bottom t2) 4) :: news))) := N5
        clear N5
        have off5 : ∀ q ∈ add5 ++ ((x, instObj 147 dx) :: (dx, dictOf (bent w.params k1 k2 k3 k4 ld ls S.top t1 S.bottom t2) 4) :: news), q.1 ≠ ld := fun q hq => (List.mem_append.mp hq).elim (fun h => e6 q h _ (.head _)) (offr q)
        have hsz : vs5.length ≤ 1000 := by
          have := e4.length
          rw [List.length_map] at this
          omega
        refine gk ?_
        clear gk gX
        dsimp only
        walk_at "mine:steps"
        rename_i D12 h12 lt12 h13 F13 N13
        rw [List.push_toArray] at N13
        refine fold_goal (fun gX gk => ?_)
        obtain ⟨u1, u2, u3, u4, N13⟩ : ∃ u1 u2 u3 u4, News g1 L1 h13 ((D12, tup4 q5.1 u1 S.top u2 (q5.2 - q5.1) u3 (S.bottom - S.top) u4) :: (I, oI) :: (ld, listOf (vs5 ++ [Value.ref D12]).toArray (n5 + 1)) :: (add5 ++ ((x, instObj 147 dx) :: (dx, dictOf (bent w.params k1 k2 k3 k4 ld ls S.top t1 S.bottom t2) 4) :: news))) := ⟨_, _, _, _, N13⟩
        obtain ⟨p1, p2, p3⟩ := lt12
        have p4 := tb_ltOf p3
        have hoff : OwnOff ((D12, tup4 q5.1 u1 S.top u2 (q5.2 - q5.1) u3 (S.bottom - S.top) u4) :: add5) [ld, I] := by
          intro q hq r hr
          rcases mem_cons_s hq with rfl | hq
          · rcases mem_cons_s hr with rfl | hr
            · exact (Nat.ne_of_lt p2).symm
            · rw [List.mem_singleton.mp hr]
              exact (Nat.ne_of_lt p1).symm
          · exact e6 q hq r hr
        refine gk ?_
        clear gk gX
        refine unr_mk _ _ _ ((ld, listOf (vs5 ++ [Value.ref D12]).toArray (n5 + 1)) :: (((D12, tup4 q5.1 u1 S.top u2 (q5.2 - q5.1) u3 (S.bottom - S.top) u4) :: add5) ++ ((x, instObj 147 dx) :: (dx, dictOf (bent w.params k1 k2 k3 k4 ld ls S.top t1 S.bottom t2) 4) :: news))) rfl F13 ?_ (offI _ _ _ _ hoff) (⟨.tail _ (List.mem_append_right _ hl2), trivial⟩) ⟨rs5, us5, vs5 ++ [Value.ref D12], n5 + 1, qs5 ++ [quadOf S.top S.bottom q5], (D12, tup4 q5.1 u1 S.top u2 (q5.2 - q5.1) u3 (S.bottom - S.top) u4) :: add5, rfl, e11, rfl, ?_, ?_, hoff, ?_, rfl, ?_, ?_⟩
        · intro q hq
          refine N13 q ?_
          (first | (refine sub_in hq ?_; walk_at "mine:in"; done) | (trace "GRINDBACK"; simp only [List.mem_cons, List.mem_append, List.cons_append, List.nil_append] at hq ⊢; grind only))
        · rw [List.map_append]
          exact DatAll.append (DatAll.mono (fun q hq => .tail _ hq) e4) (DatAll.one (tup4_dat (.head _)))
        · intro q hq r hr
          rcases mem_cons_s hr with rfl | hr
          · exact p4 q (List.mem_append_right _ hq)
          · exact e5 q hq r hr
        · intro r hr
          rcases mem_cons_s hr with rfl | hr
          · exact p2
          · exact e7 r hr
        · rw [← e9, List.append_assoc]; rfl
        · simp only [List.length_append, List.length_cons, List.length_nil] at e10 ⊢
          omega
  · exact ⟨S.spans, us, vs, n, S.done, [], rfl, hda, rfl, hv, fun _ _ _ h => (nomatch h), (fun _ h => nomatch h), (fun _ h => nomatch h), rfl, rfl, hz⟩
end
end
section
theorem reset_PBtake : True := by
  w_top off
  trivial
local macro_rules | `(tactic| walk_at "mine:none") => `(tactic| skip)
local macro_rules | `(tactic| walk_at "mine:none") => `(tactic| skip)
local macro_rules | `(tactic| walk_at "subscriptTail") => `(tactic| (k_here; (with_reducible show wpAny _ _ (subscriptTail _ _ (Value.ref _) (Value.int _ _)) _ _ _); k_dflt (refine' rows_item ?N ?kn ?hD ?hm ?hl ?_ ?hs ?hg; (case hD => assumption); (case N => k_asm); (case kn => walk_at "mine:known"); (case hm => k_mem); (case hl => assumption); (case hs => with_unfolding_all rfl); (case hg => (intro _; with_unfolding_all rfl)); k_whole); intro l' vs' n' hl' hm' hv' hn'))
local macro_rules | `(tactic| walk_at "getMethod ref") => `(tactic| (k_here; k_dflt (refine' rows_get_method ?N ?hD ?hm ?_; (case hD => assumption); (case N => k_asm); (case hm => k_mem); k_whole)))
local macro_rules | `(tactic| walk_at "call builtin:dict.get") => `(tactic| (k_here; k_dflt (refine' rows_get ?N ?kn ?hD ?hm ?hx ?_; (case hD => assumption); (case N => k_asm); (case kn => walk_at "mine:known"); (case hm => k_mem); (case hx => k_mem); k_whole); intro l' vs' n' hm' hv' hn'))
local macro_rules | `(tactic| walk_at "mine:known") => `(tactic| first | assumption | (intro q hq; first | exact List.mem_append_right _ (by solve_by_elim) | (simp only [List.mem_cons, List.mem_append] at hq ⊢; grind only)))
local macro_rules | `(tactic| walk_at "setItem ref int") => `(tactic| (k_here; (with_reducible show wpAny _ _ (setItem (Value.ref _) (Value.int _ _) _) _ _ _); k_dflt (refine' kda_set (knd := PySem.intKind _ _) ?F ?N ?U ?hd ?hk ?hz ?_; (case F => k_asm); (case N => k_asm); (case U => k_updF); (case hd => assumption); (case hk => exact intKind_is _ _ _ _); (case hz => (rw [sizeLine_eq]; omega)); k_whole); intro h' o' F' N' hd'; (try dsimp only at N'); (try k_sweep)))
local macro_rules | `(tactic| walk_at "call type:list") => `(tactic| (k_here; (with_reducible show wpAny _ _ (call (Value.type "list") [Value.ref _]) _ _ _); k_dflt (first
  | (refine' list_copyK ?k1 ?k2 ?k3 ?_ ?z; (case k1 => k_asm); (case k2 => k_asm); (case k3 => exact News.isList (by k_asm) (by k_mem)); (case z => (simp only [List.size_toArray, sizeLine_eq]; omega)); k_whole; intro D' c' h' F' N' l1; (try k_lt l1); (try k_sweep))
  | (refine' rows_list ?hh ?F ?N ?hp ?hd ?lo ?hn ?_; (case hh => exact rfl); (case F => k_asm); (case N => k_asm); (case hp => k_mem); (case hd => assumption); (case lo => assumption); (case hn => omega); k_whole; intro D' c' h' tk' vs' F' N' l1 hi'; (try k_lt l1); (try k_sweep)))))
local macro_rules | `(tactic| walk_at "call builtin:sum") => `(tactic| (k_here; (with_reducible show wpAny _ _ (call (Value.builtin "sum") [Value.ref _]) _ _ _); k_dflt (refine' sum_ints ?F ?N ?hh ?hl ?hi ?_; (case hi => assumption); (case F => k_asm); (case N => k_asm); (case hh => exact rfl); (case hl => exact News.isList (by k_asm) (by k_mem)); k_whole); intro h' tk' t' F' N'; (try k_sweep)))
local macro_rules | `(tactic| walk_at "binaryOp Add ref ref") => `(tactic| (k_here; (with_reducible show wpAny _ _ (binaryOp _ (Value.ref _) (Value.ref _)) _ _ _); k_dflt (refine' list_add_c ?F ?N ?a ?b ?_ ?z; (case F => k_asm); (case N => k_asm); (case a => k_mem); (case b => k_mem); (case z => (simp only [List.length_cons, List.length_nil]; omega)); k_whole); intro D' h' F' N' l1; (try k_lt l1); (try k_sweep)))
section
variable {prog : Program} {w : World} {p : Program} {loose : List Str} {mean : ExcName → Option Value} {mg mb : Str → Option Value}
local macro_rules | `(tactic| walk_at "mine:stop") => `(tactic| (with_reducible show wpAny _ _ (call (Value.ref 144) [Value.ref _]) _ _ _))
theorem btake_c {dp un : Nat} {gd : Option (List Code)} {cn : Str} {cs : Scope} {a : Addr} {ccd : Value} {cl : List (Str × Addr)} {outer : List Env} {A₀ : Around} {base h₀ : Heap} {L : Addr} {m : Str → Option Value} {s : Shared}
    {Q E : Value → Shared → Prop} {x dx ld ls la : Addr} {k1 k2 k3 k4 t1 t2 ty : Tok} {y : Int} {n : Nat} {vs : List Value} {S : BSt} {sp : List (Int × Int)} {kn news : List (Addr × Obj)}
    (B : Below A₀ base outer h₀) (F : Fr h₀ L s.heap m) (X : (hd.heap_1 w.params).In h₀) (N : News h₀ L s.heap ((x, instObj 147 dx) :: (dx, dictOf (bent w.params k1 k2 k3 k4 ld ls S.top t1 S.bottom t2) 4) :: (ld, listOf vs.toArray n) :: news)) (hkn : ∀ p ∈ kn, p ∈ news)
    (T : Top p loose mean mg mb h₀) (hk : cs.kind = .function) (hd : dp + 2 < recursionLimit) (hu : un + 200 < cLine) (ox : x ≠ dx) (ox2 : x ≠ ld) (od : dx ≠ ld) (off : ∀ q ∈ news, q.1 ≠ dx ∧ q.1 ≠ ld) (hs : DatIn kn (.ref ls) (pds S.spans)) (hsp : DatIn kn (.ref la) (pds sp)) (hv : DatAll kn vs (S.done.map qd)) (hz : S.done.length + S.spans.length ≤ 1000)
    (ret : ∀ ls' t1' t2' add vs' n' h' tk', Fr h₀ L h' m → News h₀ L h' ((x, instObj 147 dx) :: (dx, dictOf (bent w.params k1 k2 k3 k4 ld ls' (takeB S y sp).top t1' (takeB S y sp).bottom t2') 4) :: (ld, listOf vs'.toArray n') :: (add ++ news)) → (∀ q ∈ news, ∀ p ∈ add, q.1 < p.1) → (∀ p ∈ add, x < p.1 ∧ dx < p.1 ∧ ld < p.1) →
      DatIn (add ++ kn) (.ref ls') (pds (takeB S y sp).spans) → DatAll (add ++ kn) vs' ((takeB S y sp).done.map qd) → Q .none {s with heap := h', toks := tk'}) :
    wpAny (model prog w) (ktrTop dp un gd cn cs L a ccd cl outer) (call (.ref 137) [.ref x, .int y ty, .ref la]) Q E s := by
  refine wpAny_call ?_
  refine fold_goal (fun gX gk => ?_)
  obtain ⟨ls', us, n2, e, hl, hda⟩ := dat_list hs
  cases e
  obtain ⟨la', ua, n3, e, hla, hdb⟩ := dat_list hsp
  cases e
  have hl' := hkn _ hl
  have hla' := hkn _ hla
  have od' : ld ≠ dx := od.symm
  have offd : ∀ q ∈ news, q.1 ≠ dx := fun q hq => (off q hq).1
  have offl : ∀ q ∈ news, q.1 ≠ ld := fun q hq => (off q hq).2
  refine gk ?_
  clear gk gX
  k_dflt (walk_at "mine:enter")
  rename_i g1 L1 h1 FG1 F1 N1 B1 X1 T1
  walk_at "mine:steps"
  refine kqd_eq N1 (.tail _ (.tail _ (.tail _ hla'))) rfl rfl hdb (fun q hq => .tail _ (.tail _ (.tail _ (hkn q hq)))) (.tail _ (.tail _ (.tail _ hl'))) rfl rfl hda (fun q hq => .tail _ (.tail _ (.tail _ (hkn q hq)))) (pd_ok _) (pd_ok _) ?_ ?_
  · ke_room
  have N2 : News g1 L1 h1 ((x, instObj 147 dx) :: (dx, dictOf (bent w.params k1 k2 k3 k4 ld ls S.top t1 S.bottom t2) 4) :: (ld, listOf vs.toArray n) :: news) := N1
  by_cases hsame : sp = S.spans
  · rw [pd_eq_t hsame]
    walk_at "mine:steps"
    · rename_i hy h9 F9' N9' F9 N9 T9 X9
      have hT : takeB S y sp = ⟨S.done, S.spans, S.top, y + 1⟩ := by rw [takeB, if_pos ⟨hsame, hy⟩]
      rw [hT] at ret
      exact ret _ _ _ [] vs n _ _ F9 N9 (fun _ _ _ h => nomatch h) (fun _ h => nomatch h) hs hv
    · rename_i hy
      have hT : takeB S y sp = ⟨(closeB S).done, sp, y, y + 1⟩ := by rw [takeB, if_neg fun h => hy h.2]
      rw [hT] at ret
      refine' close_c (kn := kn) (S := S) B1 F1 X1 N2 hkn T1 rfl ?zd ?zu ox ox2 od off hs hv hz ?_
      (case zd => walk_at "mine:room")
      (case zu => walk_at "mine:units")
      intro l6 add6 vs6 n6 h6 tk6 F6 N6 a1 a2 a3 a4
      have off6 : ∀ q ∈ add6 ++ news, q.1 ≠ dx := fun q hq => (List.mem_append.mp hq).elim (fun h => (Nat.ne_of_lt (a2 q h).2.1).symm) (offd q)
      walk_at "mine:steps"
      rename News h₀ _ _ _ => N9
      rename Fr h₀ _ _ _ => F9
      exact ret _ _ _ add6 vs6 n6 _ _ F9 N9 a1 a2 (DatIn.mono (fun q hq => List.mem_append_right _ hq) hsp) a4
  · rw [pd_eq_f hsame]
    walk_at "mine:steps"
    · have hT : takeB S y sp = ⟨(closeB S).done, sp, y, y + 1⟩ := by rw [takeB, if_neg fun h => hsame h.1]
      rw [hT] at ret
      refine' close_c (kn := kn) (S := S) B1 F1 X1 N2 hkn T1 rfl ?zd ?zu ox ox2 od off hs hv hz ?_
      (case zd => walk_at "mine:room")
      (case zu => walk_at "mine:units")
      intro l6 add6 vs6 n6 h6 tk6 F6 N6 a1 a2 a3 a4
      have off6 : ∀ q ∈ add6 ++ news, q.1 ≠ dx := fun q hq => (List.mem_append.mp hq).elim (fun h => (Nat.ne_of_lt (a2 q h).2.1).symm) (offd q)
      walk_at "mine:steps"
      rename News h₀ _ _ _ => N9
      rename Fr h₀ _ _ _ => F9
      exact ret _ _ _ add6 vs6 n6 _ _ F9 N9 a1 a2 (DatIn.mono (fun q hq => List.mem_append_right _ hq) hsp) a4
end
end
section
theorem reset_PRect : True := by
  w_top off
  trivial
local macro_rules | `(tactic| walk_at "subscriptTail") => `(tactic| (k_here; (with_reducible show wpAny _ _ (subscriptTail _ _ (Value.ref _) (Value.int _ _)) _ _ _); k_dflt (refine' rows_item ?N ?kn ?hD ?hm ?hl ?_ ?hs ?hg; (case hD => assumption); (case N => k_asm); (case kn => walk_at "mine:known"); (case hm => k_mem); (case hl => assumption); (case hs => with_unfolding_all rfl); (case hg => (intro _; with_unfolding_all rfl)); k_whole); intro l' vs' n' hl' hm' hv' hn'))
local macro_rules | `(tactic| walk_at "getMethod ref") => `(tactic| (k_here; k_dflt (refine' rows_get_method ?N ?hD ?hm ?_; (case hD => assumption); (case N => k_asm); (case hm => k_mem); k_whole)))
local macro_rules | `(tactic| walk_at "call builtin:dict.get") => `(tactic| (k_here; k_dflt (refine' rows_get ?N ?kn ?hD ?hm ?hx ?_; (case hD => assumption); (case N => k_asm); (case kn => walk_at "mine:known"); (case hm => k_mem); (case hx => k_mem); k_whole); intro l' vs' n' hm' hv' hn'))
local macro_rules | `(tactic| walk_at "mine:known") => `(tactic| first | assumption | (intro q hq; first | exact List.mem_append_right _ (by solve_by_elim) | (simp only [List.mem_cons, List.mem_append] at hq ⊢; grind only)))
local macro_rules | `(tactic| walk_at "setItem ref int") => `(tactic| (k_here; (with_reducible show wpAny _ _ (setItem (Value.ref _) (Value.int _ _) _) _ _ _); k_dflt (refine' kda_set (knd := PySem.intKind _ _) ?F ?N ?U ?hd ?hk ?hz ?_; (case F => k_asm); (case N => k_asm); (case U => k_updF); (case hd => assumption); (case hk => exact intKind_is _ _ _ _); (case hz => (rw [sizeLine_eq]; omega)); k_whole); intro h' o' F' N' hd'; (try dsimp only at N'); (try k_sweep)))
local macro_rules | `(tactic| walk_at "call type:list") => `(tactic| (k_here; (with_reducible show wpAny _ _ (call (Value.type "list") [Value.ref _]) _ _ _); k_dflt (first
  | (refine' list_copyK ?k1 ?k2 ?k3 ?_ ?z; (case k1 => k_asm); (case k2 => k_asm); (case k3 => exact News.isList (by k_asm) (by k_mem)); (case z => (simp only [List.size_toArray, sizeLine_eq]; omega)); k_whole; intro D' c' h' F' N' l1; (try k_lt l1); (try k_sweep))
  | (refine' rows_list ?hh ?F ?N ?hp ?hd ?lo ?hn ?_; (case hh => exact rfl); (case F => k_asm); (case N => k_asm); (case hp => k_mem); (case hd => assumption); (case lo => assumption); (case hn => omega); k_whole; intro D' c' h' tk' vs' F' N' l1 hi'; (try k_lt l1); (try k_sweep)))))
local macro_rules | `(tactic| walk_at "call builtin:sum") => `(tactic| (k_here; (with_reducible show wpAny _ _ (call (Value.builtin "sum") [Value.ref _]) _ _ _); k_dflt (refine' sum_ints ?F ?N ?hh ?hl ?hi ?_; (case hi => assumption); (case F => k_asm); (case N => k_asm); (case hh => exact rfl); (case hl => exact News.isList (by k_asm) (by k_mem)); k_whole); intro h' tk' t' F' N'; (try k_sweep)))
local macro_rules | `(tactic| walk_at "binaryOp Add ref ref") => `(tactic| (k_here; (with_reducible show wpAny _ _ (binaryOp _ (Value.ref _) (Value.ref _)) _ _ _); k_dflt (refine' list_add_c ?F ?N ?a ?b ?_ ?z; (case F => k_asm); (case N => k_asm); (case a => k_mem); (case b => k_mem); (case z => (simp only [List.length_cons, List.length_nil]; omega)); k_whole); intro D' h' F' N' l1; (try k_lt l1); (try k_sweep)))
section
variable {prog : Program} {w : World} {p : Program} {loose : List Str} {mean : ExcName → Option Value} {mg mb : Str → Option Value}
theorem bands_c {dp un : Nat} {gd : Option (List Code)} {cn : Str} {cs : Scope} {a : Addr} {ccd : Value} {cl : List (Str × Addr)} {outer : List Env} {A₀ : Around} {base h₀ : Heap} {L : Addr} {m : Str → Option Value} {s : Shared}
    {Q E : Value → Shared → Prop} {news : List (Addr × Obj)}
    (B : Below A₀ base outer h₀) (F : Fr h₀ L s.heap m) (X : (hd.heap_1 w.params).In h₀) (N : News h₀ L s.heap news)
    (T : Top p loose mean mg mb h₀) (hk : cs.kind = .function) (hd : dp + 1 < recursionLimit) (hu : un + 100 < cLine)
    (ret : ∀ x dx ld ls k1 k2 k3 k4 t1 t2 h' tk', Fr h₀ L h' m → News h₀ L h' ((x, instObj 147 dx) :: (dx, dictOf (bent w.params k1 k2 k3 k4 ld ls 0 t1 0 t2) 4) :: (ld, listOf #[] 0) :: (ls, listOf #[] 0) :: news) → (∀ q ∈ news, q.1 < dx) → @LT.lt Nat _ dx x → @LT.lt Nat _ x ld → @LT.lt Nat _ ld ls → Q (.ref x) {s with heap := h', toks := tk'}) :
    wpAny (model prog w) (ktrTop dp un gd cn cs L a ccd cl outer) (call (.ref 147) []) Q E s := by
  refine call_cls F X N (by k_is) (by k_is) (by k_is) ?_
  intro x1 dx1 h1 F1 N1 l1 l2
  have l1' := l1
  (try k_lt l1)
  (try k_lt2 l2)
  k_dflt (walk_at "mine:enter")
  rename_i g1 L1 h2 FG1 F2 N2 B1 X1 T1
  walk_at "mine:steps"
  rename_i ta lda ha lta hb tb lsa hc ltb hdd he hf F' N' F9 N9 T9 X9
  refine fold_goal (fun gX gk => ?_)
  obtain ⟨b1, b2, b3, b4, b5, b6, N9⟩ : ∃ b1 b2 b3 b4 b5 b6, News h₀ L hf ((lsa, listOf #[] 0) :: (lda, listOf #[] 0) :: (x1, instObj 147 dx1) :: (dx1, dictOf (bent w.params b1 b2 b3 b4 lda lsa 0 b5 0 b6) 4) :: news) := ⟨_, _, _, _, _, _, N9⟩
  refine gk ?_
  clear gk gX
  refine ret x1 dx1 lda lsa b1 b2 b3 b4 b5 b6 _ _ F9 (fun q hq => N9 q ?_) l1' l2 lta.1 ltb.1
  (first | (refine sub_in hq ?_; walk_at "mine:in"; done) | (trace "GRINDBACK"; simp only [List.mem_cons] at hq ⊢; grind only))
local macro_rules | `(tactic| walk_at "mine:stop") => `(tactic| first | (with_reducible show wpAny _ _ (call (Value.ref 147) []) _ _ _) | (with_reducible show wpAny _ _ (call (Value.ref 137) _) _ _ _) | (with_reducible show wpAny _ _ (call (Value.ref 144) _) _ _ _) | (with_reducible show wpAny _ _ (call (Value.ref 66) _) _ _ _) | (with_reducible show wpAny _ _ (call (Value.ref 59) _) _ _ _))
def rectB (G : Rows) : List Quad := (closeB (G.foldl (fun S q => takeB S q.1 q.2) ⟨[], [], 0, 0⟩)).done
def sumLen (G : Rows) : Nat := (G.map fun q => q.2.length).sum
theorem takeB_len (S : BSt) (y : Int) (sp : List (Int × Int)) : (takeB S y sp).done.length + (takeB S y sp).spans.length ≤ S.done.length + S.spans.length + sp.length := by
  unfold takeB
  split
  · simp only; omega
  · simp only [closeB, List.length_append, List.length_map]; omega
/-- the rows' loop -/
inductive ReInv (P : Params) (rest : List (Addr × Obj)) (x dx ld xr lI : Addr) (G : Rows) (total : BSt) (xs : List Itm) (m : Str → Option Value) (nx : List (Addr × Obj)) : Prop
  | mk (Gd Gs : Rows) (us vs : List Value) (n : Nat) (S : BSt) (ls : Addr) (k1 k2 k3 k4 t1 t2 : Tok) (add : List (Addr × Obj)) (ih0 : xs = us.map .val) (ih1 : IntsAre us (Gs.map (·.1))) (ih2 : Gd ++ Gs = G) (ih3 : nx = (x, instObj 147 dx) :: (dx, dictOf (bent P k1 k2 k3 k4 ld ls S.top t1 S.bottom t2) 4) :: (ld, listOf vs.toArray n) :: (add ++ rest)) (ih4 : DatIn (add ++ rest) (.ref ls) (pds S.spans)) (ih5 : DatAll (add ++ rest) vs (S.done.map qd)) (ih6 : (∀ q ∈ rest, ∀ r ∈ add, q.1 < r.1)) (ih7 : (∀ r ∈ add, r.1 ≠ x ∧ r.1 ≠ dx ∧ r.1 ≠ ld ∧ r.1 ≠ lI ∧ dx < r.1 ∧ x < r.1 ∧ ld < r.1)) (ih8 : m (Str.ofString "bands") = some (.ref x)) (ih9 : m (Str.ofString "region") = some (.ref xr)) (ih10 : Gs.foldl (fun S q => takeB S q.1 q.2) S = total) (ih11 : S.done.length + S.spans.length + sumLen Gs ≤ 1000) : ReInv P rest x dx ld xr lI G total xs m nx
theorem rectangles_c {dp un : Nat} {gd : Option (List Code)} {cn : Str} {cs : Scope} {a : Addr} {ccd : Value} {cl : List (Str × Addr)} {outer : List Env} {A₀ : Around} {base h₀ : Heap} {L : Addr} {m : Str → Option Value} {s : Shared}
    {Q E : Value → Shared → Prop} {xr : Addr} {G : Rows} {kn news : List (Addr × Obj)}
    (B : Below A₀ base outer h₀) (F : Fr h₀ L s.heap m) (X : (hd.heap_1 w.params).In h₀) (N : News h₀ L s.heap news) (hkn : ∀ p ∈ kn, p ∈ news)
    (T : Top p loose mean mg mb h₀) (hk : cs.kind = .function) (hd : dp + 3 < recursionLimit) (hu : un + 300 < cLine) (hv : RegionIn prog w kn (.ref xr) G) (hz : G.length ≤ 100) (hz2 : sumLen G ≤ 1000) (hnd : (G.map (·.1)).Nodup)
    (ret : ∀ ld add h' tk', Fr h₀ L h' m → News h₀ L h' (add ++ news) → (∀ q ∈ news, ∀ p ∈ add, q.1 < p.1) → DatIn (add ++ news) (.ref ld) (.list ((rectB G).map qd)) → Q (.ref ld) {s with heap := h', toks := tk'}) :
    wpAny (model prog w) (ktrTop dp un gd cn cs L a ccd cl outer) (call (.ref 158) [.ref xr]) Q E s := by
  refine wpAny_call ?_
  have hv' := hv
  refine fold_goal (fun gX gk => ?_)
  obtain ⟨x', dxr, d, od, hsh, tx, nx, kvs, e, hx1, hx2, hx3, hd2, hd3, hd4⟩ := hv
  cases e
  have hm1 := hkn _ hx1
  have hm2 := hkn _ hx2
  have hm3 := hkn _ hx3
  refine gk ?_
  clear gk gX
  k_dflt (walk_at "mine:enter")
  rename_i g1 L1 h1 FG1 F1 N1 B1 X1 T1
  walk_at "mine:steps"
  refine' bands_c B1 F1 X1 N1 T1 rfl ?zd ?zu ?_
  (case zd => walk_at "mine:room")
  (case zu => walk_at "mine:units")
  intro x dx ld ls k1 k2 k3 k4 t1 t2 h2 tk2 F2 N2 o1 o2 o3 o4
  walk_at "mine:steps"
  rename Fr g1 _ _ _ => F3
  rename News g1 _ _ _ => N3
  refine For_turns F3 ?_
  walk_at "mine:steps"
  refine' heights_c (kn := kn) (G := G) B1 ?zf X1 ?zn ?zk T1 rfl ?zd ?zu hv' (by omega) ?_
  (case zf => k_asm)
  (case zn => exact N3)
  (case zk => exact fun q hq => .tail _ (.tail _ (.tail _ (.tail _ (hkn q hq)))))
  (case zd => walk_at "mine:room")
  (case zu => walk_at "mine:units")
  intro D4 c4 h4 tk4 vs4 F4 N4 l4 i4
  walk_at "mine:steps"
  have lD1 := ltN (l4 _ (.head _))
  have lD2 := ltN (l4 _ (.tail _ (.head _)))
  have lD3 := ltN (l4 _ (.tail _ (.tail _ (.head _))))
  dsimp only at lD1 lD2 lD3
  refine for_list ((x, instObj 147 dx) :: (dx, dictOf (bent w.params k1 k2 k3 k4 ld ls 0 t1 0 t2) 4) :: (ld, listOf #[] 0) :: ([] ++ ((D4, listOf vs4.toArray c4) :: (ls, listOf #[] 0) :: news))) rfl F4 N4 ?_ (.tail _ (.tail _ (.tail _ (.head _)))) rfl rfl (fun I l5 => ?_)
  · intro q hq
    (first | (refine sub_in hq ?_; walk_at "mine:in"; done) | (trace "GRINDBACK"; simp only [List.mem_cons, List.mem_append, List.nil_append] at hq ⊢; grind only))
  have bI1 := ltN (l5 _ (.tail _ (.head _)))
  have bI2 := ltN (l5 _ (.tail _ (.tail _ (.head _))))
  have bI3 := ltN (l5 _ (.tail _ (.tail _ (.tail _ (.head _)))))
  dsimp only at bI1 bI2 bI3
  have hI0 : ∀ q ∈ ((D4, listOf vs4.toArray c4) :: (ls, listOf #[] 0) :: news), q.1 < I := by
    intro q hq
    refine l5 q ?_
    (first | (refine sub_in hq ?_; walk_at "mine:in"; done) | (trace "GRINDBACK"; simp only [List.mem_cons] at hq ⊢; grind only))
  have offr : ∀ q ∈ ((D4, listOf vs4.toArray c4) :: (ls, listOf #[] 0) :: news), q.1 ≠ x ∧ q.1 ≠ dx ∧ q.1 ≠ ld := by
    intro q hq
    rcases mem_cons_s hq with rfl | hq
    · exact ⟨(Nat.ne_of_lt lD1).symm, (Nat.ne_of_lt lD2).symm, (Nat.ne_of_lt lD3).symm⟩
    · rcases mem_cons_s hq with rfl | hq
      · exact ⟨(Nat.ne_of_lt (Nat.lt_trans o3 o4)).symm, (Nat.ne_of_lt (Nat.lt_trans o2 (Nat.lt_trans o3 o4))).symm, (Nat.ne_of_lt o4).symm⟩
      · have := o1 q hq
        exact ⟨Nat.ne_of_lt (Nat.lt_trans this o2), Nat.ne_of_lt this, Nat.ne_of_lt (Nat.lt_trans this (Nat.lt_trans o2 o3))⟩
  have nxd : x ≠ dx := (Nat.ne_of_lt o2).symm
  have nxl : x ≠ ld := Nat.ne_of_lt o3
  have ndl : dx ≠ ld := Nat.ne_of_lt (Nat.lt_trans o2 o3)
  refine items_ind (ReInv w.params ((D4, listOf vs4.toArray c4) :: (ls, listOf #[] 0) :: news) x dx ld xr I G (G.foldl (fun S q => takeB S q.1 q.2) ⟨[], [], 0, 0⟩)) ?_ ?_ _ _ _ ?_
  · intro m5 nx h5 tk5 hI F5 N5
    refine fold_Q ?_
    intro qF0
    refine fold_E ?_
    intro eF0
    refine fold_A ?_
    intro aF0
    refine fold_goal (fun gX gk => ?_)
    obtain ⟨Gd5, Gs5, us5, vs5, n5, S5, ls5, j1, j2, j3, j4, u1, u2, add5, e1, e2, e3, e4, e5, e6, e7, e8, e9, e10, e11, e12⟩ := hI
    subst e4
    have e1' : us5 = [] := by simpa using e1.symm
    subst e1'
    have hGs : Gs5 = [] := by simpa using e2.length.symm
    subst hGs
    have F6 := fr_look [(Str.ofString "bands", .ref x)] F5 (by simpa using e9)
    dsimp only [look] at F6
    clear F5
    refine gk ?_
    clear gk gX
    dsimp only
    have offa : ∀ q ∈ add5 ++ ((D4, listOf vs4.toArray c4) :: (ls, listOf #[] 0) :: news), q.1 ≠ x ∧ q.1 ≠ dx ∧ q.1 ≠ ld := fun q hq => (List.mem_append.mp hq).elim (fun h => ⟨(e8 q h).1, (e8 q h).2.1, (e8 q h).2.2.1⟩) (offr q)
    have hT : S5 = G.foldl (fun S q => takeB S q.1 q.2) ⟨[], [], 0, 0⟩ := e11
    walk_at "mine:steps"
    refine' close_c (kn := add5 ++ ((D4, listOf vs4.toArray c4) :: (ls, listOf #[] 0) :: news)) (S := S5) B1 ?zf X1 ?zn (fun q hq => hq) T1 rfl ?zd ?zu nxd nxl ndl (fun q hq => (offa q hq).2) e5 e6 (by omega) ?_
    (case zf => k_asm)
    (case zn => exact N5)
    (case zd => walk_at "mine:room")
    (case zu => walk_at "mine:units")
    intro l6 add6 vs6 n6 h6 tk6 F7 N7 a1 a2 a3 a4
    walk_at "mine:steps"
    rename Fr h₀ _ _ _ => F9
    rename News h₀ _ _ _ => N9
    refine ret ld ((ld, listOf vs6.toArray n6) :: (x, instObj 147 dx) :: (dx, dictOf (bent w.params j1 j2 j3 j4 ld l6 S5.top u1 S5.bottom u2) 4) :: (D4, listOf vs4.toArray c4) :: (ls, listOf #[] 0) :: (add6 ++ add5)) _ _ F9 ?_ ?_ ?_
    · intro q hq
      refine N9 q ?_
      (first | (refine sub_in hq ?_; walk_at "mine:in"; done) | (trace "GRINDBACK"; simp only [List.mem_cons, List.mem_append, List.cons_append] at hq ⊢; grind only))
    · intro q hq r hr
      have p1 := o1 q hq
      simp only [List.mem_cons, List.mem_append] at hr
      rcases hr with rfl | rfl | rfl | rfl | rfl | hr | hr
      · exact Nat.lt_trans p1 (Nat.lt_trans o2 o3)
      · exact Nat.lt_trans p1 o2
      · exact p1
      · exact l4 q (.tail _ (.tail _ (.tail _ (.tail _ hq))))
      · exact Nat.lt_trans p1 (Nat.lt_trans o2 (Nat.lt_trans o3 o4))
      · exact a1 q (List.mem_append_right _ (.tail _ (.tail _ hq))) r hr
      · exact e7 q (.tail _ (.tail _ hq)) r hr
    · rw [rectB, ← hT]
      refine DatIn.list (.head _) (DatAll.mono (fun q hq => ?_) a4)
      (first | (refine sub_in hq ?_; walk_at "mine:in"; done) | (trace "GRINDBACK"; simp only [List.mem_cons, List.mem_append, List.cons_append] at hq ⊢; grind only))
  · intro it r m5 nx hI v5 h5 tk5 hit F5 oI hoI N5
    refine fold_Q ?_
    intro qF1
    refine fold_E ?_
    intro eF1
    refine fold_A ?_
    intro aF1
    refine fold_goal (fun gX gk => ?_)
    obtain ⟨Gd5, Gs5, us5, vs5, n5, S5, ls5, j1, j2, j3, j4, u1, u2, add5, e1, e2, e3, e4, e5, e6, e7, e8, e9, e10, e11, e12⟩ := hI
    subst e4
    cases us5 with
    | nil => simp at e1
    | cons u us5 =>
      simp only [List.map_cons, List.cons.injEq] at e1
      obtain ⟨rfl, rfl⟩ := e1
      have hu5 : v5 = u := hit
      subst hu5
      cases Gs5 with
      | nil => cases e2
      | cons q5 Gs5 =>
        cases e2
        rename_i ty5 e2
        have F6 := fr_look [(Str.ofString "bands", .ref x), (Str.ofString "region", .ref xr)] F5 (by simp [e9, e10])
        dsimp only [look] at F6
        clear F5
        have hxr : (xr, instObj 102 dxr) ∈ add5 ++ ((D4, listOf vs4.toArray c4) :: (ls, listOf #[] 0) :: news) := List.mem_append_right _ (.tail _ (.tail _ hm1))
        have hdxr := List.mem_append_right add5 (show _ ∈ ((D4, listOf vs4.toArray c4) :: (ls, listOf #[] 0) :: news) from .tail _ (.tail _ hm2))
        have N6 : News g1 L1 h5 ((I, oI) :: (x, instObj 147 dx) :: (dx, dictOf (bent w.params j1 j2 j3 j4 ld ls5 S5.top u1 S5.bottom u2) 4) :: (ld, listOf vs5.toArray n5) :: (add5 ++ ((D4, listOf vs4.toArray c4) :: (ls, listOf #[] 0) :: news))) := N5
        clear N5
        have hrow : rowAt G q5.1 = q5.2 := by
          rw [rowAt, rget_some_of_mem hnd (q := q5) (e3 ▸ List.mem_append_right _ (.head _))]
          rfl
        refine gk ?_
        clear gk gX
        dsimp only
        have offa : ∀ q ∈ add5 ++ ((D4, listOf vs4.toArray c4) :: (ls, listOf #[] 0) :: news), q.1 ≠ x ∧ q.1 ≠ dx ∧ q.1 ≠ ld := fun q hq => (List.mem_append.mp hq).elim (fun h => ⟨(e8 q h).1, (e8 q h).2.1, (e8 q h).2.2.1⟩) (offr q)
        walk_at "mine:steps"
        rename_i h7 h8 F8 N8
        have hlen5 : sumLen (q5 :: Gs5) = q5.2.length + sumLen Gs5 := by simp [sumLen]
        rw [hlen5] at e12
        refine' spans_of_c (kn := kn) (G := G) B1 F8 X1 N8 ?zk T1 rfl ?zd ?zu hv' (by rw [hrow]; omega) ?_
        (case zk => exact fun q hq => .tail _ (.tail _ (.tail _ (.tail _ (List.mem_append_right _ (.tail _ (.tail _ (hkn q hq))))))))
        (case zd => walk_at "mine:room")
        (case zu => walk_at "mine:units")
        intro D9 c9 h9 tk9 vs9 F9 N9 l9 i9
        rw [hrow] at i9
        have N10 : News g1 L1 h9 ((x, instObj 147 dx) :: (dx, dictOf (bent w.params j1 j2 j3 j4 ld ls5 S5.top u1 S5.bottom u2) 4) :: (ld, listOf vs5.toArray n5) :: ((I, oI) :: (D9, listOf vs9.toArray c9) :: (add5 ++ ((D4, listOf vs4.toArray c4) :: (ls, listOf #[] 0) :: news)))) := by
          intro q hq
          refine N9 q ?_
          (first | (refine sub_in hq ?_; walk_at "mine:in"; done) | (trace "GRINDBACK"; simp only [List.mem_cons, List.mem_append] at hq ⊢; grind only))
        have lx := l9 _ (.tail _ (.head _))
        have ldx := l9 _ (.tail _ (.tail _ (.head _)))
        have lld := l9 _ (.tail _ (.tail _ (.tail _ (.head _))))
        have lI := l9 _ (.head _)
        dsimp only at lx ldx lld lI
        walk_at "mine:steps"
        refine' btake_c (kn := (D9, listOf vs9.toArray c9) :: (add5 ++ ((D4, listOf vs4.toArray c4) :: (ls, listOf #[] 0) :: news))) (S := S5) (sp := q5.2) B1 F9 X1 N10 (fun q hq => .tail _ hq) T1 rfl ?zd ?zu nxd nxl ndl ?zo (DatIn.mono (fun q hq => .tail _ hq) e5) ?zs (DatAll.mono (fun q hq => .tail _ hq) e6) (by omega) ?_
        (case zd => walk_at "mine:room")
        (case zu => walk_at "mine:units")
        (case zo =>
          intro q hq
          rcases mem_cons_s hq with rfl | hq
          · exact ⟨(Nat.ne_of_lt bI2).symm, (Nat.ne_of_lt bI3).symm⟩
          · rcases mem_cons_s hq with rfl | hq
            · exact ⟨(Nat.ne_of_lt ldx).symm, (Nat.ne_of_lt lld).symm⟩
            · exact (offa q hq).2)
        (case zs =>
          refine DatIn.list (.head _) (DatAll.mono (fun q hq => ?_) i9)
          exact .tail _ (List.mem_append_right _ (.tail _ (.tail _ (hkn q hq)))))
        intro l11 v1 v2 add11 vs11 n11 h11 tk11 F11 N11 a1 a2 a3 a4
        walk_at "mine:steps"
        have hadd : ∀ r ∈ add11 ++ (D9, listOf vs9.toArray c9) :: add5, r.1 ≠ x ∧ r.1 ≠ dx ∧ r.1 ≠ ld ∧ r.1 ≠ I ∧ @LT.lt Nat _ dx r.1 ∧ @LT.lt Nat _ x r.1 ∧ @LT.lt Nat _ ld r.1 := by
          intro r hr
          rcases List.mem_append.mp hr with hr | hr
          · refine fold_goal (fun gX gk => ?_)
            obtain ⟨z1, z2, z3⟩ := a2 r hr
            have z4 := a1 _ (.head _) r hr
            refine gk ?_
            clear gk gX
            exact ⟨(Nat.ne_of_lt z1).symm, (Nat.ne_of_lt z2).symm, (Nat.ne_of_lt z3).symm, (Nat.ne_of_lt z4).symm, z2, z1, z3⟩
          · rcases mem_cons_s hr with rfl | hr
            · exact ⟨(Nat.ne_of_lt lx).symm, (Nat.ne_of_lt ldx).symm, (Nat.ne_of_lt lld).symm, (Nat.ne_of_lt lI).symm, ldx, lx, lld⟩
            · exact e8 r hr
        refine unr_mk _ _ _ ((x, instObj 147 dx) :: (dx, dictOf (bent w.params j1 j2 j3 j4 ld l11 (takeB S5 q5.1 q5.2).top v1 (takeB S5 q5.1 q5.2).bottom v2) 4) :: (ld, listOf vs11.toArray n11) :: ((add11 ++ (D9, listOf vs9.toArray c9) :: add5) ++ ((D4, listOf vs4.toArray c4) :: (ls, listOf #[] 0) :: news))) rfl F11 ?_ ?_ (⟨.tail _ (.tail _ (.tail _ (List.mem_append_right _ (.head _)))), trivial⟩) ⟨Gd5 ++ [q5], Gs5, us5, vs11, n11, takeB S5 q5.1 q5.2, l11, j1, j2, j3, j4, v1, v2, add11 ++ (D9, listOf vs9.toArray c9) :: add5, rfl, e2, by rw [List.append_assoc]; exact e3, rfl, DatIn.mono ?_ a3, DatAll.mono ?_ a4, ?_, hadd, rfl, rfl, e11, ?_⟩
        · intro q hq
          refine N11 q ?_
          (first | (refine sub_in hq ?_; walk_at "mine:in"; done) | (trace "GRINDBACK"; simp only [List.mem_cons, List.mem_append, List.cons_append, List.nil_append] at hq ⊢; grind only))
        · intro q hq r hr
          rw [List.mem_singleton.mp hr]
          rcases mem_cons_s hq with rfl | hq
          · exact Nat.ne_of_lt bI1
          · rcases mem_cons_s hq with rfl | hq
            · exact Nat.ne_of_lt bI2
            · rcases mem_cons_s hq with rfl | hq
              · exact Nat.ne_of_lt bI3
              · rcases List.mem_append.mp hq with hq | hq
                · exact (hadd q hq).2.2.2.1
                · exact Nat.ne_of_lt (hI0 q hq)
        · intro q hq
          (first | (refine sub_in hq ?_; walk_at "mine:in"; done) | (trace "GRINDBACK"; simp only [List.mem_cons, List.mem_append] at hq ⊢; grind only))
        · intro q hq
          (first | (refine sub_in hq ?_; walk_at "mine:in"; done) | (trace "GRINDBACK"; simp only [List.mem_cons, List.mem_append] at hq ⊢; grind only))
        · intro q hq r hr
          rcases List.mem_append.mp hr with hr | hr
          · exact a1 q (.tail _ (.tail _ (List.mem_append_right _ hq))) r hr
          · rcases mem_cons_s hr with rfl | hr
            · exact l9 q (.tail _ (.tail _ (.tail _ (.tail _ (List.mem_append_right _ hq)))))
            · exact e7 q hq r hr
        · have := takeB_len S5 q5.1 q5.2
          omega
  · exact ⟨[], G, vs4, [], 0, ⟨[], [], 0, 0⟩, ls, k1, k2, k3, k4, t1, t2, [], rfl, i4, rfl, rfl, DatIn.list (n := 0) (.tail _ (.head _)) .nil, .nil, (fun _ _ _ h => nomatch h), (fun _ h => nomatch h), rfl, rfl, rfl, by simpa using hz2⟩
end
end
section
theorem reset_PNorm2 : True := by
  w_top off
  trivial
local macro_rules | `(tactic| walk_at "subscriptTail") => `(tactic| (k_here; (with_reducible show wpAny _ _ (subscriptTail _ _ (Value.ref _) (Value.int (-1) _)) _ _ _); k_dflt (refine' item_last ?l ?a ?_ ?e; (case l => k_asm); (case a => k_mem); (case e => with_unfolding_all rfl); k_whole)))
local macro_rules | `(tactic| walk_at "setItem ref int") => `(tactic| (k_here; (with_reducible show wpAny _ _ (setItem (Value.ref _) (Value.int (-1) _) _) _ _ _); k_dflt (refine' set_last ?k1 ?k2 ?k3 ?_; (case k1 => k_asm); (case k2 => k_asm); (case k3 => k_upd); k_whole); intro h' F' N'; (try k_sweep)))
local macro_rules | `(tactic| walk_at "subscriptTail") => `(tactic| (k_here; (with_reducible show wpAny _ _ (subscriptTail _ _ (Value.ref _) (Value.int _ _)) _ _ _); k_dflt (refine' rows_item ?N ?kn ?hD ?hm ?hl ?_ ?hs ?hg; (case hD => assumption); (case N => k_asm); (case kn => walk_at "mine:known"); (case hm => k_mem); (case hl => assumption); (case hs => with_unfolding_all rfl); (case hg => (intro _; with_unfolding_all rfl)); k_whole); intro l' vs' n' hl' hm' hv' hn'))
local macro_rules | `(tactic| walk_at "getMethod ref") => `(tactic| (k_here; k_dflt (refine' rows_get_method ?N ?hD ?hm ?_; (case hD => assumption); (case N => k_asm); (case hm => k_mem); k_whole)))
local macro_rules | `(tactic| walk_at "call builtin:dict.get") => `(tactic| (k_here; k_dflt (refine' rows_get ?N ?kn ?hD ?hm ?hx ?_; (case hD => assumption); (case N => k_asm); (case kn => walk_at "mine:known"); (case hm => k_mem); (case hx => k_mem); k_whole); intro l' vs' n' hm' hv' hn'))
local macro_rules | `(tactic| walk_at "mine:known") => `(tactic| first | assumption | (intro q hq; first | exact List.mem_append_right _ (by solve_by_elim) | (simp only [List.mem_cons, List.mem_append] at hq ⊢; grind only)))
local macro_rules | `(tactic| walk_at "setItem ref int") => `(tactic| (k_here; (with_reducible show wpAny _ _ (setItem (Value.ref _) (Value.int _ _) _) _ _ _); k_dflt (refine' kda_set (knd := PySem.intKind _ _) ?F ?N ?U ?hd ?hk ?hz ?_; (case F => k_asm); (case N => k_asm); (case U => k_updF); (case hd => assumption); (case hk => exact intKind_is _ _ _ _); (case hz => (rw [sizeLine_eq]; omega)); k_whole); intro h' o' F' N' hd'; (try dsimp only at N'); (try k_sweep)))
local macro_rules | `(tactic| walk_at "call type:list") => `(tactic| (k_here; (with_reducible show wpAny _ _ (call (Value.type "list") [Value.ref _]) _ _ _); k_dflt (first
  | (refine' list_copyK ?k1 ?k2 ?k3 ?_ ?z; (case k1 => k_asm); (case k2 => k_asm); (case k3 => exact News.isList (by k_asm) (by k_mem)); (case z => (simp only [List.size_toArray, sizeLine_eq]; omega)); k_whole; intro D' c' h' F' N' l1; (try k_lt l1); (try k_sweep))
  | (refine' rows_list ?hh ?F ?N ?hp ?hd ?lo ?hn ?_; (case hh => exact rfl); (case F => k_asm); (case N => k_asm); (case hp => k_mem); (case hd => assumption); (case lo => assumption); (case hn => omega); k_whole; intro D' c' h' tk' vs' F' N' l1 hi'; (try k_lt l1); (try k_sweep)))))
local macro_rules | `(tactic| walk_at "call builtin:sum") => `(tactic| (k_here; (with_reducible show wpAny _ _ (call (Value.builtin "sum") [Value.ref _]) _ _ _); k_dflt (refine' sum_ints ?F ?N ?hh ?hl ?hi ?_; (case hi => assumption); (case F => k_asm); (case N => k_asm); (case hh => exact rfl); (case hl => exact News.isList (by k_asm) (by k_mem)); k_whole); intro h' tk' t' F' N'; (try k_sweep)))
local macro_rules | `(tactic| walk_at "binaryOp Add ref ref") => `(tactic| (k_here; (with_reducible show wpAny _ _ (binaryOp _ (Value.ref _) (Value.ref _)) _ _ _); k_dflt (refine' list_add_c ?F ?N ?a ?b ?_ ?z; (case F => k_asm); (case N => k_asm); (case a => k_mem); (case b => k_mem); (case z => (simp only [List.length_cons, List.length_nil]; omega)); k_whole); intro D' h' F' N' l1; (try k_lt l1); (try k_sweep)))
section
variable {prog : Program} {w : World} {p : Program} {loose : List Str} {mean : ExcName → Option Value} {mg mb : Str → Option Value}
/-- a pair of small columns -/
def okB (q : Int × Int) : Prop := -8 ≤ q.1 ∧ -8 ≤ q.2 ∧ q.2 ≤ 15 ∧ q.1 ≤ 15
theorem okB.inB {q : Int × Int} (h : okB q) : inB q := ⟨h.1, h.2.2.1⟩
theorem normal_s {dp un : Nat} {gd : Option (List Code)} {cn : Str} {cs : Scope} {a : Addr} {ccd : Value} {cl : List (Str × Addr)} {outer : List Env} {A₀ : Around} {base h₀ : Heap} {L : Addr} {m : Str → Option Value} {s : Shared}
    {Q E : Value → Shared → Prop} {v : Value} {ps : List (Int × Int)} {kn news : List (Addr × Obj)}
    (B : Below A₀ base outer h₀) (F : Fr h₀ L s.heap m) (X : (hd.heap_1 w.params).In h₀) (N : News h₀ L s.heap news) (hkn : ∀ p ∈ kn, p ∈ news)
    (T : Top p loose mean mg mb h₀) (hk : cs.kind = .function) (hd : dp + 1 < recursionLimit) (hu : un + 100 < cLine) (hv : DatIn kn v (.list (ps.map pd))) (hlen : ps.length ≤ 4) (hb : ∀ q ∈ ps, okB q)
    (ret : ∀ r add h' tk', Fr h₀ L h' m → News h₀ L h' (add ++ news) → (∀ q ∈ news, ∀ p ∈ add, q.1 < p.1) → DatIn add r (pds (spansOf ps)) → (spansOf ps).length ≤ ps.length → Q r {s with heap := h', toks := tk'}) :
    wpAny (model prog w) (ktrTop dp un gd cn cs L a ccd cl outer) (call (.ref 33) [v]) Q E s := by
  refine normal_c B F X N hkn T hk hd hu hv hlen (fun q hq => ?_) fun r add h' tk' qs F' N' l' p' s' d' => ?_
  · have := hb q hq
    simp only [okB] at this
    simp only [pbd]
    omega
  · have e := merge_spans p' s' fun q hq => (hb q hq).inB
    rw [e] at d'
    exact ret r add h' tk' F' N' l' d' (by rw [← e, ← p'.length_eq]; exact merge_len qs)
end
end
section
theorem reset_PMade : True := by
  w_top off
  trivial
local macro_rules | `(tactic| walk_at "subscriptTail") => `(tactic| (k_here; (with_reducible show wpAny _ _ (subscriptTail _ _ (Value.ref _) (Value.int _ _)) _ _ _); k_dflt (refine' rows_item ?N ?kn ?hD ?hm ?hl ?_ ?hs ?hg; (case hD => assumption); (case N => k_asm); (case kn => walk_at "mine:known"); (case hm => k_mem); (case hl => assumption); (case hs => with_unfolding_all rfl); (case hg => (intro _; with_unfolding_all rfl)); k_whole); intro l' vs' n' hl' hm' hv' hn'))
local macro_rules | `(tactic| walk_at "getMethod ref") => `(tactic| (k_here; k_dflt (refine' rows_get_method ?N ?hD ?hm ?_; (case hD => assumption); (case N => k_asm); (case hm => k_mem); k_whole)))
local macro_rules | `(tactic| walk_at "call builtin:dict.get") => `(tactic| (k_here; k_dflt (refine' rows_get ?N ?kn ?hD ?hm ?hx ?_; (case hD => assumption); (case N => k_asm); (case kn => walk_at "mine:known"); (case hm => k_mem); (case hx => k_mem); k_whole); intro l' vs' n' hm' hv' hn'))
local macro_rules | `(tactic| walk_at "mine:known") => `(tactic| first | assumption | (intro q hq; first | exact List.mem_append_right _ (by solve_by_elim) | (simp only [List.mem_cons, List.mem_append] at hq ⊢; grind only)))
local macro_rules | `(tactic| walk_at "setItem ref int") => `(tactic| (k_here; (with_reducible show wpAny _ _ (setItem (Value.ref _) (Value.int _ _) _) _ _ _); k_dflt (refine' kda_set (knd := PySem.intKind _ _) ?F ?N ?U ?hd ?hk ?hz ?_; (case F => k_asm); (case N => k_asm); (case U => k_updF); (case hd => assumption); (case hk => exact intKind_is _ _ _ _); (case hz => (rw [sizeLine_eq]; omega)); k_whole); intro h' o' F' N' hd'; (try dsimp only at N'); (try k_sweep)))
local macro_rules | `(tactic| walk_at "call type:list") => `(tactic| (k_here; (with_reducible show wpAny _ _ (call (Value.type "list") [Value.ref _]) _ _ _); k_dflt (first
  | (refine' list_copyK ?k1 ?k2 ?k3 ?_ ?z; (case k1 => k_asm); (case k2 => k_asm); (case k3 => exact News.isList (by k_asm) (by k_mem)); (case z => (simp only [List.size_toArray, sizeLine_eq]; omega)); k_whole; intro D' c' h' F' N' l1; (try k_lt l1); (try k_sweep))
  | (refine' rows_list ?hh ?F ?N ?hp ?hd ?lo ?hn ?_; (case hh => exact rfl); (case F => k_asm); (case N => k_asm); (case hp => k_mem); (case hd => assumption); (case lo => assumption); (case hn => omega); k_whole; intro D' c' h' tk' vs' F' N' l1 hi'; (try k_lt l1); (try k_sweep)))))
local macro_rules | `(tactic| walk_at "call builtin:sum") => `(tactic| (k_here; (with_reducible show wpAny _ _ (call (Value.builtin "sum") [Value.ref _]) _ _ _); k_dflt (refine' sum_ints ?F ?N ?hh ?hl ?hi ?_; (case hi => assumption); (case F => k_asm); (case N => k_asm); (case hh => exact rfl); (case hl => exact News.isList (by k_asm) (by k_mem)); k_whole); intro h' tk' t' F' N'; (try k_sweep)))
local macro_rules | `(tactic| walk_at "binaryOp Add ref ref") => `(tactic| (k_here; (with_reducible show wpAny _ _ (binaryOp _ (Value.ref _) (Value.ref _)) _ _ _); k_dflt (refine' list_add_c ?F ?N ?a ?b ?_ ?z; (case F => k_asm); (case N => k_asm); (case a => k_mem); (case b => k_mem); (case z => (simp only [List.length_cons, List.length_nil]; omega)); k_whole); intro D' h' F' N' l1; (try k_lt l1); (try k_sweep)))
/-- a list of made pairs of a row and its spans -/
inductive MadeRows (kn : List (Addr × Obj)) : List Value → List (Int × Value) → Rows → Prop
  | nil : MadeRows kn [] [] []
  | cons {T : Addr} {k : Int} {t : Tok} {v : Value} {ps : List (Int × Int)} {n : Nat} {vs : List Value} {r : List (Int × Value)} {S : Rows} : (T, ({ cls := .type "tuple", data := .seq [Value.int k t, v].toArray n } : Obj)) ∈ kn → DatIn kn v (pds ps) → MadeRows kn vs r S → MadeRows kn (.ref T :: vs) ((k, v) :: r) ((k, ps) :: S)
theorem MadeRows.mono {kn kn' : List (Addr × Obj)} (h : ∀ p ∈ kn, p ∈ kn') {vs : List Value} {r : List (Int × Value)} {S : Rows} (x : MadeRows kn vs r S) : MadeRows kn' vs r S := by
  induction x with
  | nil => exact .nil
  | cons a b _ ih => exact .cons (h _ a) (DatIn.mono h b) ih
theorem MadeRows.append {kn : List (Addr × Obj)} {vs vs' : List Value} {r r' : List (Int × Value)} {S S' : Rows} (x : MadeRows kn vs r S) (y : MadeRows kn vs' r' S') : MadeRows kn (vs ++ vs') (r ++ r') (S ++ S') := by
  induction x with
  | nil => exact y
  | cons a b _ ih => exact .cons a b ih
theorem MadeRows.rows {kn : List (Addr × Obj)} {vs : List Value} {r : List (Int × Value)} {S : Rows} (x : MadeRows kn vs r S) : RowsIn kn r S := by
  induction x with
  | nil => exact .nil
  | cons _ b _ ih => exact .cons b ih
theorem MadeRows.pairs {kn : List (Addr × Obj)} {h : Heap} (hk : ∀ p ∈ kn, h.get? p.1 = some p.2) {vs : List Value} {r : List (Int × Value)} {S : Rows} (x : MadeRows kn vs r S) : PairVals h vs r := by
  induction x with
  | nil => exact .nil
  | cons a _ _ ih => exact .cons (hk _ a) ih
section
variable {prog : Program} {w : World} {A : Around} {E : Value → Shared → Prop} {s : Shared} {h₀ : Heap} {L o : Addr} {m : Str → Option Value} {news kn : List (Addr × Obj)} {vs : List Value} {k : Nat} {r : List (Int × Value)} {S : Rows}
theorem dict_list_c {Q : Value → Shared → Prop} (hh : A.handled = none) (F : Fr h₀ L s.heap m) (N : News h₀ L s.heap news) (hbig : h₀.NoLimit) (hm : (o, listOf vs.toArray k) ∈ news) (hM : MadeRows kn vs r S) (hkn : ∀ p ∈ kn, p ∈ news) (hnd : (S.map (·.1)).Nodup) (hz : S.length ≤ 1000)
    (ret : ∀ d od h' tk, Fr h₀ L h' m → News h₀ L h' ((d, od) :: news) → (∀ q ∈ news, q.1 < d) → DictAt prog w kn d od S → Q (.ref d) { s with heap := h', toks := tk }) :
    wpAny (model prog w) A (call (.type "dict") [.ref o]) Q E s := by
  refine call_dict_list hh (N _ hm).1 rfl rfl rfl (hM.pairs fun p hp => (N _ (hkn p hp)).1) (by rw [hM.rows.length]; exact hz) fun h' tk d keep hd hD => ?_
  refine fold_goal (fun gX gk => ?_)
  obtain ⟨od, hod, hdd⟩ := Heap.dictOf_iff.mp hD
  have hl := modules_low hbig
  have hlt : sysModules < d := Nat.lt_of_lt_of_le (Nat.lt_of_lt_of_le (Nat.lt_trans hl (Nat.lt_of_le_of_lt F.above F.ns.lt)) hd) (Nat.le_refl _)
  refine gk ?_
  clear gk gX
  refine ret d od h' tk (F.keeps keep) (fun q hq => ?_) (fun q hq => Nat.lt_of_lt_of_le (Heap.lt_size (N q hq).1) hd) ⟨_, hdd, ?_, beq_eq_false_iff_ne.mpr (Nat.ne_of_gt hlt)⟩
  · rcases mem_cons_s hq with rfl | hq
    · refine ⟨hod, Nat.ne_of_gt (Nat.lt_of_lt_of_le F.ns.lt hd), ?_⟩
      cases hq2 : h₀.get? d with
      | none => rfl
      | some x => exact absurd (Nat.lt_of_lt_of_le (Heap.lt_size (F.keep _ _ hq2)) hd) (Nat.lt_irrefl _)
    · exact ⟨keep _ _ (N q hq).1, (N q hq).2⟩
  · have := hM.rows.fold (.nil : RowsIn kn [] [])
    rwa [rows_nil_of hnd] at this
end
end
section
theorem reset_POrect : True := by
  w_top off
  trivial
local macro_rules | `(tactic| walk_at "subscriptTail") => `(tactic| (k_here; (with_reducible show wpAny _ _ (subscriptTail _ _ (Value.ref _) (Value.int (-1) _)) _ _ _); k_dflt (refine' item_last ?l ?a ?_ ?e; (case l => k_asm); (case a => k_mem); (case e => with_unfolding_all rfl); k_whole)))
local macro_rules | `(tactic| walk_at "setItem ref int") => `(tactic| (k_here; (with_reducible show wpAny _ _ (setItem (Value.ref _) (Value.int (-1) _) _) _ _ _); k_dflt (refine' set_last ?k1 ?k2 ?k3 ?_; (case k1 => k_asm); (case k2 => k_asm); (case k3 => k_upd); k_whole); intro h' F' N'; (try k_sweep)))
local macro_rules | `(tactic| walk_at "subscriptTail") => `(tactic| (k_here; (with_reducible show wpAny _ _ (subscriptTail _ _ (Value.ref _) (Value.int _ _)) _ _ _); k_dflt (refine' rows_item ?N ?kn ?hD ?hm ?hl ?_ ?hs ?hg; (case hD => assumption); (case N => k_asm); (case kn => walk_at "mine:known"); (case hm => k_mem); (case hl => assumption); (case hs => with_unfolding_all rfl); (case hg => (intro _; with_unfolding_all rfl)); k_whole); intro l' vs' n' hl' hm' hv' hn'))
local macro_rules | `(tactic| walk_at "getMethod ref") => `(tactic| (k_here; k_dflt (refine' rows_get_method ?N ?hD ?hm ?_; (case hD => assumption); (case N => k_asm); (case hm => k_mem); k_whole)))
local macro_rules | `(tactic| walk_at "call builtin:dict.get") => `(tactic| (k_here; k_dflt (refine' rows_get ?N ?kn ?hD ?hm ?hx ?_; (case hD => assumption); (case N => k_asm); (case kn => walk_at "mine:known"); (case hm => k_mem); (case hx => k_mem); k_whole); intro l' vs' n' hm' hv' hn'))
local macro_rules | `(tactic| walk_at "mine:known") => `(tactic| first | assumption | (intro q hq; first | exact List.mem_append_right _ (by solve_by_elim) | (simp only [List.mem_cons, List.mem_append] at hq ⊢; grind only)))
local macro_rules | `(tactic| walk_at "setItem ref int") => `(tactic| (k_here; (with_reducible show wpAny _ _ (setItem (Value.ref _) (Value.int _ _) _) _ _ _); k_dflt (refine' kda_set (knd := PySem.intKind _ _) ?F ?N ?U ?hd ?hk ?hz ?_; (case F => k_asm); (case N => k_asm); (case U => k_updF); (case hd => assumption); (case hk => exact intKind_is _ _ _ _); (case hz => (rw [sizeLine_eq]; omega)); k_whole); intro h' o' F' N' hd'; (try dsimp only at N'); (try k_sweep)))
local macro_rules | `(tactic| walk_at "call type:list") => `(tactic| (k_here; (with_reducible show wpAny _ _ (call (Value.type "list") [Value.ref _]) _ _ _); k_dflt (first
  | (refine' list_copyK ?k1 ?k2 ?k3 ?_ ?z; (case k1 => k_asm); (case k2 => k_asm); (case k3 => exact News.isList (by k_asm) (by k_mem)); (case z => (simp only [List.size_toArray, sizeLine_eq]; omega)); k_whole; intro D' c' h' F' N' l1; (try k_lt l1); (try k_sweep))
  | (refine' rows_list ?hh ?F ?N ?hp ?hd ?lo ?hn ?_; (case hh => exact rfl); (case F => k_asm); (case N => k_asm); (case hp => k_mem); (case hd => assumption); (case lo => assumption); (case hn => omega); k_whole; intro D' c' h' tk' vs' F' N' l1 hi'; (try k_lt l1); (try k_sweep)))))
local macro_rules | `(tactic| walk_at "call builtin:sum") => `(tactic| (k_here; (with_reducible show wpAny _ _ (call (Value.builtin "sum") [Value.ref _]) _ _ _); k_dflt (refine' sum_ints ?F ?N ?hh ?hl ?hi ?_; (case hi => assumption); (case F => k_asm); (case N => k_asm); (case hh => exact rfl); (case hl => exact News.isList (by k_asm) (by k_mem)); k_whole); intro h' tk' t' F' N'; (try k_sweep)))
local macro_rules | `(tactic| walk_at "binaryOp Add ref ref") => `(tactic| (k_here; (with_reducible show wpAny _ _ (binaryOp _ (Value.ref _) (Value.ref _)) _ _ _); k_dflt (refine' list_add_c ?F ?N ?a ?b ?_ ?z; (case F => k_asm); (case N => k_asm); (case a => k_mem); (case b => k_mem); (case z => (simp only [List.length_cons, List.length_nil]; omega)); k_whole); intro D' h' F' N' l1; (try k_lt l1); (try k_sweep)))
local macro_rules | `(tactic| walk_at "mine:stop") => `(tactic| (with_reducible show wpAny _ _ (call (Value.ref 33) _) _ _ _))
section
variable {prog : Program} {w : World} {p : Program} {loose : List Str} {mean : ExcName → Option Value} {mg mb : Str → Option Value}
def accRow (q : Quad) (R : Rows) (y : Int) : Rows := rput R y (rowAt R y ++ [(q.1, q.1 + q.2.2.1)])
def accQ (R : Rows) (q : Quad) : Rows := (rangeKs q.2.1 q.2.2.2.toNat).foldl (accRow q) R
/-- the rows' pairs -/
def accR (qs : List Quad) : Rows := qs.foldl accQ []
theorem dat_quad {kn : List (Addr × Obj)} {v : Value} {q : Quad} (h : DatIn kn v (qd q)) : Ex6 fun (t : Addr) (ta tb tc td : Tok) (n : Nat) => An2 (v = .ref t) ((t, ({ cls := .type "tuple", data := .seq [Value.int q.1 ta, Value.int q.2.1 tb, Value.int q.2.2.1 tc, Value.int q.2.2.2 td].toArray n } : Obj)) ∈ kn) := by
  obtain ⟨t, vs, n, rfl, ht, a0⟩ := dat_tuple h
  obtain ⟨v1, vs1, e1, h1, a1⟩ := dat_all_cons a0
  obtain ⟨v2, vs2, e2, h2, a2⟩ := dat_all_cons a1
  obtain ⟨v3, vs3, e3, h3, a3⟩ := dat_all_cons a2
  obtain ⟨v4, vs4, e4, h4, a4⟩ := dat_all_cons a3
  have e9 := dat_all_nil a4
  subst e9 e4 e3 e2 e1
  obtain ⟨t1, rfl⟩ := dat_int h1
  obtain ⟨t2, rfl⟩ := dat_int h2
  obtain ⟨t3, rfl⟩ := dat_int h3
  obtain ⟨t4, rfl⟩ := dat_int h4
  exact ⟨_, _, _, _, _, _, rfl, ht⟩
/-- loops over rectangles and their rows -/
inductive OrInv (prog : Program) (w : World) (kn rest : List (Addr × Obj)) (d lI : Addr) (total : Rows) (xs : List Itm) (m : Str → Option Value) (nx : List (Addr × Obj)) : Prop
  | mk (qs : List Quad) (us : List Value) (od : Obj) (kvs : List (Int × Value)) (R : Rows) (add : List (Addr × Obj)) (ih0 : xs = us.map .val) (ih1 : DatAll kn us (qs.map qd)) (ih2 : nx = (d, od) :: (add ++ rest)) (ih3 : od.IsDictOf (PySem.intKind prog w) kvs) (ih4 : RowsIn (add ++ kn) kvs R) (ih5 : (∀ q ∈ rest, ∀ r ∈ add, q.1 < r.1)) (ih6 : OwnOff add [d, lI]) (ih7 : qs.foldl accQ R = total) (ih8 : (∀ q ∈ qs, 0 ≤ q.2.2.2 ∧ q.2.2.2 ≤ 100 ∧ -100 ≤ q.2.1 ∧ q.2.1 ≤ 100)) (ih9 : R.length + (qs.map fun q => q.2.2.2.toNat).sum ≤ 1000) (ih10 : (∀ y, (rowAt R y).length + (qs.map fun q => q.2.2.2.toNat).sum ≤ 1000)) (ih11 : (R.map (·.1)).Nodup) : OrInv prog w kn rest d lI total xs m nx
inductive OyInv (prog : Program) (w : World) (kn rest : List (Addr × Obj)) (q : Quad) (d lJ : Addr) (total : Rows) (xs : List Itm) (m : Str → Option Value) (nx : List (Addr × Obj)) : Prop
  | mk (ys : List Int) (od : Obj) (kvs : List (Int × Value)) (R : Rows) (add : List (Addr × Obj)) (ta tb : Tok) (ih0 : xs = ys.map (fun k => .tok fun t => .int k t)) (ih1 : nx = (d, od) :: (add ++ rest)) (ih2 : od.IsDictOf (PySem.intKind prog w) kvs) (ih3 : RowsIn (add ++ kn) kvs R) (ih4 : (∀ q ∈ rest, ∀ r ∈ add, q.1 < r.1)) (ih5 : OwnOff add [d, lJ]) (ih6 : m (Str.ofString "left") = some (.int q.1 ta)) (ih7 : m (Str.ofString "width") = some (.int q.2.2.1 tb)) (ih8 : ys.foldl (accRow q) R = total) (ih9 : R.length + ys.length ≤ 1000) (ih10 : (∀ y, (rowAt R y).length + ys.length ≤ 1000)) : OyInv prog w kn rest q d lJ total xs m nx
theorem accRow_len (q : Quad) (ys : List Int) : ∀ R, (ys.foldl (accRow q) R).length ≤ R.length + ys.length := by
  induction ys with
  | nil => intro R; simp
  | cons y ys ih =>
    intro R
    rw [List.foldl_cons]
    have := ih (accRow q R y)
    have := rput_length R y (rowAt R y ++ [(q.1, q.1 + q.2.2.1)])
    simp only [accRow] at *
    simp only [List.length_cons]
    omega
theorem accRow_row (q : Quad) (ys : List Int) : ∀ R z, (rowAt (ys.foldl (accRow q) R) z).length ≤ (rowAt R z).length + ys.length := by
  induction ys with
  | nil => intro R z; simp
  | cons y ys ih =>
    intro R z
    rw [List.foldl_cons]
    have h1 := ih (accRow q R y) z
    have h2 : (rowAt (accRow q R y) z).length ≤ (rowAt R z).length + 1 := by
      rw [accRow, rowAt_rput]
      split
      · rename_i e
        rw [e, List.length_append, List.length_singleton]
        exact Nat.le_refl _
      · omega
    simp only [List.length_cons]
    omega
theorem accRow_nodup (q : Quad) (ys : List Int) : ∀ R : Rows, (R.map (·.1)).Nodup → ((ys.foldl (accRow q) R).map (·.1)).Nodup := by
  induction ys with
  | nil => intro R h; exact h
  | cons y ys ih =>
    intro R h
    rw [List.foldl_cons]
    exact ih _ (rput_nodup h _ _)
local macro_rules | `(tactic| walk_at "mine:stop") => `(tactic| (with_reducible show wpAny _ _ (call (Value.builtin "dict.get") _) _ _ _))
local macro_rules | `(tactic| walk_at "mine:stop") => `(tactic| first | (with_reducible show wpAny _ _ (call (Value.ref 102) _) _ _ _) | (with_reducible show wpAny _ _ (call (Value.type "dict") _) _ _ _))
theorem rowAt_mapv {f : List (Int × Int) → List (Int × Int)} (hf : f [] = []) (R : Rows) (y : Int) : rowAt (R.map fun q => (q.1, f q.2)) y = f (rowAt R y) := by
  induction R with
  | nil => exact hf.symm
  | cons q R ih =>
    obtain ⟨k, ps⟩ := q
    rw [List.map_cons, rowAt_cons, rowAt_cons, ih]
    split <;> rfl
theorem orect_c {dp un : Nat} {gd : Option (List Code)} {cn : Str} {cs : Scope} {a : Addr} {ccd : Value} {cl : List (Str × Addr)} {outer : List Env} {A₀ : Around} {base h₀ : Heap} {L : Addr} {m : Str → Option Value} {s : Shared}
    {Q E : Value → Shared → Prop} {v : Value} {qs : List Quad} {kn news : List (Addr × Obj)}
    (B : Below A₀ base outer h₀) (F : Fr h₀ L s.heap m) (X : (hd.heap_1 w.params).In h₀) (N : News h₀ L s.heap news) (hkn : ∀ p ∈ kn, p ∈ news)
    (T : Top p loose mean mg mb h₀) (hk : cs.kind = .function) (hd : dp + 3 < recursionLimit) (hu : un + 300 < cLine) (hv : DatIn kn v (.list (qs.map qd)))
    (hb : ∀ q ∈ qs, 0 ≤ q.2.2.2 ∧ q.2.2.2 ≤ 100 ∧ -100 ≤ q.2.1 ∧ q.2.1 ≤ 100) (hsum : (qs.map fun q => q.2.2.2.toNat).sum ≤ 1000) (hR : (accR qs).length ≤ 20) (hrow : ∀ q ∈ accR qs, q.2.length ≤ 4 ∧ ∀ r ∈ q.2, okB r)
    (ret : ∀ r add h' tk' G, Fr h₀ L h' m → News h₀ L h' (add ++ news) → (∀ q ∈ news, ∀ p ∈ add, q.1 < p.1) → RegionIn prog w (add ++ news) r G → RegIs G (fun y => spansOf (rowAt (accR qs) y)) → Q r {s with heap := h', toks := tk'}) :
    wpAny (model prog w) (ktrTop dp un gd cn cs L a ccd cl outer) (call (.ref 111) [v]) Q E s := by
  refine wpAny_call ?_
  refine fold_goal (fun gX gk => ?_)
  obtain ⟨l, vs, n, rfl, hl, hda⟩ := dat_list hv
  have hl' := hkn _ hl
  refine gk ?_
  clear gk gX
  k_dflt (walk_at "mine:enterC")
  rename_i g1 L1 h1 tk1 FG1 F1 B1 X1 T1 l1 o1 d1 N1
  have offc : ∀ q ∈ news, q.1 ≠ L1 + 1 := fun q hq => Nat.ne_of_lt (Nat.lt_succ_of_lt (l1 q hq))
  walk_at "mine:steps"
  rename_i d2 h2 od2 lo2 e3 e4 e5 e6 l2 h3 o2 F3 N3 hcell
  refine For_turns F3 ?_
  walk_at "mine:steps"
  refine for_list ((d2, od2) :: ([] ++ ((L1 + 1, o2) :: news))) rfl F3 N3 (fun q hq => hq) (.tail _ (.tail _ hl')) rfl rfl (fun I l4 => ?_)
  have bI1 := ltN (l4 _ (.head _))
  dsimp only at bI1
  have ld2 := tb_ltOf l2.2
  have hI0 : ∀ q ∈ ((L1 + 1, o2) :: news), q.1 < I := fun q hq => l4 q (.tail _ hq)
  have offr : ∀ q ∈ ((L1 + 1, o2) :: news), q.1 ≠ d2 := by
    intro q hq
    rcases mem_cons_s hq with rfl | hq
    · exact Nat.ne_of_lt l2.1
    · exact Nat.ne_of_lt (ld2 q hq)
  have offI : ∀ (o oI : Obj) (ad : List (Addr × Obj)), OwnOff ad [d2, I] → ∀ q ∈ (d2, o) :: (ad ++ ((L1 + 1, o2) :: news)), ∀ r ∈ [(I, oI)], q.1 ≠ r.1 := by
    intro o oI ad had q hq r hr
    rw [List.mem_singleton.mp hr]
    rcases mem_cons_s hq with rfl | hq
    · exact Nat.ne_of_lt bI1
    · rcases List.mem_append.mp hq with hq | hq
      · exact had q hq _ (.tail _ (.head _))
      · exact Nat.ne_of_lt (hI0 q hq)
  refine items_ind (OrInv prog w kn ((L1 + 1, o2) :: news) d2 I (accR qs)) ?_ ?_ _ _ _ ?_
  · intro m5 nx h5 tk5 hI F5 N5
    refine fold_Q ?_
    intro qF0
    refine fold_E ?_
    intro eF0
    refine fold_A ?_
    intro aF0
    refine fold_goal (fun gX gk => ?_)
    obtain ⟨qs5, us5, od5, kvs5, R5, add5, q1, q2, q3, q4, q5, q6, q7, q8, q9, q10, q12, q13⟩ := hI
    subst q3
    have q1' : us5 = [] := by simpa using q1.symm
    subst q1'
    have q2' : qs5 = [] := by simpa using q2.length.symm
    subst q2'
    have hcm : (L1 + 1, o2) ∈ add5 ++ ((L1 + 1, o2) :: news) := List.mem_append_right _ (.head _)
    refine gk ?_
    clear gk gX
    dsimp only
    have hdm : (d2, od5) ∈ (d2, od5) :: (add5 ++ ((L1 + 1, o2) :: news)) := .head _
    have hDA : DictAt prog w (add5 ++ kn) d2 od5 R5 := ⟨kvs5, q4, q5, lo2⟩
    have hRe : R5 = accR qs := q8
    have hkl := q5.length
    rw [← hRe] at hR hrow
    have hk5 : ∀ p ∈ add5 ++ kn, p ∈ add5 ++ ((L1 + 1, o2) :: news) := fun p hp => (List.mem_append.mp hp).elim (fun h => List.mem_append_left _ h) fun h => List.mem_append_right _ (.tail _ (hkn p h))
    walk_at "mine:steps"
    refine comp_rule F5 (by with_unfolding_all rfl) (by decide) (by rfl) (by decide) ?_
    walk_at "mine:steps"
    refine comp_dict rfl F5 N5 (.head _) q4 lo2 ?_ (fun I6 h6 tk6 l6 => ?_)
    · rw [sizeLine_eq]; omega
    refine comp_ind (fun xs ys nx => Ex5 fun (rs : List (Int × Value)) (Ss Sd : Rows) (r : List (Int × Value)) (add : List (Addr × Obj)) => An6 (xs = keyItms rs) (RowsIn (add5 ++ kn) rs Ss) (Sd ++ Ss = R5) (MadeRows add ys r (Sd.map fun q => (q.1, spansOf q.2))) (nx = add ++ ((d2, od5) :: (add5 ++ ((L1 + 1, o2) :: news)))) (∀ q ∈ (d2, od5) :: (add5 ++ ((L1 + 1, o2) :: news)), ∀ r ∈ add, q.1 < r.1)) ?_ ?_ _ _ _ ?_
    · intro ys nx hI0 D9 h9 tk9 F9 N9 o9
      refine fold_Q ?_
      intro qF1
      refine fold_E ?_
      intro eF1
      refine fold_A ?_
      intro aF1
      refine fold_goal (fun gX gk => ?_)
      obtain ⟨rs, Ss, Sd, r, add, x1, x2, x3, x4, x5, x6⟩ := hI0
      subst x5
      have x1' : rs = [] := by simpa [keyItms] using x1.symm
      subst x1'
      cases x2
      rw [List.append_nil] at x3
      subst x3
      refine gk ?_
      clear gk gX
      walk_at "mine:steps"
      refine' dict_list_c rfl F9 N9 T1.nolimit (.head _) x4 (fun p hp => .tail _ (List.mem_append_left _ hp)) ?znd ?zz ?_
      (case znd => (rw [List.map_map]; exact q13))
      (case zz => (rw [List.length_map]; omega))
      intro d10 od10 h10 tk10 F10 N10 l10 hD10
      walk_at "mine:steps"
      have hS := fun q (hq : q ∈ Sd.map fun q => (q.1, spansOf q.2)) => (List.mem_map.mp hq)
      refine' region_c (kn := (d10, od10) :: add) (R := Sd.map fun q => (q.1, spansOf q.2)) B1 F10 X1 N10 ?zk T1 rfl ?zd ?zu ?zv ?zl ?zs ?_
      (case zk =>
        intro q hq
        rcases mem_cons_s hq with rfl | hq
        · exact .head _
        · exact .tail _ (.tail _ (List.mem_append_left _ hq)))
      (case zd => walk_at "mine:room")
      (case zu => walk_at "mine:units")
      (case zv =>
        refine fold_goal (fun gX gk => ?_)
        obtain ⟨kvz, z1, z2, z3⟩ := hD10
        refine gk ?_
        clear gk gX
        exact ⟨d10, od10, kvz, rfl, .head _, z1, z2.mono fun q hq => .tail _ hq, z3⟩)
      (case zl => (rw [List.length_map]; omega))
      (case zs =>
        intro q hq
        refine fold_goal (fun gX gk => ?_)
        obtain ⟨z, hz, rfl⟩ := hS q hq
        have h1 := hrow z hz
        have h2 := spans_len fun u hu => (h1.2 u hu).inB
        have := h1.1
        refine gk ?_
        clear gk gX
        dsimp only
        omega)
      intro r12 add12 h12 tk12 G12 F12 N12 l12 g12 i12
      walk_at "mine:steps"
      rename News h₀ _ _ _ => N13
      rename Fr h₀ _ _ _ => F13
      have ld2' := ltN l2.1
      refine ret r12 (add12 ++ ((d10, od10) :: (add ++ ((d2, od5) :: (add5 ++ [(L1 + 1, o2)]))))) _ _ G12 F13 ?_ ?_ (g12.mono ?_) ?_
      · intro q hq
        refine N13 q ?_
        (first | (refine sub_in hq ?_; walk_at "mine:in"; done) | (trace "GRINDBACK"; simp only [List.mem_cons, List.mem_append, List.not_mem_nil, or_false] at hq ⊢; grind only))
      · intro q hq r hr
        simp only [List.mem_cons, List.mem_append, List.not_mem_nil, or_false] at hr
        have hq1 : q ∈ add5 ++ ((L1 + 1, o2) :: news) := List.mem_append_right _ (.tail _ hq)
        rcases hr with hr | rfl | hr | rfl | hr | rfl
        · exact l12 q (.tail _ (.tail _ (List.mem_append_right _ (.tail _ hq1)))) r hr
        · exact l10 q (.tail _ (List.mem_append_right _ (.tail _ hq1)))
        · exact x6 q (.tail _ hq1) r hr
        · exact ld2 q hq
        · exact q6 q (.tail _ hq) r hr
        · exact Nat.lt_succ_of_lt (l1 q hq)
      · intro q hq
        (first | (refine sub_in hq ?_; walk_at "mine:in"; done) | (trace "GRINDBACK"; simp only [List.mem_cons, List.mem_append, List.not_mem_nil, or_false] at hq ⊢; grind only))
      · refine ⟨i12.1, i12.2.1, fun y => ?_⟩
        rw [i12.2.2 y, rowAt_mapv (f := spansOf) (by decide), hRe]
    · intro it r ys nx hI0 v9 C9 oC9 m9 D9 h9 tk9 E9 hv9 hoC9 F9 hCD oI9 hoI9 N9 o9 o9'
      refine fold_Q ?_
      intro qF2
      refine fold_E ?_
      intro eF2
      refine fold_A ?_
      intro aF2
      refine fold_goal (fun gX gk => ?_)
      obtain ⟨rs, Ss, Sd, r', add, x1, x2, x3, x4, x5, x6⟩ := hI0
      subst x5
      cases rs with
      | nil => simp [keyItms] at x1
      | cons pr rs =>
        simp only [keyItms, List.map_cons, List.cons.injEq] at x1
        obtain ⟨rfl, rfl⟩ := x1
        obtain ⟨t9, rfl⟩ := hv9
        cases x2
        rename_i k9 v9 ps9 Ss' x7 x8
        have hin : (k9, ps9) ∈ R5 := x3 ▸ List.mem_append_right _ (.head _)
        have hget : rget R5 k9 = some ps9 := rget_some_of_mem q13 hin
        have hps := hrow _ hin
        have hdm9 : (d2, od5) ∈ add ++ ((d2, od5) :: (add5 ++ ((L1 + 1, o2) :: news))) := List.mem_append_right _ (.head _)
        have hcm9 : (L1 + 1, o2) ∈ add ++ ((d2, od5) :: (add5 ++ ((L1 + 1, o2) :: news))) := List.mem_append_right _ (.tail _ hcm)
        have hk9 : ∀ p ∈ add5 ++ kn, p ∈ add ++ ((d2, od5) :: (add5 ++ ((L1 + 1, o2) :: news))) := fun p hp => List.mem_append_right _ (.tail _ (hk5 p hp))
        refine gk ?_
        clear gk gX
        refine comp_asg1 (pre := [(I6, oI9)]) (by rfl) (by rfl) hoC9 F9 N9 ?_ ?_ (fun oC10 m10 h10 tk10 hoC10 hm10 F10 N10 => ?_)
        · intro q hq
          exact (o9' q hq).1
        · intro q hq
          rcases mem_cons_s hq with rfl | hq
          · exact Ne.symm hCD
          · exact (o9 q hq).2.1
        refine wpAny_tests_nil ?_
        simp only [if_true]
        walk_at "mine:steps"
        rename_i l11 vs11 n11 hl11 hm11 hv11 hn11
        refine' normal_s (kn := add5 ++ kn) (ps := ps9) B1 ?zf X1 N10 ?zk T1 rfl ?zd ?zu (DatIn.list hl11 hv11) hps.1 hps.2 ?_
        (case zf => k_asm)
        (case zk => exact fun p hp => List.mem_append_right _ (.tail _ (.tail _ (hk9 p hp))))
        (case zd => walk_at "mine:room")
        (case zu => walk_at "mine:units")
        intro r11 add11 h11 tk11 F11 N11 gt11 d11 len11
        have gtT : ∀ q ∈ add11 ++ ([(I6, oI9)] ++ (C9, oC10) :: (D9, lst ys) :: (add ++ ((d2, od5) :: (add5 ++ ((L1 + 1, o2) :: news))))), q.1 < _ := fun q hq => Heap.lt_size (N11 q hq).1
        (try dsimp only at gtT)
        walk_at "mine:steps"
        rename News g1 _ _ _ => N12
        rename Fr g1 _ _ _ => F12
        refine fold_goal (fun gX gk => ?_)
        obtain ⟨TT, uy, eT, N12⟩ : ∃ TT uy, TT = h11.objs.size ∧ News g1 L1 _ ((TT, ({ cls := .type "tuple", data := .seq [Value.int k9 uy, r11].toArray } : Obj)) :: (add11 ++ ([(I6, oI9)] ++ (C9, oC10) :: (D9, lst ys) :: (add ++ ((d2, od5) :: (add5 ++ ((L1 + 1, o2) :: news))))))) := ⟨_, _, rfl, N12⟩
        rw [← eT] at gtT
        refine gk ?_
        clear gk gX
        refine ⟨_, _, oC10, m10, ((TT, ({ cls := .type "tuple", data := .seq [Value.int k9 uy, r11].toArray } : Obj)) :: (add11 ++ add)) ++ ((d2, od5) :: (add5 ++ ((L1 + 1, o2) :: news))), rfl, F12, hoC10, ?_, ?_, ⟨List.mem_append_right _ (.head _), trivial⟩, rs, Ss', Sd ++ [(k9, ps9)], r' ++ [(k9, r11)], (TT, ({ cls := .type "tuple", data := .seq [Value.int k9 uy, r11].toArray } : Obj)) :: (add11 ++ add), rfl, x8, by rw [List.append_assoc]; exact x3, ?_, rfl, ?_⟩
        · intro q hq
          refine N12 q ?_
          (first | (refine sub_in hq ?_; walk_at "mine:in"; done) | (trace "GRINDBACK"; simp only [List.mem_cons, List.mem_append, List.cons_append, List.nil_append] at hq ⊢; grind only))
        · intro q hq
          rcases List.mem_append.mp hq with hq | hq
          · rcases mem_cons_s hq with rfl | hq
            · refine ⟨fun r hr => ?_, ?_, ?_⟩
              · rw [List.mem_singleton.mp hr]
                exact (Nat.ne_of_lt (gtT _ (List.mem_append_right _ (.head _)))).symm
              · exact (Nat.ne_of_lt (gtT _ (List.mem_append_right _ (.tail _ (.head _))))).symm
              · exact (Nat.ne_of_lt (gtT _ (List.mem_append_right _ (.tail _ (.tail _ (.head _)))))).symm
            · rcases List.mem_append.mp hq with hq | hq
              · refine ⟨fun r hr => ?_, ?_, ?_⟩
                · rw [List.mem_singleton.mp hr]
                  exact (Nat.ne_of_lt (gt11 _ (.head _) q hq)).symm
                · exact (Nat.ne_of_lt (gt11 _ (.tail _ (.head _)) q hq)).symm
                · exact (Nat.ne_of_lt (gt11 _ (.tail _ (.tail _ (.head _))) q hq)).symm
              · exact o9 q (List.mem_append_left _ hq)
          · exact o9 q (List.mem_append_right _ hq)
        · rw [List.map_append]
          show MadeRows _ (ys ++ [Value.ref h11.objs.size]) _ _
          rw [← eT]
          exact (x4.mono fun q hq => .tail _ (List.mem_append_right _ hq)).append (.cons (n := 0) (.head _) (DatIn.mono (fun q hq => .tail _ (List.mem_append_left _ hq)) d11) .nil)
        · intro q hq r hr
          rcases mem_cons_s hr with rfl | hr
          · exact gtT q (List.mem_append_right _ (.tail _ (.tail _ (.tail _ (List.mem_append_right _ hq)))))
          · rcases List.mem_append.mp hr with hr | hr
            · exact gt11 q (.tail _ (.tail _ (.tail _ (List.mem_append_right _ hq)))) r hr
            · exact x6 q hq r hr
    · exact ⟨kvs5, R5, [], [], [], rfl, q5, rfl, .nil, rfl, fun _ _ _ h => nomatch h⟩
  · intro it r m5 nx hI v5 h5 tk5 hit F5 oI hoI N5
    refine fold_Q ?_
    intro qF3
    refine fold_E ?_
    intro eF3
    refine fold_A ?_
    intro aF3
    refine fold_goal (fun gX gk => ?_)
    obtain ⟨qs5, us5, od5, kvs5, R5, add5, q1, q2, q3, q4, q5, q6, q7, q8, q9, q10, q12, q13⟩ := hI
    subst q3
    cases us5 with
    | nil => simp at q1
    | cons u us5 =>
      simp only [List.map_cons, List.cons.injEq] at q1
      obtain ⟨rfl, rfl⟩ := q1
      have hu5 : v5 = u := hit
      subst hu5
      cases qs5 with
      | nil => cases q2
      | cons qq qs5 =>
        cases q2
        rename_i q2 q11
        obtain ⟨t, ta, tb, tc, td, n9, rfl, ht⟩ := dat_quad q2
        have ht1 : (t, ({ cls := .type "tuple", data := .seq [Value.int qq.1 ta, Value.int qq.2.1 tb, Value.int qq.2.2.1 tc, Value.int qq.2.2.2 td].toArray n9 } : Obj)) ∈ add5 ++ ((L1 + 1, o2) :: news) := List.mem_append_right _ (.tail _ (hkn _ ht))
        have N6 : News g1 L1 h5 ((I, oI) :: (d2, od5) :: (add5 ++ ((L1 + 1, o2) :: news))) := N5
        clear N5
        have hcm : (L1 + 1, o2) ∈ add5 ++ ((L1 + 1, o2) :: news) := List.mem_append_right _ (.head _)
        have bb := q9 qq (.head _)
        refine gk ?_
        clear gk gX
        dsimp only
        walk_at "mine:steps"
        rename Fr g1 _ _ _ => F7
        refine For_turns F7 ?_
        walk_at "mine:steps"
        rename_i h8 tk8 z1 z2 z3 R8 F8 N8 k8
        refine for_range ((d2, od5) :: ([] ++ ((I, oI) :: (add5 ++ ((L1 + 1, o2) :: news))))) rfl F8 N8 ?_ R8 (small_one (by omega) (by omega) (by omega) (by omega)) (n := qq.2.2.2.toNat) (by rw [rangeSize_nat, show qq.2.1 + qq.2.2.2 - qq.2.1 = qq.2.2.2 by omega]) (fun J l9 => ?_) (fun _ _ _ _ _ q => wpAny_pure q)
        · intro q hq
          (first | (refine sub_in hq ?_; walk_at "mine:in"; done) | (trace "GRINDBACK"; simp only [List.mem_cons, List.mem_append, List.nil_append] at hq ⊢; grind only))
        have bJ1 := ltN (l9 _ (.tail _ (.head _)))
        have bJ2 := ltN (l9 _ (.head _))
        dsimp only at bJ1 bJ2
        have offr5 : ∀ q ∈ (I, oI) :: (add5 ++ ((L1 + 1, o2) :: news)), q.1 ≠ d2 := by
          intro q hq
          rcases mem_cons_s hq with rfl | hq
          · exact (Nat.ne_of_lt bI1).symm
          · rcases List.mem_append.mp hq with hq | hq
            · exact q7 q hq _ (.head _)
            · exact offr q hq
        have hJ0 : ∀ q ∈ (I, oI) :: (add5 ++ ((L1 + 1, o2) :: news)), q.1 < J := by
          intro q hq
          refine l9 q ?_
          (first | (refine sub_in hq ?_; walk_at "mine:in"; done) | (trace "GRINDBACK"; simp only [List.mem_cons] at hq ⊢; grind only))
        have offJ : ∀ (o oJ : Obj) (ad : List (Addr × Obj)), OwnOff ad [d2, J] → ∀ q ∈ (d2, o) :: (ad ++ ((I, oI) :: (add5 ++ ((L1 + 1, o2) :: news)))), ∀ r ∈ [(J, oJ)], q.1 ≠ r.1 := by
          intro o oJ ad had q hq r hr
          rw [List.mem_singleton.mp hr]
          rcases mem_cons_s hq with rfl | hq
          · exact Nat.ne_of_lt bJ1
          · rcases List.mem_append.mp hq with hq | hq
            · exact had q hq _ (.tail _ (.head _))
            · exact Nat.ne_of_lt (hJ0 q hq)
        refine items_ind (OyInv prog w (add5 ++ kn) ((I, oI) :: (add5 ++ ((L1 + 1, o2) :: news))) qq d2 J (accQ R5 qq)) ?_ ?_ _ _ _ ?_
        · intro m9 nx h9 tk9 hJ F9 N9
          refine fold_goal (fun gX gk => ?_)
          obtain ⟨ys9, od9, kvs9, R9, add9, t1, t2, i1, i2, i3, i4, i5, i6, i7, i8, i9, i10, i12⟩ := hJ
          subst i2
          have i1' : ys9 = [] := by simpa using i1.symm
          subst i1'
          refine gk ?_
          clear gk gX
          dsimp only
          walk_at "mine:steps"
          have hRe : R9 = accQ R5 qq := i9
          have hoff : OwnOff (add9 ++ add5) [d2, I] := by
            intro q hq r hr
            rcases List.mem_append.mp hq with hq | hq
            · rcases mem_cons_s hr with rfl | hr
              · exact i6 q hq _ (.head _)
              · rw [List.mem_singleton.mp hr]
                exact (Nat.ne_of_lt (i5 _ (.head _) q hq)).symm
            · exact q7 q hq r hr
          simp only [List.map_cons, List.sum_cons] at q10 q12
          have hl9 : R9.length ≤ R5.length + qq.2.2.2.toNat := by
            have := accRow_len qq (rangeKs qq.2.1 qq.2.2.2.toNat) R5
            rw [rangeKs_length] at this
            rw [hRe]; exact this
          have hr9 : ∀ z, (rowAt R9 z).length ≤ (rowAt R5 z).length + qq.2.2.2.toNat := by
            intro z
            have := accRow_row qq (rangeKs qq.2.1 qq.2.2.2.toNat) R5 z
            rw [rangeKs_length] at this
            rw [hRe]; exact this
          refine unr_mk _ _ _ ((d2, od9) :: ((add9 ++ add5) ++ ((L1 + 1, o2) :: news))) rfl F9 ?_ (offI _ _ _ hoff) (⟨.tail _ (List.mem_append_right _ (.tail _ hl')), trivial⟩) ⟨qs5, us5, od9, kvs9, R9, add9 ++ add5, rfl, q11, rfl, i3, ?_, ?_, hoff, ?_, fun q hq => q9 q (.tail _ hq), ?_, ?_, ?_⟩
          · intro q hq
            refine N9 q ?_
            (first | (refine sub_in hq ?_; walk_at "mine:in"; done) | (trace "GRINDBACK"; simp only [List.mem_cons, List.mem_append, List.cons_append, List.nil_append] at hq ⊢; grind only))
          · rw [List.append_assoc]; exact i4
          · intro q hq r hr
            rcases List.mem_append.mp hr with hr | hr
            · exact i5 q (.tail _ (List.mem_append_right _ hq)) r hr
            · exact q6 q hq r hr
          · rw [hRe]; exact q8
          · omega
          · intro z
            have := hr9 z
            have := q12 z
            omega
          · rw [hRe]; exact accRow_nodup _ _ _ q13
        · intro it9 r9 m9 nx hJ v9 h9 tk9 hit9 F9 oJ hoJ N9
          refine fold_goal (fun gX gk => ?_)
          obtain ⟨ys9, od9, kvs9, R9, add9, t1, t2, i1, i2, i3, i4, i5, i6, i7, i8, i9, i10, i12⟩ := hJ
          subst i2
          cases ys9 with
          | nil => simp at i1
          | cons y9 ys9 =>
            simp only [List.map_cons, List.cons.injEq] at i1
            obtain ⟨rfl, rfl⟩ := i1
            obtain ⟨ty9, rfl⟩ := hit9
            have F10 := fr_look [(Str.ofString "left", .int qq.1 t1), (Str.ofString "width", .int qq.2.2.1 t2)] F9 (by simp [i7, i8])
            dsimp only [look] at F10
            clear F9
            have N10 : News g1 L1 h9 ((J, oJ) :: (d2, od9) :: (add9 ++ ((I, oI) :: (add5 ++ ((L1 + 1, o2) :: news))))) := N9
            clear N9
            have hcm9 : (L1 + 1, o2) ∈ add9 ++ ((I, oI) :: (add5 ++ ((L1 + 1, o2) :: news))) := List.mem_append_right _ (.tail _ hcm)
            have off9 : ∀ q ∈ add9 ++ ((I, oI) :: (add5 ++ ((L1 + 1, o2) :: news))), q.1 ≠ d2 := fun q hq => (List.mem_append.mp hq).elim (fun h => i6 q h _ (.head _)) (offr5 q)
            have hD : DictAt prog w (add9 ++ (add5 ++ kn)) d2 od9 R9 := ⟨kvs9, i3, i4, lo2⟩
            have hkl := i4.length
            simp only [List.length_cons] at i10 i12
            have hrl := i12 y9
            refine gk ?_
            clear gk gX
            dsimp only
            walk_at "mine:steps"
            rename News g1 _ _ _ => N11
            have ltd := ltN (Heap.lt_size (N11 (d2, od9) (.tail _ (.tail _ (.head _)))).1)
            dsimp only at ltd
            have ltJ := ltN (Heap.lt_size (N11 (J, oJ) (.tail _ (.head _))).1)
            have ltR : ∀ q ∈ add9 ++ ((I, oI) :: (add5 ++ ((L1 + 1, o2) :: news))), q.1 < _ := fun q hq => Heap.lt_size (N11 q (.tail _ (.tail _ (.tail _ hq)))).1
            dsimp only at ltJ ltR
            walk1
            walk_at "mine:steps"
            rename_i lE hE ltE lV vsV nV hmV hvV hnV h3V hkV nmV lL h2L ltL DD h1D ltD hF oF FF NF dF
            refine fold_goal (fun gX gk => ?_)
            obtain ⟨TT, ux, uy, eT, NF⟩ : ∃ TT ux uy, TT = hE.objs.size ∧ News g1 L1 hF ((DD, listOf (vsV ++ [Value.ref TT]).toArray 0) :: (lL, listOf #[Value.ref TT] 0) :: (TT, tup2 qq.1 ux (qq.1 + qq.2.2.1) uy) :: (lE, listOf #[] 0) :: (J, oJ) :: (d2, oF) :: (add9 ++ ((I, oI) :: (add5 ++ ((L1 + 1, o2) :: news))))) := ⟨_, _, _, rfl, NF⟩
            rw [← eT] at ltd ltJ ltR ltD
            obtain ⟨g1D, g2D, g3D, g4D, g5D, g6D⟩ := ltD
            have gD := tb_ltOf g6D
            have hoff : OwnOff ((DD, listOf (vsV ++ [Value.ref TT]).toArray 0) :: (TT, tup2 qq.1 ux (qq.1 + qq.2.2.1) uy) :: add9) [d2, J] := by
              intro q hq r hr
              rcases mem_cons_s hq with rfl | hq
              · rcases mem_cons_s hr with rfl | hr
                · exact (Nat.ne_of_lt g5D).symm
                · rw [List.mem_singleton.mp hr]
                  exact (Nat.ne_of_lt g4D).symm
              · rcases mem_cons_s hq with rfl | hq
                · rcases mem_cons_s hr with rfl | hr
                  · exact (Nat.ne_of_lt ltd).symm
                  · rw [List.mem_singleton.mp hr]
                    exact (Nat.ne_of_lt ltJ).symm
                · exact i6 q hq r hr
            have hrows : RowsIn (((DD, listOf (vsV ++ [Value.ref TT]).toArray 0) :: (TT, tup2 qq.1 ux (qq.1 + qq.2.2.1) uy) :: add9) ++ (add5 ++ kn)) (stored kvs9 y9 (.ref DD)) (accRow qq R9 y9) := by
              refine (i4.mono fun q hq => .tail _ (.tail _ hq)).stored y9 (DatIn.list (.head _) ?_)
              rw [List.map_append]
              exact DatAll.append (DatAll.mono (fun q hq => .tail _ (.tail _ hq)) hvV) (DatAll.one (tup2_dat (.tail _ (.head _))))
            refine gk ?_
            clear gk gX
            refine unr_mk _ _ _ ((d2, oF) :: (((DD, listOf (vsV ++ [Value.ref TT]).toArray 0) :: (TT, tup2 qq.1 ux (qq.1 + qq.2.2.1) uy) :: add9) ++ ((I, oI) :: (add5 ++ ((L1 + 1, o2) :: news))))) rfl FF ?_ (offJ _ _ _ hoff) trivial ⟨ys9, oF, stored kvs9 y9 (.ref DD), accRow qq R9 y9, (DD, listOf (vsV ++ [Value.ref TT]).toArray 0) :: (TT, tup2 qq.1 ux (qq.1 + qq.2.2.1) uy) :: add9, t1, t2, rfl, rfl, dF, hrows, ?_, hoff, rfl, rfl, i9, ?_, ?_⟩
            · intro q hq
              refine NF q ?_
              (first | (refine sub_in hq ?_; walk_at "mine:in"; done) | (trace "GRINDBACK"; simp only [List.mem_cons, List.mem_append, List.cons_append, List.nil_append] at hq ⊢; grind only))
            · intro q hq r hr
              rcases mem_cons_s hr with rfl | hr
              · exact gD q (List.mem_append_right _ hq)
              · rcases mem_cons_s hr with rfl | hr
                · exact ltR q (List.mem_append_right _ hq)
                · exact i5 q hq r hr
            · have := rput_length R9 y9 (rowAt R9 y9 ++ [(qq.1, qq.1 + qq.2.2.1)])
              simp only [accRow]
              omega
            · intro z
              have h1 := i12 z
              have h2 := i12 y9
              simp only [accRow]
              rw [rowAt_rput]
              split
              · rw [List.length_append, List.length_singleton]; omega
              · omega
        · simp only [List.map_cons, List.sum_cons] at q10 q12
          refine ⟨rangeKs qq.2.1 qq.2.2.2.toNat, od5, kvs5, R5, [], ta, tc, rfl, rfl, q4, q5, (fun _ _ _ h => nomatch h), (fun _ h => nomatch h), rfl, rfl, rfl, ?_, fun y => ?_⟩
          · rw [rangeKs_length]
            omega
          · have := q12 y
            rw [rangeKs_length]
            omega
  · exact ⟨qs, vs, od2, [], [], [], rfl, hda, rfl, e5, .nil, (fun _ _ _ h => nomatch h), (fun _ h => nomatch h), rfl, hb, by simpa using hsum, (fun y => by simpa [rowAt, rget] using hsum), List.nodup_nil⟩
end
end
section
theorem reset_PWhile : True := by
  w_top off
  trivial
local macro_rules | `(tactic| walk_at "subscriptTail") => `(tactic| (k_here; (with_reducible show wpAny _ _ (subscriptTail _ _ (Value.ref _) (Value.int _ _)) _ _ _); k_dflt (refine' rows_item ?N ?kn ?hD ?hm ?hl ?_ ?hs ?hg; (case hD => assumption); (case N => k_asm); (case kn => walk_at "mine:known"); (case hm => k_mem); (case hl => assumption); (case hs => with_unfolding_all rfl); (case hg => (intro _; with_unfolding_all rfl)); k_whole); intro l' vs' n' hl' hm' hv' hn'))
local macro_rules | `(tactic| walk_at "getMethod ref") => `(tactic| (k_here; k_dflt (refine' rows_get_method ?N ?hD ?hm ?_; (case hD => assumption); (case N => k_asm); (case hm => k_mem); k_whole)))
local macro_rules | `(tactic| walk_at "call builtin:dict.get") => `(tactic| (k_here; k_dflt (refine' rows_get ?N ?kn ?hD ?hm ?hx ?_; (case hD => assumption); (case N => k_asm); (case kn => walk_at "mine:known"); (case hm => k_mem); (case hx => k_mem); k_whole); intro l' vs' n' hm' hv' hn'))
local macro_rules | `(tactic| walk_at "mine:known") => `(tactic| first | assumption | (intro q hq; first | exact List.mem_append_right _ (by solve_by_elim) | (simp only [List.mem_cons, List.mem_append] at hq ⊢; grind only)))
local macro_rules | `(tactic| walk_at "setItem ref int") => `(tactic| (k_here; (with_reducible show wpAny _ _ (setItem (Value.ref _) (Value.int _ _) _) _ _ _); k_dflt (refine' kda_set (knd := PySem.intKind _ _) ?F ?N ?U ?hd ?hk ?hz ?_; (case F => k_asm); (case N => k_asm); (case U => k_updF); (case hd => assumption); (case hk => exact intKind_is _ _ _ _); (case hz => (rw [sizeLine_eq]; omega)); k_whole); intro h' o' F' N' hd'; (try dsimp only at N'); (try k_sweep)))
local macro_rules | `(tactic| walk_at "call type:list") => `(tactic| (k_here; (with_reducible show wpAny _ _ (call (Value.type "list") [Value.ref _]) _ _ _); k_dflt (first
  | (refine' list_copyK ?k1 ?k2 ?k3 ?_ ?z; (case k1 => k_asm); (case k2 => k_asm); (case k3 => exact News.isList (by k_asm) (by k_mem)); (case z => (simp only [List.size_toArray, sizeLine_eq]; omega)); k_whole; intro D' c' h' F' N' l1; (try k_lt l1); (try k_sweep))
  | (refine' rows_list ?hh ?F ?N ?hp ?hd ?lo ?hn ?_; (case hh => exact rfl); (case F => k_asm); (case N => k_asm); (case hp => k_mem); (case hd => assumption); (case lo => assumption); (case hn => omega); k_whole; intro D' c' h' tk' vs' F' N' l1 hi'; (try k_lt l1); (try k_sweep)))))
local macro_rules | `(tactic| walk_at "call builtin:sum") => `(tactic| (k_here; (with_reducible show wpAny _ _ (call (Value.builtin "sum") [Value.ref _]) _ _ _); k_dflt (refine' sum_ints ?F ?N ?hh ?hl ?hi ?_; (case hi => assumption); (case F => k_asm); (case N => k_asm); (case hh => exact rfl); (case hl => exact News.isList (by k_asm) (by k_mem)); k_whole); intro h' tk' t' F' N'; (try k_sweep)))
local macro_rules | `(tactic| walk_at "binaryOp Add ref ref") => `(tactic| (k_here; (with_reducible show wpAny _ _ (binaryOp _ (Value.ref _) (Value.ref _)) _ _ _); k_dflt (refine' list_add_c ?F ?N ?a ?b ?_ ?z; (case F => k_asm); (case N => k_asm); (case a => k_mem); (case b => k_mem); (case z => (simp only [List.length_cons, List.length_nil]; omega)); k_whole); intro D' h' F' N' l1; (try k_lt l1); (try k_sweep)))
section
variable {prog : Program} {w : World} {A : Around} {E : Value → Shared → Prop} {s : Shared} {h₀ : Heap} {env : Env} {test : PySem.Expr} {body : List Stmt} {Q : Flow → Shared → Prop}
inductive WEnd (h₀ : Heap) (L : Addr) (s : Shared) (P : (Str → Option Value) → List (Addr × Obj) → Prop) (s' : Shared) : Prop
  | mk (h' : Heap) (tk : Tok) (m' : Str → Option Value) (nx : List (Addr × Obj)) (ih0 : s' = { s with heap := h', toks := tk }) (ih1 : Fr h₀ L h' m') (ih2 : News h₀ L h' nx) (ih3 : P m' nx) : WEnd h₀ L s P s'
/-- a while loop by a measure: at each turn either it ends, or what stands between the turns holds at a less one -/
theorem while_ind (hE : PassesOwn (model prog w) A env E) (Inv : Nat → (Str → Option Value) → List (Addr × Obj) → Prop)
    (turn : ∀ n m nx h tk, Inv n m nx → Fr h₀ env.locals h m → News h₀ env.locals h nx → wpAny (model prog w) A (isTrue test env (eval test env)) (fun b s₂ => WhlIf b (wpAny (model prog w) A (execs body env) (fun f s₃ => match f with
        | .next => WEnd h₀ env.locals s (fun m' nx' => ∃ n', n' < n ∧ Inv n' m' nx') s₃
        | .cont => WEnd h₀ env.locals s (fun m' nx' => ∃ n', n' < n ∧ Inv n' m' nx') s₃
        | .brk => Q .next s₃
        | .ret v => Q (.ret v) s₃) E s₂) (Q .next s₂)) E { s with heap := h, toks := tk }) :
    ∀ n m nx h tk, Inv n m nx → Fr h₀ env.locals h m → News h₀ env.locals h nx → WhlRest prog w A E env test body [] Q 0 { s with heap := h, toks := tk } := by
  intro n
  induction n using Nat.strongRecOn with
  | _ n ih =>
    intro m nx h tk hi F N
    refine (whl_turn (k := 0) hE (wpAny_mono (turn n m nx h tk hi F N) (fun b s₂ h₂ => ?_) fun _ _ e => e) : WhlRest prog w A E env test body [] Q 1 _)
    cases b with
    | true =>
      refine WhlIf.yes rfl ?_
      unfold WhlIf at h₂
      rw [if_pos rfl] at h₂
      refine wpAny_mono h₂ (fun f s₃ h₄ => ?_) fun _ _ e => e
      cases f with
      | next =>
        refine fold_goal (fun gX gk => ?_)
        obtain ⟨h', tk', m', nx', rfl, F', N', n', hlt, hi'⟩ := h₄
        refine gk ?_
        clear gk gX
        exact ih n' hlt m' nx' h' tk' hi' F' N'
      | cont =>
        refine fold_goal (fun gX gk => ?_)
        obtain ⟨h', tk', m', nx', rfl, F', N', n', hlt, hi'⟩ := h₄
        refine gk ?_
        clear gk gX
        exact ih n' hlt m' nx' h' tk' hi' F' N'
      | brk => exact h₄
      | ret v => exact h₄
    | false =>
      refine WhlIf.no rfl ?_
      unfold WhlIf at h₂
      rw [if_neg Bool.false_ne_true] at h₂
      exact wpAny_execs_nil h₂
end
end
section
theorem reset_PSlice : True := by
  w_top off
  trivial
theorem pick_drop (l : List Value) (k : Nat) : kms_pick l (some (k : Int)) none = l.drop k := by
  have h1 : kms_lo (some (k : Int)) l.length = min k l.length := by
    simp only [kms_lo]
    rw [if_neg (by omega), Int.toNat_natCast]
  have h2 : kms_hi none l.length = l.length := by simp [kms_hi]
  unfold kms_pick
  rw [h1, h2, List.take_of_length_le (by rw [List.length_drop]; omega)]
  rcases Nat.le_total k l.length with h | h
  · rw [Nat.min_eq_left h]
  · rw [Nat.min_eq_right h, List.drop_length, List.drop_eq_nil_of_le h]
section
variable {prog : Program} {w : World} {A : Around} {E : Value → Shared → Prop} {s : Shared} {h₀ : Heap} {L l : Addr} {m : Str → Option Value} {news : List (Addr × Obj)}
theorem slice_from {us : List Value} {z k : Nat} {t : Tok} {value slice : PySem.Expr} {Q : Value → Shared → Prop} (F : Fr h₀ L s.heap m) (N : News h₀ L s.heap news) (hl : (l, listOf us.toArray z) ∈ news)
    (h : ∀ D h', Fr h₀ L h' m → News h₀ L h' ((D, listOf (us.drop k).toArray 0) :: news) → (∀ p ∈ news, p.1 < D) → Q (.ref D) { s with heap := h' })
    (hs : subscripted slice false (.ref l) (.ref s.heap.objs.size) = operate [.ref s.heap.objs.size, .ref l] (getItem (.ref l) (.ref s.heap.objs.size))) (ht : ∀ r, letTemporaryGo value (.ref l) r = pure ()) (hz : us.length ≤ 1000) :
    wpAny (model prog w) A (subscriptTail value slice (.ref l) (.ref s.heap.objs.size)) Q E { s with heap := s.heap.push { cls := .type "slice", data := .fields #[.int (k : Int) t, .none, .none] } } :=
  kms_slice_lit F N (News.isList N hl) (by kmk_part) (by kmk_part) (by rw [List.toList_toArray]; exact pick_drop us k) h hs ht (by rw [sizeLine_eq, List.size_toArray]; omega)
end
end
section
theorem reset_PLbands : True := by
  w_top off
  trivial
local macro_rules | `(tactic| walk_at "subscriptTail") => `(tactic| (k_here; (with_reducible show wpAny _ _ (subscriptTail _ _ (Value.ref _) (Value.int _ _)) _ _ _); k_dflt (refine' rows_item ?N ?kn ?hD ?hm ?hl ?_ ?hs ?hg; (case hD => assumption); (case N => k_asm); (case kn => walk_at "mine:known"); (case hm => k_mem); (case hl => assumption); (case hs => with_unfolding_all rfl); (case hg => (intro _; with_unfolding_all rfl)); k_whole); intro l' vs' n' hl' hm' hv' hn'))
local macro_rules | `(tactic| walk_at "getMethod ref") => `(tactic| (k_here; k_dflt (refine' rows_get_method ?N ?hD ?hm ?_; (case hD => assumption); (case N => k_asm); (case hm => k_mem); k_whole)))
local macro_rules | `(tactic| walk_at "call builtin:dict.get") => `(tactic| (k_here; k_dflt (refine' rows_get ?N ?kn ?hD ?hm ?hx ?_; (case hD => assumption); (case N => k_asm); (case kn => walk_at "mine:known"); (case hm => k_mem); (case hx => k_mem); k_whole); intro l' vs' n' hm' hv' hn'))
local macro_rules | `(tactic| walk_at "mine:known") => `(tactic| first | assumption | (intro q hq; first | exact List.mem_append_right _ (by solve_by_elim) | (simp only [List.mem_cons, List.mem_append] at hq ⊢; grind only)))
local macro_rules | `(tactic| walk_at "setItem ref int") => `(tactic| (k_here; (with_reducible show wpAny _ _ (setItem (Value.ref _) (Value.int _ _) _) _ _ _); k_dflt (refine' kda_set (knd := PySem.intKind _ _) ?F ?N ?U ?hd ?hk ?hz ?_; (case F => k_asm); (case N => k_asm); (case U => k_updF); (case hd => assumption); (case hk => exact intKind_is _ _ _ _); (case hz => (rw [sizeLine_eq]; omega)); k_whole); intro h' o' F' N' hd'; (try dsimp only at N'); (try k_sweep)))
local macro_rules | `(tactic| walk_at "call type:list") => `(tactic| (k_here; (with_reducible show wpAny _ _ (call (Value.type "list") [Value.ref _]) _ _ _); k_dflt (first
  | (refine' list_copyK ?k1 ?k2 ?k3 ?_ ?z; (case k1 => k_asm); (case k2 => k_asm); (case k3 => exact News.isList (by k_asm) (by k_mem)); (case z => (simp only [List.size_toArray, sizeLine_eq]; omega)); k_whole; intro D' c' h' F' N' l1; (try k_lt l1); (try k_sweep))
  | (refine' rows_list ?hh ?F ?N ?hp ?hd ?lo ?hn ?_; (case hh => exact rfl); (case F => k_asm); (case N => k_asm); (case hp => k_mem); (case hd => assumption); (case lo => assumption); (case hn => omega); k_whole; intro D' c' h' tk' vs' F' N' l1 hi'; (try k_lt l1); (try k_sweep)))))
local macro_rules | `(tactic| walk_at "call builtin:sum") => `(tactic| (k_here; (with_reducible show wpAny _ _ (call (Value.builtin "sum") [Value.ref _]) _ _ _); k_dflt (refine' sum_ints ?F ?N ?hh ?hl ?hi ?_; (case hi => assumption); (case F => k_asm); (case N => k_asm); (case hh => exact rfl); (case hl => exact News.isList (by k_asm) (by k_mem)); k_whole); intro h' tk' t' F' N'; (try k_sweep)))
local macro_rules | `(tactic| walk_at "binaryOp Add ref ref") => `(tactic| (k_here; (with_reducible show wpAny _ _ (binaryOp _ (Value.ref _) (Value.ref _)) _ _ _); k_dflt (refine' list_add_c ?F ?N ?a ?b ?_ ?z; (case F => k_asm); (case N => k_asm); (case a => k_mem); (case b => k_mem); (case z => (simp only [List.length_cons, List.length_nil]; omega)); k_whole); intro D' h' F' N' l1; (try k_lt l1); (try k_sweep)))
local macro_rules | `(tactic| walk_at "subscriptTail Name Slice ref ref") => `(tactic| (k_here; (with_reducible show wpAny _ _ (subscriptTail _ (PySem.Expr.Slice _ _ none _) (Value.ref _) (Value.ref _)) _ _ _); k_dflt (refine' slice_from ?F ?N ?l ?_ ?s ?t ?z; (case F => k_asm); (case N => k_asm); (case l => k_mem); (case s => with_unfolding_all rfl); (case t => kmk_pure); (case z => omega)); intro D' h' F' N' l1; (try k_lt l1); (try k_sweep)))
section
variable {prog : Program} {w : World} {p : Program} {loose : List Str} {mean : ExcName → Option Value} {mg mb : Str → Option Value}
local macro_rules | `(tactic| walk_at "mine:stop") => `(tactic| first | (with_reducible show WEnd _ _ _ _ _) | (with_reducible show WhlIf _ _ _))
def keepR (q : Int × List (Int × Int)) : Bool := !q.2.isEmpty
def manyOf (R : Rows) (top : Int) : Nat → Nat → Nat
  | 0, k => k
  | f + 1, k => if rowAt R (top + k) = rowAt R top then manyOf R top f (k + 1) else k
def bandsL (R : Rows) : Nat → List Int → List Quad → List Quad
  | 0, _, acc => acc
  | _ + 1, [], acc => acc
  | f + 1, top :: ns, acc => bandsL R f ((top :: ns).drop (manyOf R top 100 1)) (acc ++ (rowAt R top).map fun q => (q.1, top, q.2 - q.1, ((manyOf R top 100 1 : Nat) : Int)))
theorem manyOf_ge (R : Rows) (top : Int) : ∀ f k, k ≤ manyOf R top f k
  | 0, k => Nat.le_refl _
  | f + 1, k => by
    unfold manyOf
    split
    · exact Nat.le_trans (Nat.le_succ _) (manyOf_ge R top f (k + 1))
    · exact Nat.le_refl _
theorem bandsL_fuel (R : Rows) : ∀ (f g : Nat) (ns : List Int) (acc : List Quad), ns.length ≤ f → ns.length ≤ g → bandsL R f ns acc = bandsL R g ns acc
  | 0, g, ns, acc, hf, _ => by
    have : ns = [] := List.length_eq_zero_iff.mp (Nat.le_zero.mp hf)
    subst this
    cases g <;> rfl
  | f + 1, g, [], acc, _, _ => by cases g <;> rfl
  | f + 1, 0, top :: ns, acc, _, hg => by simp at hg
  | f + 1, g + 1, top :: ns, acc, hf, hg => by
    have hk := manyOf_ge R top 100 1
    simp only [List.length_cons] at hf hg
    have hl : ((top :: ns).drop (manyOf R top 100 1)).length ≤ ns.length := by
      rw [List.length_drop, List.length_cons]; omega
    unfold bandsL
    exact bandsL_fuel R f g _ _ (by omega) (by omega)
theorem ints_dat {kn : List (Addr × Obj)} {us : List Value} {ns : List Int} (h : IntsAre us ns) : DatAll kn us (ns.map Dat.int) := by
  induction h with
  | nil => exact .nil
  | cons n t _ ih => exact .cons (.int _ _) ih
/-- the places' loop -/
inductive LbInv (rest : List (Addr × Obj)) (R : Rows) (lf : Addr) (total : List Quad) (n : Nat) (m : Str → Option Value) (nx : List (Addr × Obj)) : Prop
  | mk (ns : List Int) (us vs : List Value) (D : Addr) (z nf : Nat) (qs : List Quad) (add : List (Addr × Obj)) (ih0 : n = ns.length) (ih1 : IntsAre us ns) (ih2 : nx = (lf, listOf vs.toArray nf) :: (add ++ rest)) (ih3 : (D, listOf us.toArray z) ∈ add) (ih4 : DatAll add vs (qs.map qd)) (ih5 : (∀ q ∈ rest, ∀ r ∈ add, q.1 < r.1)) (ih6 : (∀ r ∈ add, @LT.lt Nat _ lf r.1)) (ih7 : m (Str.ofString "found") = some (.ref lf)) (ih8 : m (Str.ofString "places") = some (.ref D)) (ih9 : bandsL R ns.length ns qs = total) (ih10 : (∀ y ∈ ns, ∃ ps, rget R y = some ps ∧ ps ≠ [])) (ih11 : qs.length + 10 * ns.length ≤ 1000) (ih12 : ns.length ≤ 30) : LbInv rest R lf total n m nx
/-- how many rows are alike, loop -/
inductive LmInv (base : List (Addr × Obj)) (R : Rows) (lf D : Addr) (top : Int) (tt : Tok) (total : Nat) (f : Nat) (m : Str → Option Value) (nx : List (Addr × Obj)) : Prop
  | mk (k : Nat) (t : Tok) (ih0 : m (Str.ofString "many") = some (.int (k : Int) t)) (ih1 : m (Str.ofString "top") = some (.int top tt)) (ih2 : m (Str.ofString "found") = some (.ref lf)) (ih3 : m (Str.ofString "places") = some (.ref D)) (ih4 : nx = base) (ih5 : manyOf R top f k = total) (ih6 : k + f = 101) (ih7 : 1 ≤ k) : LmInv base R lf D top tt total f m nx
/-- a band's rectangles, loop -/
inductive LfInv (kn add5 rest : List (Addr × Obj)) (lf lI D : Addr) (top : Int) (tt : Tok) (k : Nat) (total : List Quad) (xs : List Itm) (m : Str → Option Value) (nx : List (Addr × Obj)) : Prop
  | mk (rs : List (Int × Int)) (us vs : List Value) (n : Nat) (qs : List Quad) (add : List (Addr × Obj)) (t : Tok) (ih0 : xs = us.map .val) (ih1 : DatAll kn us (rs.map pd)) (ih2 : nx = (lf, listOf vs.toArray n) :: (add ++ (add5 ++ rest))) (ih3 : DatAll (add ++ add5) vs (qs.map qd)) (ih4 : (∀ q ∈ add5 ++ rest, ∀ r ∈ add, q.1 < r.1)) (ih5 : OwnOff add [lf, lI]) (ih6 : (∀ r ∈ add, @LT.lt Nat _ lf r.1)) (ih7 : m (Str.ofString "found") = some (.ref lf)) (ih8 : m (Str.ofString "places") = some (.ref D)) (ih9 : m (Str.ofString "top") = some (.int top tt)) (ih10 : m (Str.ofString "many") = some (.int (k : Int) t)) (ih11 : qs ++ rs.map (fun q => (q.1, top, q.2 - q.1, (k : Int))) = total) (ih12 : qs.length + rs.length ≤ 1000) : LfInv kn add5 rest lf lI D top tt k total xs m nx
theorem lbands_c {dp un : Nat} {gd : Option (List Code)} {cn : Str} {cs : Scope} {a : Addr} {ccd : Value} {cl : List (Str × Addr)} {outer : List Env} {A₀ : Around} {base h₀ : Heap} {L : Addr} {m : Str → Option Value} {s : Shared}
    {Q E : Value → Shared → Prop} {v : Value} {R : Rows} {kn news : List (Addr × Obj)}
    (B : Below A₀ base outer h₀) (F : Fr h₀ L s.heap m) (X : (hd.heap_1 w.params).In h₀) (N : News h₀ L s.heap news) (hkn : ∀ p ∈ kn, p ∈ news)
    (T : Top p loose mean mg mb h₀) (hk : cs.kind = .function) (hd : dp + 1 < recursionLimit) (hu : un + 100 < cLine) (hv : DictIn prog w kn v R) (hlen : R.length ≤ 20) (hfar : ∀ y ∈ R.map (·.1), ∀ j : Nat, 100 ≤ j → rowAt R (y + j) = []) (hz4 : ∀ q ∈ R, q.2.length ≤ 10)
    (ret : ∀ r add h' tk', Fr h₀ L h' m → News h₀ L h' (add ++ news) → (∀ q ∈ news, ∀ p ∈ add, q.1 < p.1) → (∃ ns : List Int, ns.Perm ((R.filter keepR).map (·.1)) ∧ ns.Pairwise (· ≤ ·) ∧ DatIn add r (.list ((bandsL R ns.length ns []).map qd))) → Q r {s with heap := h', toks := tk'}) :
    wpAny (model prog w) (ktrTop dp un gd cn cs L a ccd cl outer) (call (.ref 196) [v]) Q E s := by
  refine wpAny_call ?_
  refine fold_goal (fun gX gk => ?_)
  obtain ⟨d, od, kvs, rfl, hd1, hd2, hd3, hd4⟩ := hv
  have hm1 := hkn _ hd1
  have hDA : DictAt prog w kn d od R := ⟨kvs, hd2, hd3, hd4⟩
  refine gk ?_
  clear gk gX
  k_dflt (walk_at "mine:enterC")
  rename_i g1 L1 h1 tk1 FG1 F1 B1 X1 T1 l1 o1 d1 N1
  walk_at "mine:steps"
  rename_i lf h2 F2 N2 l2
  refine comp_rule F2 (by with_unfolding_all rfl) (by decide) (by rfl) (by decide) ?_
  walk_at "mine:steps"
  have hdk := hd3.keys
  have hdl := hd3.length
  refine comp_dict rfl F2 N2 (.tail _ (.tail _ hm1)) hd2 hd4 ?_ (fun I3 h3 tk3 l3 => ?_)
  · rw [sizeLine_eq]; omega
  refine comp_ind (fun xs ys nx => Ex4 fun (rs : List (Int × Value)) (Ss Sd : Rows) (ns : List Int) => An6 (xs = keyItms rs) (RowsIn kn rs Ss) (Sd ++ Ss = R) (IntsAre ys ns) (ns = (Sd.filter keepR).map (·.1)) (nx = (lf, listOf #[] 0) :: (L1 + 1, o1) :: news)) ?_ ?_ _ _ _ ?_
  · intro ys nx hI0 D9 h9 tk9 F9 N9 o9
    refine fold_Q ?_
    intro qF0
    refine fold_E ?_
    intro eF0
    refine fold_A ?_
    intro aF0
    refine fold_goal (fun gX gk => ?_)
    obtain ⟨rs, Ss, Sd, ns, q1, q2, q3, q4, q5, rfl⟩ := hI0
    have q1' : rs = [] := by simpa [keyItms] using q1.symm
    subst q1'
    cases q2
    rw [List.append_nil] at q3
    subst q5
    have q3s := q3.symm
    subst q3s
    refine gk ?_
    clear gk gX
    walk_at "mine:steps"
    refine sorted_ns F9 N9 (News.isList N9 (.head _)) q4 (by
      rw [q4.length, List.length_map]
      have := List.length_filter_le keepR R
      omega) (fun D10 h10 vs10 ns10 z10 F10 N10 l10 i10 p10 s10 => ?_)
    walk_at "mine:steps"
    rename Fr g1 _ _ _ => F11
    rename News g1 _ _ _ => N11
    refine whl_start 0 ?_
    have lf10 := ltN (l10 (lf, listOf #[] 0) (.tail _ (.head _)))
    dsimp only at lf10
    refine while_ind (by passes_own) (LbInv ((L1 + 1, o1) :: news) R lf (bandsL R ns10.length ns10 [])) ?_ ns10.length _ ((lf, listOf #[] 0) :: ([(D10, listOf vs10.toArray z10)] ++ ((L1 + 1, o1) :: news))) _ _ ?_ F11 ?_
    · intro n5 m5 nx h5 tk5 hI F5 N5
      refine fold_Q ?_
      intro qF1
      refine fold_E ?_
      intro eF1
      refine fold_A ?_
      intro aF1
      refine fold_goal (fun gX gk => ?_)
      obtain ⟨ns5, us5, vs5, D5, z5, nf5, qs5, add5, e1, e2, e3, e4, e5, e6, e7, e8, e9, e10, e11, e12, e13⟩ := hI
      subst e3
      have F6 := fr_look [(Str.ofString "found", .ref lf), (Str.ofString "places", .ref D5)] F5 (by simp [e8, e9])
      dsimp only [look] at F6
      clear F5
      have hD5 : (D5, listOf us5.toArray z5) ∈ add5 ++ ((L1 + 1, o1) :: news) := List.mem_append_left _ e4
      have hcm : (L1 + 1, o1) ∈ add5 ++ ((L1 + 1, o1) :: news) := List.mem_append_right _ (.head _)
      refine gk ?_
      clear gk gX
      walk_at "mine:steps"
      rename_i l6 h6 F7 N7 lt6
      refine kqd_ne N7 (.tail _ (.tail _ hD5)) rfl rfl (ints_dat (kn := []) e2) (fun _ h => nomatch h) (.head _) rfl rfl DatAll.nil (List.forall_mem_nil _) ?_ (List.forall_mem_nil _) ?_ ?_
      · intro d hd
        refine fold_goal (fun gX gk => ?_)
        obtain ⟨x, _, rfl⟩ := List.mem_map.mp hd
        refine gk ?_
        clear gk gX
        rfl
      · ke_room
      rcases ns5 with _ | ⟨top, ns5⟩
      · have hb : (!decide (([] : List Int).map Dat.int = [])) = false := by simp
        rw [hb]
        walk_at "mine:steps"
        refine WhlIf.no rfl ?_
        have N8 : News g1 L1 h6 ((lf, listOf vs5.toArray nf5) :: (add5 ++ ((L1 + 1, o1) :: news))) := fun q hq => N7 q (.tail _ hq)
        clear N7 lt6
        (try dsimp only)
        walk_at "mine:steps"
        rename News h₀ _ _ _ => N9
        rename Fr h₀ _ _ _ => F9
        have hT : qs5 = bandsL R ns10.length ns10 [] := e10
        refine ret _ ((lf, listOf vs5.toArray nf5) :: (add5 ++ [(L1 + 1, o1)])) _ _ F9 ?_ ?_ ⟨ns10, p10, s10, ?_⟩
        · intro q hq
          refine N9 q ?_
          (first | (refine sub_in hq ?_; walk_at "mine:in"; done) | (trace "GRINDBACK"; simp only [List.mem_cons, List.mem_append, List.cons_append, List.append_assoc, List.nil_append, List.not_mem_nil, or_false, false_or] at hq ⊢; grind only))
        · intro q hq r hr
          simp only [List.mem_cons, List.mem_append, List.not_mem_nil, or_false] at hr
          rcases hr with rfl | hr | rfl
          · exact tb_ltOf l2.2 q hq
          · exact e6 q (.tail _ hq) r hr
          · exact Nat.lt_succ_of_lt (l1 q hq)
        · rw [← hT]
          exact DatIn.list (.head _) (DatAll.mono (fun q hq => .tail _ (List.mem_append_left _ hq)) e5)
      · have hb : (!decide ((top :: ns5).map Dat.int = [])) = true := by simp
        rw [hb]
        walk_at "mine:steps"
        refine WhlIf.yes rfl ?_
        have N8 : News g1 L1 h6 ((lf, listOf vs5.toArray nf5) :: (add5 ++ ((L1 + 1, o1) :: news))) := fun q hq => N7 q (.tail _ hq)
        clear N7 lt6
        refine fold_goal (fun gX gk => ?_)
        cases e2
        rename_i tt5 us5 e2
        have hz5 : 0 < (Value.int top tt5 :: us5).length := Nat.succ_pos _
        obtain ⟨ps5, hps5, hne5⟩ := e11 top (.head _)
        have hdm : (d, od) ∈ add5 ++ ((L1 + 1, o1) :: news) := List.mem_append_right _ (.tail _ hm1)
        have hrow : rowAt R top = ps5 := by rw [rowAt, hps5]; rfl
        have htop : top ∈ R.map (·.1) := by
          rcases Classical.em (top ∈ R.map (·.1)) with h | h
          · exact h
          · rw [rget_none h] at hps5; cases hps5
        refine gk ?_
        clear gk gX
        walk_at "mine:steps"
        rename Fr g1 _ _ _ => F9
        rename News g1 _ _ _ => N9
        obtain ⟨t1, F9⟩ : ∃ t1, Fr g1 L1 _ (look [(Str.ofString "many", .int ((1 : Nat) : Int) t1), (Str.ofString "top", .int top tt5), (Str.ofString "found", .ref lf), (Str.ofString "places", .ref D5)] m5) := ⟨_, F9⟩
        refine whl_start 0 ?_
        refine while_ind (by passes_own) (LmInv ((lf, listOf vs5.toArray nf5) :: (add5 ++ ((L1 + 1, o1) :: news))) R lf D5 top tt5 (manyOf R top 100 1)) ?_ 100 _ _ _ _ ⟨1, t1, rfl, rfl, rfl, rfl, rfl, rfl, rfl, Nat.le_refl _⟩ F9 N9
        intro f11 m11 nx11 h11 tk11 hI11 F11 N11
        refine fold_Q ?_
        intro qF2
        refine fold_E ?_
        intro eF2
        refine fold_A ?_
        intro aF2
        refine fold_goal (fun gX gk => ?_)
        obtain ⟨k11, t11, i1, i2, i3, i4, i5, i6, i7, i8⟩ := hI11
        subst i5
        have F12 := fr_look [(Str.ofString "many", .int (k11 : Int) t11), (Str.ofString "top", .int top tt5), (Str.ofString "found", .ref lf), (Str.ofString "places", .ref D5)] F11 (by simp [i1, i2, i3, i4])
        dsimp only [look] at F12
        clear F11
        refine gk ?_
        clear gk gX
        walk_at "mine:steps"
        rename_i lE h12 FE NE ltE la vsa na hma hva hna lb vsb nb hlb hmb hvb hnb
        have kE : ∀ q ∈ kn, q ∈ (lE, listOf #[] 0) :: (lf, listOf vs5.toArray nf5) :: (add5 ++ ((L1 + 1, o1) :: news)) := fun q hq => .tail _ (.tail _ (List.mem_append_right _ (.tail _ (hkn q hq))))
        refine kqd_eq NE hma rfl rfl hva kE hmb rfl rfl hvb kE (pd_ok _) (pd_ok _) ?_ ?_
        · ke_room
        have NB : News g1 L1 h12 ((lf, listOf vs5.toArray nf5) :: (add5 ++ ((L1 + 1, o1) :: news))) := fun q hq => NE q (.tail _ hq)
        by_cases hsame : rowAt R (top + k11) = ps5
        · rw [pd_eq_t hsame]
          cases f11 with
          | zero =>
            exact absurd ((hfar top htop k11 (by omega)).symm.trans hsame).symm hne5
          | succ f11 =>
            walk_at "mine:steps"
            refine WhlIf.yes rfl ?_
            clear NE
            walk_at "mine:steps"
            rename Fr g1 _ _ _ => F14
            rename News g1 _ _ _ => N14
            obtain ⟨t14, F14⟩ : ∃ t14, Fr g1 L1 _ (fun z => if z = Str.ofString "many" then some (.int ((k11 + 1 : Nat) : Int) t14) else look [(Str.ofString "many", .int (k11 : Int) t11), (Str.ofString "top", .int top tt5), (Str.ofString "found", .ref lf), (Str.ofString "places", .ref D5)] m11 z) := ⟨_, F14⟩
            refine ⟨_, _, _, _, rfl, F14, N14, f11, Nat.lt_succ_self _, k11 + 1, t14, rfl, rfl, rfl, rfl, rfl, ?_, by omega, by omega⟩
            rw [← i6, manyOf, if_pos (hsame.trans hrow.symm)]
        · rw [pd_eq_f hsame]
          walk_at "mine:steps"
          refine WhlIf.no rfl ?_
          clear NE
          have hK : manyOf R top 100 1 = k11 := by
            rw [← i6]
            cases f11 with
            | zero => rfl
            | succ f11 => rw [manyOf, if_neg fun h => hsame (h.trans hrow)]
          (try dsimp only)
          walk_at "mine:steps"
          rename Fr g1 _ _ _ => F14
          refine For_turns F14 ?_
          walk_at "mine:steps"
          rename_i lc vsc nc hlc hmc hvc hnc
          have hlc1 : (lc, listOf vsc.toArray nc) ∈ add5 ++ ((L1 + 1, o1) :: news) := List.mem_append_right _ (.tail _ (hkn _ hlc))
          have N14 : News g1 L1 h12 ((lf, listOf vs5.toArray nf5) :: (add5 ++ ((L1 + 1, o1) :: news))) := NB
          refine for_list ((lf, listOf vs5.toArray nf5) :: ([] ++ (add5 ++ ((L1 + 1, o1) :: news)))) rfl F14 N14 (fun q hq => hq) (.tail _ hlc1) rfl rfl (fun I l15 => ?_)
          have bI := ltN (l15 _ (.head _))
          dsimp only at bI
          have offr : ∀ q ∈ add5 ++ ((L1 + 1, o1) :: news), q.1 ≠ lf := by
            intro q hq
            rcases List.mem_append.mp hq with hq | hq
            · exact (Nat.ne_of_lt (e7 q hq)).symm
            · rcases mem_cons_s hq with rfl | hq
              · exact Nat.ne_of_lt l2.1
              · exact Nat.ne_of_lt (tb_ltOf l2.2 q hq)
          have offI : ∀ (n : Nat) (vs : List Value) (ad : List (Addr × Obj)) (oI : Obj), OwnOff ad [lf, I] → ∀ q ∈ (lf, listOf vs.toArray n) :: (ad ++ (add5 ++ ((L1 + 1, o1) :: news))), ∀ r ∈ [(I, oI)], q.1 ≠ r.1 := by
            intro n vs ad oI had q hq r hr
            rw [List.mem_singleton.mp hr]
            rcases mem_cons_s hq with rfl | hq
            · exact Nat.ne_of_lt bI
            · rcases List.mem_append.mp hq with hq | hq
              · exact had q hq _ (.tail _ (.head _))
              · exact Nat.ne_of_lt (l15 q (.tail _ hq))
          have hps10 : ps5.length ≤ 10 := by
            refine fold_goal (fun gX gk => ?_)
            obtain ⟨q, hq, hq'⟩ : ∃ q ∈ R, q.2 = ps5 := by
              unfold rget at hps5
              rw [Option.map_eq_some_iff] at hps5
              obtain ⟨q, hq, hq'⟩ := hps5
              exact ⟨q, List.mem_of_find?_eq_some hq, hq'⟩
            have := hz4 q hq
            refine gk ?_
            clear gk gX
            rwa [hq'] at this
          refine items_ind (LfInv kn add5 ((L1 + 1, o1) :: news) lf I D5 top tt5 k11 (qs5 ++ ps5.map (fun q => (q.1, top, q.2 - q.1, (k11 : Int))))) ?_ ?_ _ _ _ ?_
          · intro m16 nx h16 tk16 hI F16 N16
            refine fold_Q ?_
            intro qF3
            refine fold_E ?_
            intro eF3
            refine fold_A ?_
            intro aF3
            refine fold_goal (fun gX gk => ?_)
            obtain ⟨rs6, us6, vs6, n6, qs6, add6, t6, j1, j2, j3, j4, j5, j6, j7, j8, j9, j10, j11, j12, j13⟩ := hI
            subst j3
            have j1' : us6 = [] := by simpa using j1.symm
            subst j1'
            have j2' : rs6 = [] := by simpa using j2.length.symm
            subst j2'
            have F17 := fr_look [(Str.ofString "many", .int (k11 : Int) t6), (Str.ofString "top", .int top tt5), (Str.ofString "found", .ref lf), (Str.ofString "places", .ref D5)] F16 (by simp [j8, j9, j10, j11])
            dsimp only [look] at F17
            clear F16
            have hD6 : (D5, listOf (Value.int top tt5 :: us5).toArray z5) ∈ add6 ++ (add5 ++ ((L1 + 1, o1) :: news)) := List.mem_append_right _ hD5
            have hzl : (Value.int top tt5 :: us5).length ≤ 1000 := by
              have := e2.length
              simp only [List.length_cons] at e13 ⊢
              omega
            refine gk ?_
            clear gk gX
            (try dsimp only)
            walk_at "mine:steps"
            rename_i D17 hy17 FO NO lt17 h17 F17' N17'
            have hq6 : qs6 = qs5 ++ ps5.map (fun q => (q.1, top, q.2 - q.1, (k11 : Int))) := by
              rw [← j12, List.map_nil, List.append_nil]
            have hlenD : ((top :: ns5).drop k11).length ≤ ns5.length := by
              rw [List.length_drop, List.length_cons]; omega
            simp only [List.length_cons] at e12 e13
            have g17 := tb_ltOf lt17.2
            (try dsimp only)
            refine ⟨_, _, _, ((lf, listOf vs6.toArray n6) :: (((D17, listOf ((Value.int top tt5 :: us5).drop k11).toArray 0) :: (add6 ++ add5)) ++ ((L1 + 1, o1) :: news))), rfl, F17', ?_, ((top :: ns5).drop k11).length, ?_, (top :: ns5).drop k11, (Value.int top tt5 :: us5).drop k11, vs6, D17, 0, n6, qs6, (D17, listOf ((Value.int top tt5 :: us5).drop k11).toArray 0) :: (add6 ++ add5), rfl, (IntsAre.cons top tt5 e2).drop k11, rfl, .head _, DatAll.mono (fun q hq => .tail _ hq) j4, ?_, ?_, rfl, rfl, ?_, ?_, ?_, ?_⟩
            · intro q hq
              refine N17' q ?_
              (first | (refine sub_in hq ?_; walk_at "mine:in"; done) | (trace "GRINDBACK"; simp only [List.mem_cons, List.mem_append, List.cons_append, List.nil_append] at hq ⊢; grind only))
            · rw [e1, List.length_cons]; omega
            · intro q hq r hr
              rcases mem_cons_s hr with rfl | hr
              · exact g17 q (List.mem_append_right _ (List.mem_append_right _ hq))
              · rcases List.mem_append.mp hr with hr | hr
                · exact j5 q (List.mem_append_right _ hq) r hr
                · exact e6 q hq r hr
            · intro r hr
              rcases mem_cons_s hr with rfl | hr
              · exact lt17.1
              · rcases List.mem_append.mp hr with hr | hr
                · exact j7 r hr
                · exact e7 r hr
            · rw [← e10, hq6, List.length_cons, bandsL, hK, hrow]
              exact bandsL_fuel R _ _ _ _ (Nat.le_refl _) hlenD
            · exact fun y hy => e11 y (List.mem_of_mem_drop hy)
            · rw [hq6, List.length_append, List.length_map]; omega
            · omega
          · intro it r m16 nx hI v16 h16 tk16 hit F16 oI hoI N16
            refine fold_Q ?_
            intro qF4
            refine fold_E ?_
            intro eF4
            refine fold_A ?_
            intro aF4
            refine fold_goal (fun gX gk => ?_)
            obtain ⟨rs6, us6, vs6, n6, qs6, add6, t6, j1, j2, j3, j4, j5, j6, j7, j8, j9, j10, j11, j12, j13⟩ := hI
            subst j3
            cases us6 with
            | nil => simp at j1
            | cons u us6 =>
              simp only [List.map_cons, List.cons.injEq] at j1
              obtain ⟨rfl, rfl⟩ := j1
              have hu6 : v16 = u := hit
              subst hu6
              cases rs6 with
              | nil => cases j2
              | cons q6 rs6 =>
                cases j2
                rename_i j2 j14
                obtain ⟨t, ta, tb, n9, rfl, ht⟩ := dat_pair j2
                have F17 := fr_look [(Str.ofString "many", .int (k11 : Int) t6), (Str.ofString "top", .int top tt5), (Str.ofString "found", .ref lf), (Str.ofString "places", .ref D5)] F16 (by simp [j8, j9, j10, j11])
                dsimp only [look] at F17
                clear F16
                have ht1 : (t, ({ cls := .type "tuple", data := .seq [Value.int q6.1 ta, Value.int q6.2 tb].toArray n9 } : Obj)) ∈ add6 ++ (add5 ++ ((L1 + 1, o1) :: news)) := List.mem_append_right _ (List.mem_append_right _ (.tail _ (hkn _ ht)))
                have N17 : News g1 L1 h16 ((I, oI) :: (lf, listOf vs6.toArray n6) :: (add6 ++ (add5 ++ ((L1 + 1, o1) :: news)))) := N16
                clear N16
                have off6 : ∀ q ∈ add6 ++ (add5 ++ ((L1 + 1, o1) :: news)), q.1 ≠ lf := fun q hq => (List.mem_append.mp hq).elim (fun h => j6 q h _ (.head _)) (offr q)
                have hsz : vs6.length ≤ 1000 := by
                  have := j4.length
                  rw [List.length_map] at this
                  omega
                refine gk ?_
                clear gk gX
                (try dsimp only)
                walk_at "mine:steps"
                rename_i D12 hy12 lt12 h13 F13 N13
                rw [List.push_toArray] at N13
                refine fold_goal (fun gX gk => ?_)
                obtain ⟨u1, u2, u3, u4, N13⟩ : ∃ u1 u2 u3 u4, News g1 L1 h13 ((D12, tup4 q6.1 u1 top u2 (q6.2 - q6.1) u3 (k11 : Int) u4) :: (I, oI) :: (lf, listOf (vs6 ++ [Value.ref D12]).toArray (n6 + 1)) :: (add6 ++ (add5 ++ ((L1 + 1, o1) :: news)))) := ⟨_, _, _, _, N13⟩
                obtain ⟨p1, p2, p3⟩ := lt12
                have p4 := tb_ltOf p3
                have hoff : OwnOff ((D12, tup4 q6.1 u1 top u2 (q6.2 - q6.1) u3 (k11 : Int) u4) :: add6) [lf, I] := by
                  intro q hq r hr
                  rcases mem_cons_s hq with rfl | hq
                  · rcases mem_cons_s hr with rfl | hr
                    · exact (Nat.ne_of_lt p2).symm
                    · rw [List.mem_singleton.mp hr]
                      exact (Nat.ne_of_lt p1).symm
                  · exact j6 q hq r hr
                refine gk ?_
                clear gk gX
                refine unr_mk _ _ _ ((lf, listOf (vs6 ++ [Value.ref D12]).toArray (n6 + 1)) :: (((D12, tup4 q6.1 u1 top u2 (q6.2 - q6.1) u3 (k11 : Int) u4) :: add6) ++ (add5 ++ ((L1 + 1, o1) :: news)))) rfl F13 ?_ (offI _ _ _ _ hoff) (⟨.tail _ (List.mem_append_right _ hlc1), trivial⟩) ⟨rs6, us6, vs6 ++ [Value.ref D12], n6 + 1, qs6 ++ [(q6.1, top, q6.2 - q6.1, (k11 : Int))], (D12, tup4 q6.1 u1 top u2 (q6.2 - q6.1) u3 (k11 : Int) u4) :: add6, t6, rfl, j14, rfl, ?_, ?_, hoff, ?_, rfl, rfl, rfl, rfl, ?_, ?_⟩
                · intro q hq
                  refine N13 q ?_
                  (first | (refine sub_in hq ?_; walk_at "mine:in"; done) | (trace "GRINDBACK"; simp only [List.mem_cons, List.mem_append, List.cons_append, List.nil_append] at hq ⊢; grind only))
                · rw [List.map_append]
                  exact DatAll.append (DatAll.mono (fun q hq => .tail _ hq) j4) (DatAll.one (tup4_dat (.head _)))
                · intro q hq r hr
                  rcases mem_cons_s hr with rfl | hr
                  · exact p4 q (List.mem_append_right _ hq)
                  · exact j5 q hq r hr
                · intro r hr
                  rcases mem_cons_s hr with rfl | hr
                  · exact p2
                  · exact j7 r hr
                · rw [← j12, List.append_assoc]; rfl
                · simp only [List.length_append, List.length_cons, List.length_nil] at j13 ⊢
                  omega
          · refine ⟨ps5, vsc, vs5, nf5, qs5, [], t11, rfl, hvc, rfl, e5, (fun _ _ _ h => nomatch h), (fun _ h => nomatch h), (fun _ h => nomatch h), rfl, rfl, rfl, rfl, rfl, ?_⟩
            simp only [List.length_cons] at e12
            omega
    · refine ⟨ns10, vs10, [], D10, z10, 0, [], [(D10, listOf vs10.toArray z10)], rfl, i10, rfl, .head _, .nil, ?_, ?_, rfl, rfl, rfl, ?_, ?_, ?_⟩
      · intro q hq r hr
        rw [List.mem_singleton.mp hr]
        exact l10 q (.tail _ (.tail _ hq))
      · intro r hr
        rw [List.mem_singleton.mp hr]
        exact lf10
      · intro y hy
        refine fold_goal (fun gX gk => ?_)
        obtain ⟨q, hq, rfl⟩ := List.mem_map.mp (p10.mem_iff.mp hy)
        obtain ⟨h1, h2⟩ := List.mem_filter.mp hq
        refine gk ?_
        clear gk gX
        refine ⟨q.2, rget_some_of_mem (hdk ▸ isDictOf_nodup hd2) h1, fun e => ?_⟩
        rw [keepR, e] at h2
        cases h2
      · have := List.length_filter_le keepR R
        rw [p10.length_eq, List.length_map, List.length_nil]
        omega
      · have := List.length_filter_le keepR R
        rw [p10.length_eq, List.length_map]
        omega
    · intro q hq
      refine N11 q ?_
      (first | (refine sub_in hq ?_; walk_at "mine:in"; done) | (trace "GRINDBACK"; simp only [List.mem_cons, List.mem_append, List.cons_append, List.nil_append, List.not_mem_nil, or_false, false_or] at hq ⊢; grind only))
  · intro it r ys nx hI0 v9 C9 oC9 m9 D9 h9 tk9 E9 hv9 hoC9 F9 hCD oI9 hoI9 N9 o9 o9'
    refine fold_Q ?_
    intro qF5
    refine fold_E ?_
    intro eF5
    refine fold_A ?_
    intro aF5
    refine fold_goal (fun gX gk => ?_)
    obtain ⟨rs, Ss, Sd, ns, q1, q2, q3, q4, q5, rfl⟩ := hI0
    cases rs with
    | nil => simp [keyItms] at q1
    | cons pr rs =>
      simp only [keyItms, List.map_cons, List.cons.injEq] at q1
      obtain ⟨rfl, rfl⟩ := q1
      obtain ⟨t9, rfl⟩ := hv9
      cases q2
      rename_i k9 v9 ps9 Ss' q6 q7
      have hget : rget R k9 = some ps9 := by
        have : (k9, ps9) ∈ R := q3 ▸ List.mem_append_right _ (.head _)
        exact rget_some_of_mem (hdk ▸ isDictOf_nodup hd2) this
      refine gk ?_
      clear gk gX
      refine comp_asg1 (pre := [(I3, oI9)]) (by rfl) (by rfl) hoC9 F9 N9 ?_ ?_ (fun oC10 m10 h10 tk10 hoC10 hm10 F10 N10 => ?_)
      · intro q hq
        exact (o9' q hq).1
      · intro q hq
        rcases mem_cons_s hq with rfl | hq
        · exact Ne.symm hCD
        · exact (o9 q hq).2.1
      refine wpAny_tests_one ?_
      walk_at "mine:steps"
      rename_i l7 vs7 n7 hl7 hm7 hv7 hn7 l8 h8 F8 N8 lt8
      refine kqd_ne N8 (.tail _ hm7) rfl rfl hv7 (fun q hq => .tail _ (.tail _ (.tail _ (.tail _ (.tail _ (.tail _ (hkn q hq))))))) (.head _) rfl rfl DatAll.nil (List.forall_mem_nil _) (pd_ok _) (List.forall_mem_nil _) ?_ ?_
      · ke_room
      have N12 : News g1 L1 h8 ([(I3, oI9)] ++ (C9, oC10) :: (D9, lst ys) :: (lf, listOf #[] 0) :: (L1 + 1, o1) :: news) := fun q hq => N8 q (.tail _ hq)
      rcases ps9 with _ | ⟨q9, r9⟩
      · rw [pd_nil]
        walk_at "mine:steps"
        refine ⟨_, _, oC10, m10, _, rfl, F8, hoC10, N12, o9, ⟨.tail _ (.tail _ hm1), trivial⟩, rs, Ss', Sd ++ [(k9, [])], ns, rfl, q7, by rw [List.append_assoc, List.singleton_append]; exact q3, q4, ?_, rfl⟩
        rw [List.filter_append, q5]
        simp [keepR]
      · have hne : (!decide ((q9 :: r9).map pd = [])) = true := by simp
        rw [hne]
        walk_at "mine:steps"
        refine ⟨_, _, oC10, m10, _, rfl, F8, hoC10, N12, o9, ⟨.tail _ (.tail _ hm1), trivial⟩, rs, Ss', Sd ++ [(k9, q9 :: r9)], ns ++ [k9], rfl, q7, by rw [List.append_assoc, List.singleton_append]; exact q3, q4.append (.cons _ _ .nil), ?_, rfl⟩
        rw [List.filter_append, q5]
        simp [keepR]
  · exact ⟨kvs, R, [], [], rfl, hd3, rfl, .nil, rfl, rfl⟩
end
end
section
theorem reset_PPlain : True := by
  w_top off
  trivial
local macro_rules | `(tactic| walk_at "subscriptTail") => `(tactic| (k_here; (with_reducible show wpAny _ _ (subscriptTail _ _ (Value.ref _) (Value.int _ _)) _ _ _); k_dflt (refine' rows_item ?N ?kn ?hD ?hm ?hl ?_ ?hs ?hg; (case hD => assumption); (case N => k_asm); (case kn => walk_at "mine:known"); (case hm => k_mem); (case hl => assumption); (case hs => with_unfolding_all rfl); (case hg => (intro _; with_unfolding_all rfl)); k_whole); intro l' vs' n' hl' hm' hv' hn'))
local macro_rules | `(tactic| walk_at "getMethod ref") => `(tactic| (k_here; k_dflt (refine' rows_get_method ?N ?hD ?hm ?_; (case hD => assumption); (case N => k_asm); (case hm => k_mem); k_whole)))
local macro_rules | `(tactic| walk_at "call builtin:dict.get") => `(tactic| (k_here; k_dflt (refine' rows_get ?N ?kn ?hD ?hm ?hx ?_; (case hD => assumption); (case N => k_asm); (case kn => walk_at "mine:known"); (case hm => k_mem); (case hx => k_mem); k_whole); intro l' vs' n' hm' hv' hn'))
local macro_rules | `(tactic| walk_at "mine:known") => `(tactic| first | assumption | (intro q hq; first | exact List.mem_append_right _ (by solve_by_elim) | (simp only [List.mem_cons, List.mem_append] at hq ⊢; grind only)))
local macro_rules | `(tactic| walk_at "setItem ref int") => `(tactic| (k_here; (with_reducible show wpAny _ _ (setItem (Value.ref _) (Value.int _ _) _) _ _ _); k_dflt (refine' kda_set (knd := PySem.intKind _ _) ?F ?N ?U ?hd ?hk ?hz ?_; (case F => k_asm); (case N => k_asm); (case U => k_updF); (case hd => assumption); (case hk => exact intKind_is _ _ _ _); (case hz => (rw [sizeLine_eq]; omega)); k_whole); intro h' o' F' N' hd'; (try dsimp only at N'); (try k_sweep)))
local macro_rules | `(tactic| walk_at "call type:list") => `(tactic| (k_here; (with_reducible show wpAny _ _ (call (Value.type "list") [Value.ref _]) _ _ _); k_dflt (first
  | (refine' list_copyK ?k1 ?k2 ?k3 ?_ ?z; (case k1 => k_asm); (case k2 => k_asm); (case k3 => exact News.isList (by k_asm) (by k_mem)); (case z => (simp only [List.size_toArray, sizeLine_eq]; omega)); k_whole; intro D' c' h' F' N' l1; (try k_lt l1); (try k_sweep))
  | (refine' rows_list ?hh ?F ?N ?hp ?hd ?lo ?hn ?_; (case hh => exact rfl); (case F => k_asm); (case N => k_asm); (case hp => k_mem); (case hd => assumption); (case lo => assumption); (case hn => omega); k_whole; intro D' c' h' tk' vs' F' N' l1 hi'; (try k_lt l1); (try k_sweep)))))
local macro_rules | `(tactic| walk_at "call builtin:sum") => `(tactic| (k_here; (with_reducible show wpAny _ _ (call (Value.builtin "sum") [Value.ref _]) _ _ _); k_dflt (refine' sum_ints ?F ?N ?hh ?hl ?hi ?_; (case hi => assumption); (case F => k_asm); (case N => k_asm); (case hh => exact rfl); (case hl => exact News.isList (by k_asm) (by k_mem)); k_whole); intro h' tk' t' F' N'; (try k_sweep)))
local macro_rules | `(tactic| walk_at "binaryOp Add ref ref") => `(tactic| (k_here; (with_reducible show wpAny _ _ (binaryOp _ (Value.ref _) (Value.ref _)) _ _ _); k_dflt (refine' list_add_c ?F ?N ?a ?b ?_ ?z; (case F => k_asm); (case N => k_asm); (case a => k_mem); (case b => k_mem); (case z => (simp only [List.length_cons, List.length_nil]; omega)); k_whole); intro D' h' F' N' l1; (try k_lt l1); (try k_sweep)))
local macro_rules | `(tactic| walk_at "mine:stop") => `(tactic| (with_reducible show wpAny _ _ (call (Value.ref 33) _) _ _ _))
/-- does a rectangle have places on a row -/
def covq (y : Int) (q : Quad) : Bool := decide (q.2.1 ≤ y) && decide (y < q.2.1 + q.2.2.2)
/-- a row's pairs, rectangle by rectangle -/
def rowOfQ (qs : List Quad) (y : Int) : List (Int × Int) := (qs.filter (covq y)).map fun q => (q.1, q.1 + q.2.2.1)
theorem rowOfQ_append (a b : List Quad) (y : Int) : rowOfQ (a ++ b) y = rowOfQ a y ++ rowOfQ b y := by simp [rowOfQ]
theorem rowOfQ_cons (q : Quad) (b : List Quad) (y : Int) : rowOfQ (q :: b) y = (if covq y q = true then [(q.1, q.1 + q.2.2.1)] else []) ++ rowOfQ b y := by
  unfold rowOfQ
  by_cases h : covq y q = true
  · rw [List.filter_cons_of_pos h, if_pos h]; rfl
  · rw [List.filter_cons_of_neg h, if_neg h]; rfl
theorem mem_rangeKs {a y : Int} {n : Nat} : y ∈ rangeKs a n ↔ a ≤ y ∧ y < a + n := by
  unfold rangeKs
  rw [List.mem_map]
  constructor
  · rintro ⟨i, hi, rfl⟩
    rw [List.mem_range] at hi
    omega
  · rintro ⟨h1, h2⟩
    exact ⟨(y - a).toNat, List.mem_range.mpr (by omega), by omega⟩
theorem rangeKs_nodup (a : Int) (n : Nat) : (rangeKs a n).Nodup := by
  unfold rangeKs List.Nodup
  rw [List.pairwise_map]
  exact List.nodup_range.imp fun h e => h (by omega)
theorem accRow_at (q : Quad) : ∀ (ys : List Int) (R : Rows) (y : Int), ys.Nodup → rowAt (ys.foldl (accRow q) R) y = rowAt R y ++ (if y ∈ ys then [(q.1, q.1 + q.2.2.1)] else []) := by
  intro ys
  induction ys with
  | nil => intro R y _; simp
  | cons z ys ih =>
    intro R y hn
    rw [List.nodup_cons] at hn
    rw [List.foldl_cons, ih _ _ hn.2, accRow, rowAt_rput]
    by_cases e : y = z
    · subst e
      rw [if_pos rfl, if_neg hn.1, List.append_nil, if_pos (.head _)]
    · rw [if_neg e]
      by_cases h : y ∈ ys
      · rw [if_pos h, if_pos (.tail _ h)]
      · rw [if_neg h, if_neg fun hh => (List.mem_cons.mp hh).elim e h]
theorem accQ_at (qs : List Quad) : ∀ (R : Rows) (y : Int), (∀ q ∈ qs, 0 ≤ q.2.2.2) → rowAt (qs.foldl accQ R) y = rowAt R y ++ rowOfQ qs y := by
  induction qs with
  | nil => intro R y _; simp [rowOfQ]
  | cons q qs ih =>
    intro R y h
    have h0 := h q (.head _)
    rw [List.foldl_cons, ih _ _ fun q hq => h q (.tail _ hq), accQ, accRow_at _ _ _ _ (rangeKs_nodup _ _), rowOfQ_cons, List.append_assoc]
    congr 2
    by_cases hc : covq y q = true
    · rw [if_pos hc, if_pos]
      simp only [covq, Bool.and_eq_true, decide_eq_true_eq] at hc
      rw [mem_rangeKs]
      omega
    · rw [if_neg hc, if_neg]
      simp only [covq, Bool.and_eq_true, decide_eq_true_eq] at hc
      rw [mem_rangeKs]
      omega
theorem accR_at {qs : List Quad} (h : ∀ q ∈ qs, 0 ≤ q.2.2.2) (y : Int) : rowAt (accR qs) y = rowOfQ qs y := by
  rw [accR, accQ_at _ _ _ h]; rfl
theorem accRow_keys (q : Quad) : ∀ (ys : List Int) (R : Rows) (y : Int), y ∈ (ys.foldl (accRow q) R).map (·.1) → y ∈ R.map (·.1) ∨ y ∈ ys := by
  intro ys
  induction ys with
  | nil => intro R y h; exact .inl h
  | cons z ys ih =>
    intro R y h
    rw [List.foldl_cons] at h
    rcases ih _ _ h with h | h
    · rw [accRow] at h
      rcases (rput_keys _ _ _ _).mp h with rfl | h
      · exact .inr (.head _)
      · exact .inl h
    · exact .inr (.tail _ h)
theorem accQ_keys (qs : List Quad) : ∀ (R : Rows) (y : Int), (∀ q ∈ qs, 0 ≤ q.2.2.2) → y ∈ (qs.foldl accQ R).map (·.1) → y ∈ R.map (·.1) ∨ ∃ q ∈ qs, q.2.1 ≤ y ∧ y < q.2.1 + q.2.2.2 := by
  induction qs with
  | nil => intro R y _ h; exact .inl h
  | cons q qs ih =>
    intro R y h0 h
    rw [List.foldl_cons] at h
    rcases ih _ _ (fun q hq => h0 q (.tail _ hq)) h with h | ⟨r, hr, h⟩
    · rw [accQ] at h
      rcases accRow_keys _ _ _ _ h with h | h
      · exact .inl h
      · rw [mem_rangeKs] at h
        have := h0 q (.head _)
        exact .inr ⟨q, .head _, by omega⟩
    · exact .inr ⟨r, .tail _ hr, h⟩
theorem accQ_nodup (qs : List Quad) : ∀ R : Rows, (R.map (·.1)).Nodup → ((qs.foldl accQ R).map (·.1)).Nodup := by
  induction qs with
  | nil => intro R h; exact h
  | cons q qs ih => intro R h; rw [List.foldl_cons]; exact ih _ (accRow_nodup _ _ _ h)
theorem accR_nodup (qs : List Quad) : ((accR qs).map (·.1)).Nodup := accQ_nodup _ _ List.nodup_nil
theorem keys_len : ∀ (n : Nat) (l : List Int) (a : Int), l.Nodup → (∀ y ∈ l, a ≤ y ∧ y < a + n) → l.length ≤ n
  | 0, l, a, _, h => by
    rcases l with _ | ⟨y, l⟩
    · exact Nat.le_refl _
    · have := h y (.head _); omega
  | n + 1, l, a, hn, h => by
    have ih := keys_len n (l.erase (a + n)) a (hn.erase _) fun y hy => by
      rw [hn.mem_erase_iff] at hy
      have := h y hy.2
      have := hy.1
      omega
    by_cases hm : a + (n : Int) ∈ l
    · rw [List.length_erase_of_mem hm] at ih
      omega
    · rw [List.erase_of_not_mem hm] at ih
      omega
theorem accR_len {qs : List Quad} {a : Int} {n : Nat} (h0 : ∀ q ∈ qs, 0 ≤ q.2.2.2) (h : ∀ q ∈ qs, a ≤ q.2.1 ∧ q.2.1 + q.2.2.2 ≤ a + n) : (accR qs).length ≤ n := by
  have := keys_len n ((accR qs).map (·.1)) a (accR_nodup qs) fun y hy => by
    rcases accQ_keys qs [] y h0 hy with h1 | ⟨q, hq, h1, h2⟩
    · cases h1
    · have := h q hq; omega
  rwa [List.length_map] at this
theorem accR_row {qs : List Quad} {q : Int × List (Int × Int)} (h0 : ∀ q ∈ qs, 0 ≤ q.2.2.2) (hq : q ∈ accR qs) : q.2 = rowOfQ qs q.1 := by
  rw [← accR_at h0, rowAt, rget_some_of_mem (accR_nodup qs) hq]; rfl
theorem rowAt_mem {R : Rows} (hn : (R.map (·.1)).Nodup) {q : Int × List (Int × Int)} (hq : q ∈ R) : rowAt R q.1 = q.2 := by
  rw [rowAt, rget_some_of_mem hn hq]; rfl
theorem rowAt_not {R : Rows} {y : Int} (h : y ∉ R.map (·.1)) : rowAt R y = [] := by rw [rowAt, rget_none h]; rfl
theorem asc_nodup {G : Rows} (h : G.Pairwise (fun a b => a.1 < b.1)) : (G.map (·.1)).Nodup := by
  unfold List.Nodup
  rw [List.pairwise_map]
  exact h.imp fun h e => by omega
/-- rows that rise, none empty, are told by what a row is -/
theorem rows_uniq : ∀ {G G' : Rows}, G.Pairwise (fun a b => a.1 < b.1) → (∀ q ∈ G, q.2 ≠ []) → G'.Pairwise (fun a b => a.1 < b.1) → (∀ q ∈ G', q.2 ≠ []) → (∀ y, rowAt G y = rowAt G' y) → G = G'
  | [], [], _, _, _, _, _ => rfl
  | [], q :: r, _, _, h, hn, e => by
    have := e q.1
    rw [rowAt_mem (asc_nodup h) (.head _)] at this
    exact absurd this.symm (hn q (.head _))
  | q :: r, [], h, hn, _, _, e => by
    have := e q.1
    rw [rowAt_mem (asc_nodup h) (.head _)] at this
    exact absurd this (hn q (.head _))
  | q :: r, q' :: r', h, hn, h', hn', e => by
    have n1 := asc_nodup h
    have n2 := asc_nodup h'
    have a1 := List.pairwise_cons.mp h
    have a2 := List.pairwise_cons.mp h'
    have low : ∀ (x : Int × List (Int × Int)) (l : Rows) (y : Int), (∀ z ∈ l, x.1 < z.1) → y < x.1 → rowAt (x :: l) y = [] := by
      intro x l y hl hy
      refine rowAt_not fun hm => ?_
      obtain ⟨z, hz, rfl⟩ := List.mem_map.mp hm
      rcases mem_cons_s hz with rfl | hz
      · omega
      · have := hl z hz; omega
    have e1 : q.1 = q'.1 := by
      rcases Int.lt_trichotomy q.1 q'.1 with hlt | he | hgt
      · have := e q.1
        rw [rowAt_mem n1 (.head _), low _ _ _ a2.1 hlt] at this
        exact absurd this (hn q (.head _))
      · exact he
      · have := e q'.1
        rw [rowAt_mem n2 (.head _), low _ _ _ a1.1 hgt] at this
        exact absurd this.symm (hn' q' (.head _))
    have e2 : q.2 = q'.2 := by
      have := e q.1
      rw [rowAt_mem n1 (.head _), e1, rowAt_mem n2 (.head _)] at this
      exact this
    have e3 : q = q' := Prod.ext e1 e2
    subst e3
    rw [rows_uniq a1.2 (fun z hz => hn z (.tail _ hz)) a2.2 (fun z hz => hn' z (.tail _ hz)) fun y => ?_]
    by_cases hy : y = q.1
    · subst hy
      have k1 : q.1 ∉ r.map (·.1) := (List.nodup_cons.mp n1).1
      have k2 : q.1 ∉ r'.map (·.1) := (List.nodup_cons.mp n2).1
      rw [rowAt_not k1, rowAt_not k2]
    · have := e y
      rw [show q :: r = (q.1, q.2) :: r from rfl, show q :: r' = (q.1, q.2) :: r' from rfl, rowAt_cons, rowAt_cons, if_neg fun h => hy h.symm, if_neg fun h => hy h.symm] at this
      exact this
theorem regIs_uniq {G G' : Rows} {f : Int → List (Int × Int)} (h : RegIs G f) (h' : RegIs G' f) : G = G' := rows_uniq h.1 h.2.1 h'.1 h'.2.1 fun y => by rw [h.2.2, h'.2.2]
theorem manyOf_stop {R : Rows} {top : Int} : ∀ {f k : Nat}, rowAt R (top + k) ≠ rowAt R top → manyOf R top f k = k
  | 0, _, _ => rfl
  | f + 1, k, h => by rw [manyOf, if_neg h]
theorem bandsL_nil (R : Rows) (f : Nat) (acc : List Quad) : bandsL R f [] acc = acc := by cases f <;> rfl
/-- bands, row by row, are bands, place by place -/
theorem rect_bands (R : Rows) : ∀ (G : Rows) (k fm fuel : Nat) (top : Int) (acc : List Quad), 1 ≤ k → k + fm = 101 → (∀ y, top + k ≤ y → rowAt G y = rowAt R y) → rowAt R top ≠ [] → G.Pairwise (fun a b => a.1 < b.1) →
    (∀ q ∈ G, q.2 ≠ [] ∧ top + k ≤ q.1 ∧ q.1 ≤ 8) → -2 ≤ top → top + k ≤ 9 → G.length ≤ fuel →
    (closeB (G.foldl (fun S q => takeB S q.1 q.2) ⟨acc, rowAt R top, top, top + k⟩)).done = bandsL R fuel ((G.map (·.1)).drop (manyOf R top fm k - k)) (acc ++ (rowAt R top).map fun q => (q.1, top, q.2 - q.1, ((manyOf R top fm k : Nat) : Int))) := by
  intro G
  induction G with
  | nil =>
    intro k fm fuel top acc h1 h2 h3 h4 _ _ _ _ _
    have e : rowAt R (top + k) ≠ rowAt R top := by
      rw [← h3 _ (Int.le_refl _)]
      exact fun h => h4 h.symm
    rw [manyOf_stop e, List.map_nil, List.drop_nil, bandsL_nil, List.foldl_nil, closeB]
    dsimp only
    congr 1
    refine List.map_congr_left fun q _ => ?_
    rw [quadOf, show top + (k : Int) - top = k by omega]
  | cons q G ih =>
    intro k fm fuel top acc h1 h2 h3 h4 h5 h6 h7 h8 h9
    have hs := List.pairwise_cons.mp h5
    have hq := h6 q (.head _)
    have hrow : rowAt R q.1 = q.2 := by rw [← h3 _ hq.2.1, rowAt_mem (asc_nodup h5) (.head _)]
    have htail : ∀ y, q.1 + ((1 : Nat) : Int) ≤ y → rowAt G y = rowAt R y := by
      intro y hy
      rw [← h3 y (by omega), show q :: G = (q.1, q.2) :: G from rfl, rowAt_cons, if_neg (by omega)]
    rw [List.foldl_cons, List.map_cons]
    by_cases same : q.2 = rowAt R top ∧ q.1 = top + k
    · obtain ⟨fm, rfl⟩ : ∃ f, fm = f + 1 := ⟨fm - 1, by omega⟩
      have e : manyOf R top (fm + 1) k = manyOf R top fm (k + 1) := by
        rw [manyOf, if_pos]
        rw [← same.2, hrow, same.1]
      have hge := manyOf_ge R top fm (k + 1)
      rw [takeB, if_pos same, e]
      dsimp only
      have hb : q.1 + 1 = top + ((k + 1 : Nat) : Int) := by omega
      rw [hb, show manyOf R top fm (k + 1) - k = (manyOf R top fm (k + 1) - (k + 1)) + 1 by omega, List.drop_succ_cons]
      simp only [List.length_cons] at h9
      refine ih (k + 1) fm fuel top acc (by omega) (by omega) (fun y hy => htail y (by omega)) h4 hs.2 (fun z hz => ?_) h7 (by omega) (by omega)
      have hz1 := h6 z (.tail _ hz)
      have hz2 := hs.1 z hz
      exact ⟨hz1.1, by omega, hz1.2.2⟩
    · have e : rowAt R (top + k) ≠ rowAt R top := by
        intro h
        by_cases hh : q.1 = top + k
        · exact same ⟨by rw [← hrow, hh, h], hh⟩
        · rw [← h3 _ (Int.le_refl _), rowAt_not fun hm => ?_] at h
          · exact h4 h.symm
          · obtain ⟨z, hz, hz'⟩ := List.mem_map.mp hm
            have hz2 : z.1 = top + k := hz'
            rcases mem_cons_s hz with rfl | hz
            · exact hh hz'
            · have := hs.1 z hz
              omega
      have hcl : (closeB ⟨acc, rowAt R top, top, top + k⟩).done = acc ++ (rowAt R top).map fun q => (q.1, top, q.2 - q.1, (k : Int)) := by
        rw [closeB]
        dsimp only
        congr 1
        refine List.map_congr_left fun r _ => ?_
        rw [quadOf, show top + (k : Int) - top = k by omega]
      rw [manyOf_stop e, Nat.sub_self, List.drop_zero, takeB, if_neg same]
      obtain ⟨fuel, rfl⟩ : ∃ f, fuel = f + 1 := ⟨fuel - 1, by simp only [List.length_cons] at h9; omega⟩
      simp only [List.length_cons] at h9
      have hge := manyOf_ge R q.1 100 1
      have hne : rowAt R q.1 ≠ [] := by rw [hrow]; exact hq.1
      have := ih 1 100 fuel q.1 (acc ++ (rowAt R top).map fun q => (q.1, top, q.2 - q.1, (k : Int))) (by omega) rfl htail hne hs.2 (fun z hz => ?_) (by omega) (by omega) (by omega)
      · rw [bandsL, show manyOf R q.1 100 1 = (manyOf R q.1 100 1 - 1) + 1 by omega, List.drop_succ_cons, show manyOf R q.1 100 1 - 1 + 1 = manyOf R q.1 100 1 by omega, ← this, hrow]
        dsimp only
        rw [hcl]
        rfl
      · have hz1 := h6 z (.tail _ hz)
        have hz2 := hs.1 z hz
        exact ⟨hz1.1, by omega, hz1.2.2⟩
theorem rectB_bands {R G : Rows} (hG : RegIs G (rowAt R)) (hk : ∀ q ∈ G, -2 ≤ q.1 ∧ q.1 ≤ 8) : rectB G = bandsL R (G.map (·.1)).length (G.map (·.1)) [] := by
  obtain ⟨h1, h2, h3⟩ := hG
  rcases G with _ | ⟨q, G⟩
  · rfl
  · have hs := List.pairwise_cons.mp h1
    have hrow : rowAt R q.1 = q.2 := by rw [← h3, rowAt_mem (asc_nodup h1) (.head _)]
    have hq := hk q (.head _)
    have hge := manyOf_ge R q.1 100 1
    rw [rectB, List.foldl_cons, takeB, if_neg fun h => h2 q (.head _) h.1]
    have := rect_bands R G 1 100 G.length q.1 [] (by omega) rfl (fun y hy => ?_) (by rw [hrow]; exact h2 q (.head _)) hs.2 (fun z hz => ?_) hq.1 (by omega) (Nat.le_refl _)
    · rw [List.map_cons, List.length_cons, bandsL, show manyOf R q.1 100 1 = (manyOf R q.1 100 1 - 1) + 1 by omega, List.drop_succ_cons, show manyOf R q.1 100 1 - 1 + 1 = manyOf R q.1 100 1 by omega, List.length_map, ← this, hrow]
      rfl
    · rw [← h3 y, show q :: G = (q.1, q.2) :: G from rfl, rowAt_cons, if_neg (by omega)]
    · have := hs.1 z hz
      exact ⟨h2 z (.tail _ hz), by omega, (hk z (.tail _ hz)).2⟩
theorem sorted_uniq : ∀ {l l' : List Int}, l.Pairwise (· < ·) → l'.Pairwise (· < ·) → (∀ y, y ∈ l ↔ y ∈ l') → l = l' := by
  intro l l' h h' e
  have hp : l.Perm l' := (List.perm_ext_iff_of_nodup (h.imp fun h e => by omega) (h'.imp fun h e => by omega)).mpr e
  exact hp.eq_of_pairwise (fun a b _ _ h1 h2 => by omega) h h'
theorem places_eq {R G : Rows} {ns : List Int} (hn : (R.map (·.1)).Nodup) (hG : RegIs G (rowAt R)) (hp : ns.Perm ((R.filter keepR).map (·.1))) (hs : ns.Pairwise (· ≤ ·)) : ns = G.map (·.1) := by
  have hnd : ns.Nodup := hp.nodup_iff.mpr (List.Pairwise.sublist (List.filter_sublist.map _) hn)
  refine sorted_uniq ((hs.and hnd).imp fun h => by omega) ?_ fun y => ?_
  · rw [List.pairwise_map]; exact hG.1
  · rw [hp.mem_iff, List.mem_map, List.mem_map]
    constructor
    · rintro ⟨q, hq, rfl⟩
      obtain ⟨h1, h2⟩ := List.mem_filter.mp hq
      have hne : rowAt G q.1 ≠ [] := by
        rw [hG.2.2, rowAt_mem hn h1]
        intro e
        rw [keepR, e] at h2
        cases h2
      rcases Classical.em (q.1 ∈ G.map (·.1)) with h | h
      · exact List.mem_map.mp h
      · exact absurd (rowAt_not h) hne
    · rintro ⟨q, hq, rfl⟩
      have hne : rowAt R q.1 ≠ [] := by
        rw [← hG.2.2, rowAt_mem (asc_nodup hG.1) hq]
        exact hG.2.1 q hq
      rcases Classical.em (q.1 ∈ R.map (·.1)) with h | h
      · obtain ⟨z, hz, hz'⟩ := List.mem_map.mp h
        refine ⟨z, List.mem_filter.mpr ⟨hz, ?_⟩, hz'⟩
        have := rowAt_mem hn hz
        have hz2 : z.1 = q.1 := hz'
        rw [hz2] at this
        rw [this] at hne
        rw [keepR, Bool.not_eq_true']
        cases hzz : z.2 with
        | nil => exact absurd hzz hne
        | cons _ _ => rfl
      · exact absurd (rowAt_not h) hne
def areaS (S : BSt) : Int := (S.done.map fun q => q.2.2.1 * q.2.2.2).sum + lenOf S.spans * (S.bottom - S.top)
theorem lenOf_mul (h : Int) (t b : Int) : ∀ ps : List (Int × Int), ((ps.map (quadOf t b)).map fun q => q.2.2.1 * q.2.2.2).sum = lenOf ps * (b - t)
  | [] => by simp [lenOf]
  | q :: ps => by
    have := lenOf_mul h t b ps
    simp only [List.map_cons, List.sum_cons, lenOf] at this ⊢
    rw [this, Int.add_mul]
    rfl
theorem areaS_take (S : BSt) (y : Int) (sp : List (Int × Int)) : areaS (takeB S y sp) = areaS S + lenOf sp := by
  unfold takeB
  split
  · rename_i h
    rw [areaS, areaS, h.1]
    dsimp only
    rw [h.2, show S.bottom + 1 - S.top = (S.bottom - S.top) + 1 by omega, Int.mul_add, Int.mul_one]
    omega
  · rw [areaS, areaS, closeB]
    dsimp only
    rw [List.map_append, List.sum_append, lenOf_mul 0, show y + 1 - y = 1 by omega, Int.mul_one]
theorem areaS_fold : ∀ (G : Rows) (S : BSt), areaS (G.foldl (fun S q => takeB S q.1 q.2) S) = areaS S + areaOf G
  | [], S => by simp [areaOf]
  | q :: G, S => by
    rw [List.foldl_cons, areaS_fold G, areaS_take]
    simp only [areaOf, List.map_cons, List.sum_cons]
    omega
theorem rect_area (G : Rows) : ((rectB G).map fun q => q.2.2.1 * q.2.2.2).sum = areaOf G := by
  have := areaS_fold G ⟨[], [], 0, 0⟩
  rw [rectB, closeB]
  dsimp only
  rw [List.map_append, List.sum_append, lenOf_mul 0]
  rw [areaS, areaS] at this
  rw [this]
  simp [lenOf]
/-- what stands between the rows -/
def RowS (S : BSt) (Gd : Rows) : Prop := S.top ≤ S.bottom ∧ ∀ y, rowOfQ S.done y ++ (if S.top ≤ y ∧ y < S.bottom then S.spans else []) = rowAt Gd y
theorem rowOfQ_quads (t b y : Int) (ps : List (Int × Int)) : rowOfQ (ps.map (quadOf t b)) y = if t ≤ y ∧ y < b then ps else [] := by
  induction ps with
  | nil => simp [rowOfQ]
  | cons q ps ih =>
    rw [List.map_cons, rowOfQ_cons, ih]
    by_cases h : t ≤ y ∧ y < b
    · rw [if_pos h, if_pos h, if_pos]
      · simp only [quadOf, List.singleton_append]
        rw [show q.1 + (q.2 - q.1) = q.2 by omega]
      · simp only [covq, quadOf, Bool.and_eq_true, decide_eq_true_eq]
        exact ⟨decide_eq_true h.1, decide_eq_true (by show y < t + (b - t); omega)⟩
    · rw [if_neg h, if_neg h, if_neg]
      · rfl
      · simp only [covq, quadOf, Bool.and_eq_true, decide_eq_true_eq]
        rintro ⟨x1, x2⟩
        have x3 : t ≤ y := of_decide_eq_true x1
        have x4 : y < t + (b - t) := of_decide_eq_true x2
        omega
theorem rowAt_snoc {Gd : Rows} {q : Int × List (Int × Int)} (h : q.1 ∉ Gd.map (·.1)) (y : Int) : rowAt (Gd ++ [q]) y = if y = q.1 then q.2 else rowAt Gd y := by
  rw [rowAt_append]
  by_cases e : y = q.1
  · subst e
    rw [if_pos rfl, if_neg]
    · rw [show [q] = [(q.1, q.2)] from rfl, rowAt_cons, if_pos rfl]
    · simp only [List.any_eq_true, decide_eq_true_eq]
      exact fun ⟨z, hz, e⟩ => h (List.mem_map.mpr ⟨z, hz, e⟩)
  · rw [if_neg e]
    split
    · rfl
    · rename_i hh
      have hy : y ∉ Gd.map (·.1) := fun hm => by
        obtain ⟨z, hz, e⟩ := List.mem_map.mp hm
        exact hh (List.any_eq_true.mpr ⟨z, hz, by simpa using e⟩)
      rw [show [q] = [(q.1, q.2)] from rfl, rowAt_cons, if_neg (fun x => e x.symm), rowAt_not hy]
      rfl
theorem rowS_take {S : BSt} {Gd : Rows} {q : Int × List (Int × Int)} (h : RowS S Gd) (hq : q.1 ∉ Gd.map (·.1)) : RowS (takeB S q.1 q.2) (Gd ++ [q]) := by
  obtain ⟨h1, h2⟩ := h
  unfold takeB
  split
  · rename_i hs
    refine ⟨by dsimp only; omega, fun y => ?_⟩
    dsimp only
    rw [rowAt_snoc hq]
    by_cases e : y = q.1
    · subst e
      have := h2 q.1
      rw [if_neg (by omega), List.append_nil, rowAt_not hq] at this
      rw [if_pos rfl, this, if_pos (by omega), hs.1]
      rfl
    · rw [if_neg e, ← h2 y]
      congr 1
      by_cases hh : S.top ≤ y ∧ y < S.bottom
      · rw [if_pos hh, if_pos (by omega)]
      · rw [if_neg hh, if_neg (by omega)]
  · refine ⟨by dsimp only; omega, fun y => ?_⟩
    rw [closeB]
    dsimp only
    rw [rowAt_snoc hq, rowOfQ_append, rowOfQ_quads, h2 y]
    by_cases e : y = q.1
    · subst e
      rw [if_pos (by omega), if_pos rfl, rowAt_not hq]
      rfl
    · rw [if_neg (by omega), if_neg e, List.append_nil]
theorem rowS_fold : ∀ (G Gd : Rows) (S : BSt), RowS S Gd → ((Gd ++ G).map (·.1)).Nodup → RowS (G.foldl (fun S q => takeB S q.1 q.2) S) (Gd ++ G)
  | [], Gd, S, h, _ => by simpa using h
  | q :: G, Gd, S, h, hn => by
    have e : Gd ++ q :: G = (Gd ++ [q]) ++ G := by simp
    rw [List.foldl_cons, e]
    refine rowS_fold G (Gd ++ [q]) _ (rowS_take h fun hm => ?_) (e ▸ hn)
    rw [List.map_append, List.nodup_append] at hn
    exact hn.2.2 _ hm q.1 (List.mem_map.mpr ⟨q, .head _, rfl⟩) rfl
theorem rect_rows {G : Rows} (h : (G.map (·.1)).Nodup) (y : Int) : rowOfQ (rectB G) y = rowAt G y := by
  have := rowS_fold G [] ⟨[], [], 0, 0⟩ ⟨Int.le_refl _, fun y => by simp [rowOfQ, rowAt, rget]⟩ h
  rw [List.nil_append] at this
  rw [rectB, closeB]
  dsimp only
  rw [rowOfQ_append, rowOfQ_quads]
  exact this.2 y
/-- where the rectangles lie -/
def BdS (S : BSt) : Prop := (∀ q ∈ S.done, -2 ≤ q.2.1 ∧ q.2.1 + q.2.2.2 ≤ 9 ∧ 0 ≤ q.2.2.2) ∧ (S.spans = [] ∨ (-2 ≤ S.top ∧ S.bottom ≤ 9 ∧ S.top ≤ S.bottom))
theorem bdS_close {S : BSt} (h : BdS S) : ∀ q ∈ (closeB S).done, -2 ≤ q.2.1 ∧ q.2.1 + q.2.2.2 ≤ 9 ∧ 0 ≤ q.2.2.2 := by
  intro q hq
  rw [closeB] at hq
  dsimp only at hq
  rcases List.mem_append.mp hq with hq | hq
  · exact h.1 q hq
  · obtain ⟨z, hz, rfl⟩ := List.mem_map.mp hq
    rcases h.2 with e | e
    · rw [e] at hz; cases hz
    · simp only [quadOf]; omega
theorem bdS_take {S : BSt} {y : Int} {sp : List (Int × Int)} (h : BdS S) (h1 : -2 ≤ y) (h2 : y ≤ 8) : BdS (takeB S y sp) := by
  unfold takeB
  split
  · rename_i hs
    refine ⟨h.1, ?_⟩
    dsimp only
    rcases h.2 with e | e
    · exact .inl e
    · exact .inr (by omega)
  · exact ⟨bdS_close h, .inr (by dsimp only; omega)⟩
theorem bdS_fold : ∀ (G : Rows) (S : BSt), BdS S → (∀ q ∈ G, -2 ≤ q.1 ∧ q.1 ≤ 8) → BdS (G.foldl (fun S q => takeB S q.1 q.2) S)
  | [], _, h, _ => h
  | q :: G, S, h, hk => by
    rw [List.foldl_cons]
    have := hk q (.head _)
    exact bdS_fold G _ (bdS_take h this.1 this.2) fun z hz => hk z (.tail _ hz)
theorem rect_bd {G : Rows} (hk : ∀ q ∈ G, -2 ≤ q.1 ∧ q.1 ≤ 8) : ∀ q ∈ rectB G, -2 ≤ q.2.1 ∧ q.2.1 + q.2.2.2 ≤ 9 ∧ 0 ≤ q.2.2.2 :=
  bdS_close (bdS_fold G ⟨[], [], 0, 0⟩ ⟨(fun _ h => nomatch h), .inl rfl⟩ hk)
theorem take_len_fold : ∀ (G : Rows) (S : BSt), (G.foldl (fun S q => takeB S q.1 q.2) S).done.length + (G.foldl (fun S q => takeB S q.1 q.2) S).spans.length ≤ S.done.length + S.spans.length + sumLen G
  | [], S => by simp [sumLen]
  | q :: G, S => by
    rw [List.foldl_cons]
    have h1 := take_len_fold G (takeB S q.1 q.2)
    have h2 := takeB_len S q.1 q.2
    have : sumLen (q :: G) = q.2.length + sumLen G := by simp [sumLen]
    omega
theorem rect_len (G : Rows) : (rectB G).length ≤ sumLen G := by
  have := take_len_fold G ⟨[], [], 0, 0⟩
  rw [rectB, closeB]
  dsimp only at this ⊢
  rw [List.length_append, List.length_map]
  simpa using this
theorem sum_toNat_le {qs : List Quad} {n : Nat} (h : ∀ q ∈ qs, q.2.2.2.toNat ≤ n) : (qs.map fun q => q.2.2.2.toNat).sum ≤ qs.length * n := by
  induction qs with
  | nil => simp
  | cons q qs ih =>
    have h1 := h q (.head _)
    have h2 := ih fun z hz => h z (.tail _ hz)
    simp only [List.map_cons, List.sum_cons, List.length_cons, Nat.succ_mul]
    omega
theorem sumLen_le {G : Rows} {n : Nat} (h : ∀ q ∈ G, q.2.length ≤ n) : sumLen G ≤ G.length * n := by
  unfold sumLen
  induction G with
  | nil => simp
  | cons q G ih =>
    have h1 := h q (.head _)
    have h2 := ih fun z hz => h z (.tail _ hz)
    simp only [List.map_cons, List.sum_cons, List.length_cons, Nat.succ_mul]
    omega
/-- rows as the law tells them -/
def OkRows (R : Rows) : Prop := (∀ q ∈ R, -2 ≤ q.1 ∧ q.1 ≤ 8) ∧ ∀ q ∈ R, NormL q.2 ∧ (∀ r ∈ q.2, inB r) ∧ q.2.length ≤ 4
theorem ok_row {R : Rows} (hR : OkRows R) (hn : (R.map (·.1)).Nodup) (y : Int) : NormL (rowAt R y) ∧ (∀ r ∈ rowAt R y, inB r) ∧ (rowAt R y).length ≤ 4 := by
  rcases Classical.em (y ∈ R.map (·.1)) with h | h
  · obtain ⟨q, hq, rfl⟩ := List.mem_map.mp h
    rw [rowAt_mem hn hq]
    exact hR.2 q hq
  · rw [rowAt_not h]
    exact ⟨norm_nil, (fun _ h => nomatch h), Nat.zero_le _⟩
theorem reg_ok {R G : Rows} (hR : OkRows R) (hn : (R.map (·.1)).Nodup) (hG : RegIs G (rowAt R)) : OkRows G := by
  have hrow : ∀ q ∈ G, q.2 = rowAt R q.1 := fun q hq => by rw [← hG.2.2, rowAt_mem (asc_nodup hG.1) hq]
  refine ⟨fun q hq => ?_, fun q hq => ?_⟩
  · rcases Classical.em (q.1 ∈ R.map (·.1)) with h | h
    · obtain ⟨z, hz, e⟩ := List.mem_map.mp h
      have := hR.1 z hz
      have e' : z.1 = q.1 := e
      omega
    · exact absurd ((hrow q hq).trans (rowAt_not h)) (hG.2.1 q hq)
  · rw [hrow q hq]
    exact ok_row hR hn q.1
theorem ok_len {R : Rows} (hR : OkRows R) (hn : (R.map (·.1)).Nodup) : R.length ≤ 11 := by
  have := keys_len 11 (R.map (·.1)) (-2) hn fun y hy => by
    obtain ⟨q, hq, rfl⟩ := List.mem_map.mp hy
    have := hR.1 q hq
    omega
  rwa [List.length_map] at this
theorem norm_okB {l : List (Int × Int)} (h : NormL l) (hb : ∀ r ∈ l, inB r) : ∀ r ∈ l, okB r := fun r hr => by
  have h1 := h.1 r hr
  have h2 := hb r hr
  simp only [inB] at h2
  simp only [okB]
  omega
theorem rect_facts {G : Rows} (hG : OkRows G) (ha : G.Pairwise (fun a b => a.1 < b.1)) : (∀ q ∈ rectB G, 0 ≤ q.2.2.2 ∧ q.2.2.2 ≤ 100 ∧ -100 ≤ q.2.1 ∧ q.2.1 ≤ 100) ∧ ((rectB G).map fun q => q.2.2.2.toNat).sum ≤ 1000 ∧ (accR (rectB G)).length ≤ 20 ∧ (∀ q ∈ accR (rectB G), q.2.length ≤ 4 ∧ ∀ r ∈ q.2, okB r) ∧ (∀ y, spansOf (rowAt (accR (rectB G)) y) = rowAt G y) ∧ sumLen G ≤ 44 ∧ (rectB G).length ≤ 44 := by
  have hn := asc_nodup ha
  have hb := rect_bd hG.1
  have h0 : ∀ q ∈ rectB G, 0 ≤ q.2.2.2 := fun q hq => (hb q hq).2.2
  have hl := ok_len hG hn
  have hs := sumLen_le (n := 4) fun q hq => (hG.2 q hq).2.2
  have hr := rect_len G
  have hrow : ∀ y, rowAt (accR (rectB G)) y = rowAt G y := fun y => by rw [accR_at h0, rect_rows hn]
  refine ⟨fun q hq => ?_, ?_, ?_, fun q hq => ?_, fun y => ?_, by omega, by omega⟩
  · have := hb q hq
    omega
  · have := sum_toNat_le (qs := rectB G) (n := 11) fun q hq => by
      have := hb q hq
      omega
    omega
  · have := accR_len (a := -2) (n := 11) h0 fun q hq => by
      have := hb q hq
      omega
    omega
  · have := ok_row hG hn q.1
    rw [accR_row h0 hq, ← accR_at h0, hrow]
    exact ⟨this.2.2, norm_okB this.1 this.2.1⟩
  · have := ok_row hG hn y
    rw [hrow]
    exact spans_id this.1 this.2.1
theorem qd_ok (qs : List Quad) : ∀ d ∈ qs.map qd, kqdOk 8 d = true := by
  intro d hd
  obtain ⟨q, _, rfl⟩ := List.mem_map.mp hd
  rfl
open Classical in
theorem dat_ne_same (l : List Dat) : (!decide (l = l)) = false := by simp
open Classical in
theorem dat_eq_same (l : List Dat) : decide (l = l) = true := by simp
end
section
theorem reset_PRight : True := by
  w_top off
  trivial
local macro_rules | `(tactic| walk_at "mine:none") => `(tactic| skip)
local macro_rules | `(tactic| walk_at "subscriptTail") => `(tactic| (k_here; (with_reducible show wpAny _ _ (subscriptTail _ _ (Value.ref _) (Value.int _ _)) _ _ _); k_dflt (refine' rows_item ?N ?kn ?hD ?hm ?hl ?_ ?hs ?hg; (case hD => assumption); (case N => k_asm); (case kn => walk_at "mine:known"); (case hm => k_mem); (case hl => assumption); (case hs => with_unfolding_all rfl); (case hg => (intro _; with_unfolding_all rfl)); k_whole); intro l' vs' n' hl' hm' hv' hn'))
local macro_rules | `(tactic| walk_at "getMethod ref") => `(tactic| (k_here; k_dflt (refine' rows_get_method ?N ?hD ?hm ?_; (case hD => assumption); (case N => k_asm); (case hm => k_mem); k_whole)))
local macro_rules | `(tactic| walk_at "call builtin:dict.get") => `(tactic| (k_here; k_dflt (refine' rows_get ?N ?kn ?hD ?hm ?hx ?_; (case hD => assumption); (case N => k_asm); (case kn => walk_at "mine:known"); (case hm => k_mem); (case hx => k_mem); k_whole); intro l' vs' n' hm' hv' hn'))
local macro_rules | `(tactic| walk_at "mine:known") => `(tactic| first | assumption | (intro q hq; first | exact List.mem_append_right _ (by solve_by_elim) | (simp only [List.mem_cons, List.mem_append] at hq ⊢; grind only)))
local macro_rules | `(tactic| walk_at "setItem ref int") => `(tactic| (k_here; (with_reducible show wpAny _ _ (setItem (Value.ref _) (Value.int _ _) _) _ _ _); k_dflt (refine' kda_set (knd := PySem.intKind _ _) ?F ?N ?U ?hd ?hk ?hz ?_; (case F => k_asm); (case N => k_asm); (case U => k_updF); (case hd => assumption); (case hk => exact intKind_is _ _ _ _); (case hz => (rw [sizeLine_eq]; omega)); k_whole); intro h' o' F' N' hd'; (try dsimp only at N'); (try k_sweep)))
local macro_rules | `(tactic| walk_at "call type:list") => `(tactic| (k_here; (with_reducible show wpAny _ _ (call (Value.type "list") [Value.ref _]) _ _ _); k_dflt (first
  | (refine' list_copyK ?k1 ?k2 ?k3 ?_ ?z; (case k1 => k_asm); (case k2 => k_asm); (case k3 => exact News.isList (by k_asm) (by k_mem)); (case z => (simp only [List.size_toArray, sizeLine_eq]; omega)); k_whole; intro D' c' h' F' N' l1; (try k_lt l1); (try k_sweep))
  | (refine' rows_list ?hh ?F ?N ?hp ?hd ?lo ?hn ?_; (case hh => exact rfl); (case F => k_asm); (case N => k_asm); (case hp => k_mem); (case hd => assumption); (case lo => assumption); (case hn => omega); k_whole; intro D' c' h' tk' vs' F' N' l1 hi'; (try k_lt l1); (try k_sweep)))))
local macro_rules | `(tactic| walk_at "call builtin:sum") => `(tactic| (k_here; (with_reducible show wpAny _ _ (call (Value.builtin "sum") [Value.ref _]) _ _ _); k_dflt (refine' sum_ints ?F ?N ?hh ?hl ?hi ?_; (case hi => assumption); (case F => k_asm); (case N => k_asm); (case hh => exact rfl); (case hl => exact News.isList (by k_asm) (by k_mem)); k_whole); intro h' tk' t' F' N'; (try k_sweep)))
local macro_rules | `(tactic| walk_at "binaryOp Add ref ref") => `(tactic| (k_here; (with_reducible show wpAny _ _ (binaryOp _ (Value.ref _) (Value.ref _)) _ _ _); k_dflt (refine' list_add_c ?F ?N ?a ?b ?_ ?z; (case F => k_asm); (case N => k_asm); (case a => k_mem); (case b => k_mem); (case z => (simp only [List.length_cons, List.length_nil]; omega)); k_whole); intro D' h' F' N' l1; (try k_lt l1); (try k_sweep)))
local macro_rules | `(tactic| walk_at "mine:stop") => `(tactic| (with_reducible show wpAny _ _ (call (Value.ref 33) _) _ _ _))
section
variable {prog : Program} {w : World} {p : Program} {loose : List Str} {mean : ExcName → Option Value} {mg mb : Str → Option Value}
local macro_rules | `(tactic| walk_at "mine:stop") => `(tactic| first | (with_reducible show wpAny _ _ (call (Value.ref 59) _) _ _ _) | (with_reducible show wpAny _ _ (call (Value.ref 196) _) _ _ _) | (with_reducible show wpAny _ _ (call (Value.ref 158) _) _ _ _) | (with_reducible show wpAny _ _ (call (Value.ref 111) _) _ _ _) | (with_reducible show wpAny _ _ (call (Value.ref 99) _) _ _ _) | (with_reducible show wpAny _ _ (call (Value.ref 85) _) _ _ _))
theorem right_c {dp un : Nat} {gd : Option (List Code)} {cn : Str} {cs : Scope} {a : Addr} {ccd : Value} {cl : List (Str × Addr)} {outer : List Env} {A₀ : Around} {base h₀ : Heap} {L : Addr} {m : Str → Option Value} {s : Shared}
    {Q E : Value → Shared → Prop} {x : Addr} {v : Value} {G R : Rows} {kn news : List (Addr × Obj)}
    (B : Below A₀ base outer h₀) (F : Fr h₀ L s.heap m) (X : (hd.heap_1 w.params).In h₀) (N : News h₀ L s.heap news) (hkn : ∀ p ∈ kn, p ∈ news)
    (T : Top p loose mean mg mb h₀) (hk : cs.kind = .function) (hd : dp + 4 < recursionLimit) (hu : un + 400 < cLine) (hv : RegionIn prog w kn (.ref x) G) (hw : DictIn prog w kn v R) (hG : RegIs G (rowAt R)) (hR : OkRows R)
    (ret : ∀ h' tk', Fr h₀ L h' m → News h₀ L h' news → Q (.bool true) {s with heap := h', toks := tk'}) :
    wpAny (model prog w) (ktrTop dp un gd cn cs L a ccd cl outer) (call (.ref 201) [.ref x, v]) Q E s := by
  refine wpAny_call ?_
  have hv' := hv
  have hw' := hw
  refine fold_goal (fun gX gk => ?_)
  obtain ⟨d, od, kvs, rfl, hd1, hd2, hd3, hd4⟩ := hw
  have hm1 := hkn _ hd1
  have hDA : DictAt prog w kn d od R := ⟨kvs, hd2, hd3, hd4⟩
  obtain ⟨x', dxr, dr, odr, hsh, tx, nx, kvr, e, hx1, hx2, hx3, hx4, hx5, hx6⟩ := hv
  cases e
  have hx1' := hkn _ hx1
  have hx2' := hkn _ hx2
  have hx3' := hkn _ hx3
  refine gk ?_
  clear gk gX
  k_dflt (walk_at "mine:enterC")
  rename_i g1 L1 h1 tk1 FG1 F1 B1 X1 T1 l1 o1 o2 d1 d2 N1
  have hdk := hd3.keys
  have hdl := hd3.length
  have hnd : (R.map (·.1)).Nodup := hdk ▸ isDictOf_nodup hd2
  have hRl := ok_len hR hnd
  have hOG := reg_ok hR hnd hG
  have hGl := ok_len hOG (asc_nodup hG.1)
  refine fold_goal (fun gX gk => ?_)
  obtain ⟨f1, f2, f3, f4, f5, f6, f7⟩ := rect_facts hOG hG.1
  refine gk ?_
  clear gk gX
  walk_at "mine:steps"
  refine comp_rule F1 (by with_unfolding_all rfl) (by decide) (by rfl) (by decide) ?_
  walk_at "mine:steps"
  refine comp_dict rfl F1 N1 (.tail _ (.tail _ hm1)) hd2 hd4 ?_ (fun I3 h3 tk3 l3 => ?_)
  · rw [sizeLine_eq]; omega
  refine comp_ind (fun xs ys nx => Ex3 fun (rs : List (Int × Value)) (Ss Sd : Rows) => An5 (xs = keyItms rs) (RowsIn kn rs Ss) (Sd ++ Ss = R) (ys = []) (nx = (L1 + 1 + 1, o1) :: (L1 + 1, o2) :: news)) ?_ ?_ _ _ _ ?_
  · intro ys nx hI0 D9 h9 tk9 F9 N9 o9
    refine fold_Q ?_
    intro qF0
    refine fold_E ?_
    intro eF0
    refine fold_A ?_
    intro aF0
    refine fold_goal (fun gX gk => ?_)
    obtain ⟨rs, Ss, Sd, q1, q2, q3, rfl, rfl⟩ := hI0
    clear q1 q2 q3
    refine gk ?_
    clear gk gX
    walk_at "mine:steps"
    rename_i l10 h10 F10 N10 l10'
    refine kqd_ne N10 (.tail _ (.head _)) rfl rfl (DatAll.nil : DatAll [] [] []) (List.forall_mem_nil _) (.head _) rfl rfl (DatAll.nil : DatAll [] [] []) (List.forall_mem_nil _) (List.forall_mem_nil _) (List.forall_mem_nil _) ?_ ?_
    · ke_room
    have hb : (!decide (([] : List Dat) = [])) = false := by simp
    rw [hb]
    have N11 : News g1 L1 h10 ((L1 + 1 + 1, o1) :: (L1 + 1, o2) :: news) := fun q hq => N10 q (.tail _ (.tail _ hq))
    clear N10 l10'
    walk_at "mine:steps"
    refine' lbands_c (kn := kn) (R := R) B1 F10 X1 N11 ?zk T1 rfl ?zd ?zu hw' (by omega) ?zfar ?zz ?_
    (case zk => exact fun q hq => .tail _ (.tail _ (hkn q hq)))
    (case zd => walk_at "mine:room")
    (case zu => walk_at "mine:units")
    (case zfar =>
      intro y hy j hj
      refine rowAt_not fun hm => ?_
      refine fold_goal (fun gX gk => ?_)
      obtain ⟨q, hq, e⟩ := List.mem_map.mp hm
      obtain ⟨q', hq', rfl⟩ := List.mem_map.mp hy
      have e' : q.1 = q'.1 + j := e
      have h1 := hR.1 q hq
      have h2 := hR.1 q' hq'
      refine gk ?_
      clear gk gX
      omega)
    (case zz => exact fun q hq => by have := (hR.2 q hq).2.2; omega)
    intro r12 add12 h12 tk12 F12 N12 l12 ⟨ns, hp, hs, dat12⟩
    have hns := places_eq hnd hG hp hs
    rw [hns, ← rectB_bands hG hOG.1] at dat12
    refine fold_goal (fun gX gk => ?_)
    obtain ⟨lb, vsb, nb, rfl, hlb, hdb⟩ := dat_list dat12
    refine gk ?_
    clear gk gX
    walk_at "mine:steps"
    rename Fr g1 _ _ _ => F13
    rename News g1 _ _ _ => N13
    refine' rectangles_c (kn := kn) (G := G) B1 F13 X1 N13 ?zk T1 rfl ?zd ?zu hv' (by omega) (by omega) (asc_nodup hG.1) ?_
    (case zk => exact fun q hq => List.mem_append_right _ (.tail _ (.tail _ (hkn q hq))))
    (case zd => walk_at "mine:room")
    (case zu => walk_at "mine:units")
    intro ld add14 h14 tk14 F14 N14 l14 dat14
    refine fold_goal (fun gX gk => ?_)
    obtain ⟨ldv, vsd, nd, e, hld, hdd⟩ := dat_list dat14
    cases e
    have hlb14 : (lb, listOf vsb.toArray nb) ∈ add14 ++ (add12 ++ (L1 + 1 + 1, o1) :: (L1 + 1, o2) :: news) := List.mem_append_right _ (List.mem_append_left _ hlb)
    refine gk ?_
    clear gk gX
    walk_at "mine:steps"
    refine kqd_ne N14 hld rfl rfl hdd (fun q hq => hq) hlb14 rfl rfl hdb (fun q hq => List.mem_append_right _ (List.mem_append_left _ hq)) (qd_ok _) (qd_ok _) ?_ ?_
    · ke_room
    rw [dat_ne_same]
    have N15 : News g1 L1 h14 (add12 ++ (L1 + 1 + 1, o1) :: (L1 + 1, o2) :: news) := fun q hq => N14 q (List.mem_append_right _ hq)
    clear hdd hlb14 dat14 l14 hld N14
    walk_at "mine:steps"
    refine' orect_c (kn := add12) (qs := rectB G) B1 F14 X1 N15 (fun q hq => List.mem_append_left _ hq) T1 rfl ?zd ?zu dat12 f1 f2 f3 f4 ?_
    (case zd => walk_at "mine:room")
    (case zu => walk_at "mine:units")
    intro r16 add16 h16 tk16 G16 F16 N16 l16 hr16 hG16
    have eG : G16 = G := regIs_uniq hG16 ⟨hG.1, hG.2.1, fun y => (f5 y).symm⟩
    refine fold_goal (fun gX gk => ?_)
    subst eG
    have hr16' := hr16
    obtain ⟨x16, dx16, d16, od16, hs16, t16, n16, kv16, rfl, hy1, hy2, hy3, hy4, hy5, hy6⟩ := hr16
    refine gk ?_
    clear gk gX
    walk_at "mine:steps"
    refine' like_c (kn := add16 ++ (add12 ++ (L1 + 1 + 1, o1) :: (L1 + 1, o2) :: news)) (G := G16) B1 F16 X1 N16 (fun q hq => hq) T1 rfl ?zd ?zu hr16' (hv'.mono ?zm) ?_
    (case zm => exact fun q hq => List.mem_append_right _ (List.mem_append_right _ (.tail _ (.tail _ (hkn q hq)))))
    (case zd => walk_at "mine:room")
    (case zu => walk_at "mine:units")
    intro h17 tk17 F17 N17
    have N18 : News g1 L1 h17 (add12 ++ (L1 + 1 + 1, o1) :: (L1 + 1, o2) :: news) := fun q hq => N17 q (List.mem_append_right _ hq)
    clear N17 hr16' hy1 hy2 hy3 hy4 hy5 hy6 hG16 l16
    have hx1a : (x, instObj 102 dxr) ∈ add12 ++ (L1 + 1 + 1, o1) :: (L1 + 1, o2) :: news := List.mem_append_right _ (.tail _ (.tail _ hx1'))
    have hx2a : (dxr, dictOf [⟨hsh, .str (Str.ofString "rows") tx, .ref dr⟩] nx) ∈ add12 ++ (L1 + 1 + 1, o1) :: (L1 + 1, o2) :: news := List.mem_append_right _ (.tail _ (.tail _ hx2'))
    walk_at "mine:steps"
    refine' area_c (kn := kn) (G := G16) B1 F17 X1 N18 ?zk T1 rfl ?zd ?zu hv' (by omega) ?_
    (case zk => exact fun q hq => List.mem_append_right _ (.tail _ (.tail _ (hkn q hq))))
    (case zd => walk_at "mine:room")
    (case zu => walk_at "mine:units")
    intro t19 h19 tk19 F19 N19
    walk_at "mine:steps"
    refine comp_rule F19 (by with_unfolding_all rfl) (by decide) (by rfl) (by decide) ?_
    walk_at "mine:steps"
    refine comp_list rfl F19 N19 (List.mem_append_left _ hlb) rfl rfl ?_ (fun I20 h20 tk20 l20 => ?_)
    · rw [sizeLine_eq]
      have := hdb.length
      rw [List.length_map] at this
      omega
    refine comp_ind (fun xs ys nx => Ex4 fun (rs qs : List Quad) (us : List Value) (ns : List Int) => An6 (xs = us.map .val) (DatAll add12 us (rs.map qd)) (qs ++ rs = rectB G16) (IntsAre ys ns) (ns = qs.map (fun q => q.2.2.1 * q.2.2.2)) (nx = add12 ++ (L1 + 1 + 1, o1) :: (L1 + 1, o2) :: news)) ?_ ?_ _ _ _ ?_
    · intro ys nx hI0 D21 h21 tk21 F21 N21 o21
      refine fold_Q ?_
      intro qF1
      refine fold_E ?_
      intro eF1
      refine fold_A ?_
      intro aF1
      refine fold_goal (fun gX gk => ?_)
      obtain ⟨rs2, qs2, us2, ns2, q1, q2, q3, q4, q5, rfl⟩ := hI0
      have q1' : us2 = [] := by simpa using q1.symm
      subst q1'
      have q2' : rs2 = [] := by simpa using q2.length.symm
      subst q2'
      rw [List.append_nil] at q3
      have e : areaOf G16 = ns2.sum := by rw [q5, q3, rect_area]
      refine gk ?_
      clear gk gX
      walk_at "mine:steps"
      rename News h₀ _ _ _ => N29
      rename Fr h₀ _ _ _ => F29
      have eb : (areaOf G16 == ns2.sum) = true := beq_iff_eq.mpr e
      rw [eb]
      exact ret _ _ F29 fun q hq => N29 q (.tail _ (List.mem_append_right _ (.tail _ (.tail _ hq))))
    · intro it r ys nx hI0 v22 C22 oC22 m22 D22 h22 tk22 E22 hv22 hoC22 F22 hCD oI22 hoI22 N22 o22 o22'
      refine fold_Q ?_
      intro qF2
      refine fold_E ?_
      intro eF2
      refine fold_A ?_
      intro aF2
      refine fold_goal (fun gX gk => ?_)
      obtain ⟨rs2, qs2, us2, ns2, q1, q2, q3, q4, q5, rfl⟩ := hI0
      cases us2 with
      | nil => simp at q1
      | cons u us2 =>
        simp only [List.map_cons, List.cons.injEq] at q1
        obtain ⟨rfl, rfl⟩ := q1
        have hu : v22 = u := hv22
        subst hu
        cases rs2 with
        | nil => cases q2
        | cons qq rs2 =>
          cases q2
          rename_i q2 q6
          obtain ⟨t, ta, tb, tc, td, n9, rfl, ht⟩ := dat_quad q2
          have ht1 : _ ∈ add12 ++ (L1 + 1 + 1, o1) :: (L1 + 1, o2) :: news := List.mem_append_left _ ht
          have bq := f1 qq (q3 ▸ List.mem_append_right _ (.head _))
          refine gk ?_
          clear gk gX
          refine comp_asg4 (pre := [(I20, oI22)]) rfl ⟨_, (N22 _ (.tail _ (.tail _ (.tail _ ht1)))).1, rfl, n9, rfl⟩ (by rfl) (by rfl) (by rfl) (by rfl) (by decide) (by rfl) hoC22 F22 N22 ?_ ?_ (fun oC23 m23 h23 tk23 hoC23 e1 e2 e3 e4 F23 N23 => ?_)
          · intro q hq
            exact (o22' q hq).1
          · intro q hq
            rcases mem_cons_s hq with rfl | hq
            · exact Ne.symm hCD
            · exact (o22 q hq).2.1
          refine wpAny_tests_nil ?_
          simp only [if_true]
          walk_at "mine:steps"
          refine ⟨_, _, oC23, m23, _, rfl, F23, hoC23, N23, o22, ⟨List.mem_append_left _ hlb, trivial⟩, rs2, qs2 ++ [qq], us2, ns2 ++ [qq.2.2.1 * qq.2.2.2], rfl, q6, by rw [List.append_assoc, List.singleton_append]; exact q3, q4.append (.cons _ _ .nil), ?_, rfl⟩
          rw [q5, List.map_append]
          rfl
    · exact ⟨rectB G16, [], vsb, [], rfl, hdb, rfl, .nil, rfl, rfl⟩
  · intro it r ys nx hI0 v9 C9 oC9 m9 D9 h9 tk9 E9 hv9 hoC9 F9 hCD oI9 hoI9 N9 o9 o9'
    refine fold_Q ?_
    intro qF3
    refine fold_E ?_
    intro eF3
    refine fold_A ?_
    intro aF3
    refine fold_goal (fun gX gk => ?_)
    obtain ⟨rs, Ss, Sd, q1, q2, q3, rfl, rfl⟩ := hI0
    cases rs with
    | nil => simp [keyItms] at q1
    | cons pr rs =>
      simp only [keyItms, List.map_cons, List.cons.injEq] at q1
      obtain ⟨rfl, rfl⟩ := q1
      obtain ⟨t9, rfl⟩ := hv9
      cases q2
      rename_i k9 v9 ps9 Ss' q6 q7
      have hin : (k9, ps9) ∈ R := q3 ▸ List.mem_append_right _ (.head _)
      have hget : rget R k9 = some ps9 := rget_some_of_mem hnd hin
      have hrow : rowAt G k9 = ps9 := by rw [hG.2.2, rowAt, hget]; rfl
      have hp4 := (hR.2 _ hin).2.2
      dsimp only at hp4
      refine gk ?_
      clear gk gX
      refine comp_asg1 (pre := [(I3, oI9)]) (by rfl) (by rfl) hoC9 F9 N9 ?_ ?_ (fun oC10 m10 h10 tk10 hoC10 hm10 F10 N10 => ?_)
      · intro q hq
        exact (o9' q hq).1
      · intro q hq
        rcases mem_cons_s hq with rfl | hq
        · exact Ne.symm hCD
        · exact (o9 q hq).2.1
      refine wpAny_tests_one ?_
      walk_at "mine:steps"
      refine' spans_of_c (kn := kn) (G := G) B1 F10 X1 N10 ?zk T1 rfl ?zd ?zu hv' (by rw [hrow]; omega) ?_
      (case zk => exact fun q hq => List.mem_append_right _ (.tail _ (.tail _ (.tail _ (.tail _ (hkn q hq))))))
      (case zd => walk_at "mine:room")
      (case zu => walk_at "mine:units")
      intro D11 c11 h11 tk11 vs11 F11 N11 l11 i11
      rw [hrow] at i11
      walk_at "mine:steps"
      rename_i l12 vs12 n12 hl12 hm12 hv12 hn12
      have k11 : ∀ q ∈ kn, q ∈ (D11, listOf vs11.toArray c11) :: ([(I3, oI9)] ++ (C9, oC10) :: (D9, lst []) :: (L1 + 1 + 1, o1) :: (L1 + 1, o2) :: news) := fun q hq => .tail _ (.tail _ (.tail _ (.tail _ (.tail _ (.tail _ (hkn q hq))))))
      refine kqd_ne N11 (.head _) rfl rfl i11 k11 hm12 rfl rfl hv12 k11 (pd_ok _) (pd_ok _) ?_ ?_
      · ke_room
      rw [dat_ne_same]
      have N12 : News g1 L1 h11 ([(I3, oI9)] ++ (C9, oC10) :: (D9, lst []) :: (L1 + 1 + 1, o1) :: (L1 + 1, o2) :: news) := fun q hq => N11 q (.tail _ hq)
      walk_at "mine:steps"
      refine ⟨_, _, oC10, m10, (L1 + 1 + 1, o1) :: (L1 + 1, o2) :: news, rfl, F11, hoC10, N12, o9, ⟨.tail _ (.tail _ hm1), trivial⟩, rs, Ss', Sd ++ [(k9, ps9)], rfl, q7, by rw [List.append_assoc, List.singleton_append]; exact q3, rfl, rfl⟩
  · exact ⟨kvs, R, [], rfl, hd3, rfl, rfl, rfl⟩
end
end
section
theorem reset_PRects : True := by
  w_top off
  trivial
local macro_rules | `(tactic| walk_at "mine:none") => `(tactic| skip)
local macro_rules | `(tactic| walk_at "mine:none") => `(tactic| skip)
local macro_rules | `(tactic| walk_at "subscriptTail") => `(tactic| (k_here; (with_reducible show wpAny _ _ (subscriptTail _ _ (Value.ref _) (Value.int _ _)) _ _ _); k_dflt (refine' rows_item ?N ?kn ?hD ?hm ?hl ?_ ?hs ?hg; (case hD => assumption); (case N => k_asm); (case kn => walk_at "mine:known"); (case hm => k_mem); (case hl => assumption); (case hs => with_unfolding_all rfl); (case hg => (intro _; with_unfolding_all rfl)); k_whole); intro l' vs' n' hl' hm' hv' hn'))
local macro_rules | `(tactic| walk_at "getMethod ref") => `(tactic| (k_here; k_dflt (refine' rows_get_method ?N ?hD ?hm ?_; (case hD => assumption); (case N => k_asm); (case hm => k_mem); k_whole)))
local macro_rules | `(tactic| walk_at "call builtin:dict.get") => `(tactic| (k_here; k_dflt (refine' rows_get ?N ?kn ?hD ?hm ?hx ?_; (case hD => assumption); (case N => k_asm); (case kn => walk_at "mine:known"); (case hm => k_mem); (case hx => k_mem); k_whole); intro l' vs' n' hm' hv' hn'))
local macro_rules | `(tactic| walk_at "mine:known") => `(tactic| first | assumption | (intro q hq; first | exact List.mem_append_right _ (by solve_by_elim) | (simp only [List.mem_cons, List.mem_append] at hq ⊢; grind only)))
local macro_rules | `(tactic| walk_at "setItem ref int") => `(tactic| (k_here; (with_reducible show wpAny _ _ (setItem (Value.ref _) (Value.int _ _) _) _ _ _); k_dflt (refine' kda_set (knd := PySem.intKind _ _) ?F ?N ?U ?hd ?hk ?hz ?_; (case F => k_asm); (case N => k_asm); (case U => k_updF); (case hd => assumption); (case hk => exact intKind_is _ _ _ _); (case hz => (rw [sizeLine_eq]; omega)); k_whole); intro h' o' F' N' hd'; (try dsimp only at N'); (try k_sweep)))
local macro_rules | `(tactic| walk_at "call type:list") => `(tactic| (k_here; (with_reducible show wpAny _ _ (call (Value.type "list") [Value.ref _]) _ _ _); k_dflt (first
  | (refine' list_copyK ?k1 ?k2 ?k3 ?_ ?z; (case k1 => k_asm); (case k2 => k_asm); (case k3 => exact News.isList (by k_asm) (by k_mem)); (case z => (simp only [List.size_toArray, sizeLine_eq]; omega)); k_whole; intro D' c' h' F' N' l1; (try k_lt l1); (try k_sweep))
  | (refine' rows_list ?hh ?F ?N ?hp ?hd ?lo ?hn ?_; (case hh => exact rfl); (case F => k_asm); (case N => k_asm); (case hp => k_mem); (case hd => assumption); (case lo => assumption); (case hn => omega); k_whole; intro D' c' h' tk' vs' F' N' l1 hi'; (try k_lt l1); (try k_sweep)))))
local macro_rules | `(tactic| walk_at "call builtin:sum") => `(tactic| (k_here; (with_reducible show wpAny _ _ (call (Value.builtin "sum") [Value.ref _]) _ _ _); k_dflt (refine' sum_ints ?F ?N ?hh ?hl ?hi ?_; (case hi => assumption); (case F => k_asm); (case N => k_asm); (case hh => exact rfl); (case hl => exact News.isList (by k_asm) (by k_mem)); k_whole); intro h' tk' t' F' N'; (try k_sweep)))
local macro_rules | `(tactic| walk_at "binaryOp Add ref ref") => `(tactic| (k_here; (with_reducible show wpAny _ _ (binaryOp _ (Value.ref _) (Value.ref _)) _ _ _); k_dflt (refine' list_add_c ?F ?N ?a ?b ?_ ?z; (case F => k_asm); (case N => k_asm); (case a => k_mem); (case b => k_mem); (case z => (simp only [List.length_cons, List.length_nil]; omega)); k_whole); intro D' h' F' N' l1; (try k_lt l1); (try k_sweep)))
local macro_rules | `(tactic| walk_at "call ref") => `(tactic| (k_here; (with_reducible show wpAny _ _ (call (Value.ref 172) [Value.ref _, Value.int _ _]) _ _ _); k_dflt (refine' take_c ?b ?f ?x ?n ?u ?o ?t ?k ?d ?c ?y ?z ?_; (case b => k_asm); (case f => k_asm); (case x => k_asm); (case n => k_asm); (case u => k_updF); (case o => assumption); (case t => k_asm); (case k => first | exact rfl | assumption); (case d => walk_at "mine:room"); (case c => walk_at "mine:units"); (case y => first | omega | (simp only [List.size_toArray]; omega)); (case z => first | omega | (simp only [List.size_toArray]; omega)); k_whole); intro r' tr' o' h' tk' hr0' hr1' ho' F' N'; (try simp only [List.size_toArray] at hr1'); (try dsimp only at N'); (try k_sweep); (try dsimp only)))
local macro_rules | `(tactic| walk_at "mine:stop") => `(tactic| (with_reducible show wpAny _ _ (call (Value.ref 33) _) _ _ _))
section
variable {prog : Program} {w : World} {p : Program} {loose : List Str} {mean : ExcName → Option Value} {mg mb : Str → Option Value}
local macro_rules | `(tactic| walk_at "mine:stop") => `(tactic| first | (with_reducible show wpAny _ _ (call (Value.ref 191) _) _ _ _) | (with_reducible show wpAny _ _ (call (Value.ref 111) _) _ _ _) | (with_reducible show wpAny _ _ (call (Value.ref 201) _) _ _ _))
/-- a drawn rectangle -/
def okQuad (q : Quad) : Prop := -3 ≤ q.1 ∧ q.1 ≤ 3 ∧ -1 ≤ q.2.1 ∧ q.2.1 ≤ 2 ∧ 0 ≤ q.2.2.1 ∧ q.2.2.1 ≤ 3 ∧ 0 ≤ q.2.2.2 ∧ q.2.2.2 ≤ 3
def drawnRow (qs : List Quad) (y : Int) : List (Int × Int) := spansOf (rowOfQ qs y)
def drawnStep (qs : List Quad) (R : Rows) (y : Int) : Rows := rput R y (drawnRow qs y)
def drawn (qs : List Quad) : Rows := (rangeKs (-2) 11).foldl (drawnStep qs) []
theorem drawn_at (qs : List Quad) (y : Int) : ∀ (ys : List Int) (R : Rows), rowAt (ys.foldl (drawnStep qs) R) y = if y ∈ ys then drawnRow qs y else rowAt R y := by
  intro ys
  induction ys with
  | nil => intro R; simp
  | cons z ys ih =>
    intro R
    rw [List.foldl_cons, ih, drawnStep, rowAt_rput]
    by_cases h : y ∈ ys
    · rw [if_pos h, if_pos (.tail _ h)]
    · rw [if_neg h]
      by_cases e : y = z
      · subst e
        rw [if_pos rfl, if_pos (.head _)]
      · rw [if_neg e, if_neg fun hh => (List.mem_cons.mp hh).elim e h]
theorem drawn_keys (qs : List Quad) (y : Int) : ∀ (ys : List Int) (R : Rows), y ∈ (ys.foldl (drawnStep qs) R).map (·.1) → y ∈ ys ∨ y ∈ R.map (·.1) := by
  intro ys
  induction ys with
  | nil => intro R h; exact .inr h
  | cons z ys ih =>
    intro R h
    rw [List.foldl_cons] at h
    rcases ih _ h with h | h
    · exact .inl (.tail _ h)
    · rcases (rput_keys _ _ _ _).mp h with rfl | h
      · exact .inl (.head _)
      · exact .inr h
theorem drawn_nodup (qs : List Quad) : ∀ (ys : List Int) (R : Rows), (R.map (·.1)).Nodup → ((ys.foldl (drawnStep qs) R).map (·.1)).Nodup := by
  intro ys
  induction ys with
  | nil => intro R h; exact h
  | cons z ys ih => intro R h; rw [List.foldl_cons]; exact ih _ (rput_nodup h _ _)
theorem rowOfQ_ok {qs : List Quad} (h : ∀ q ∈ qs, okQuad q) (y : Int) : (∀ r ∈ rowOfQ qs y, okB r) ∧ (rowOfQ qs y).length ≤ qs.length := by
  refine ⟨fun r hr => ?_, ?_⟩
  · obtain ⟨q, hq, rfl⟩ := List.mem_map.mp hr
    have := h q (List.mem_filter.mp hq).1
    simp only [okQuad] at this
    simp only [okB]
    omega
  · rw [rowOfQ, List.length_map]
    exact List.length_filter_le _ _
theorem rowOfQ_far {qs : List Quad} (h : ∀ q ∈ qs, okQuad q) {y : Int} (hy : ¬ (-2 ≤ y ∧ y < -2 + 11)) : rowOfQ qs y = [] := by
  rw [rowOfQ, List.map_eq_nil_iff, List.filter_eq_nil_iff]
  intro q hq hc
  have := h q hq
  simp only [okQuad] at this
  simp only [covq, Bool.and_eq_true, decide_eq_true_eq] at hc
  omega
theorem drawn_facts {qs : List Quad} (h : ∀ q ∈ qs, okQuad q) (hl : qs.length ≤ 4) : OkRows (drawn qs) ∧ (∀ y, rowAt (drawn qs) y = spansOf (rowAt (accR qs) y)) ∧ (∀ q ∈ qs, 0 ≤ q.2.2.2 ∧ q.2.2.2 ≤ 100 ∧ -100 ≤ q.2.1 ∧ q.2.1 ≤ 100) ∧ (qs.map fun q => q.2.2.2.toNat).sum ≤ 1000 ∧ (accR qs).length ≤ 20 ∧ (∀ q ∈ accR qs, q.2.length ≤ 4 ∧ ∀ r ∈ q.2, okB r) := by
  have h0 : ∀ q ∈ qs, 0 ≤ q.2.2.2 := fun q hq => (h q hq).2.2.2.2.2.2.1
  have hn : ((drawn qs).map (·.1)).Nodup := drawn_nodup _ _ _ List.nodup_nil
  have hrow : ∀ y, rowAt (drawn qs) y = if y ∈ rangeKs (-2) 11 then drawnRow qs y else [] := fun y => drawn_at qs y _ []
  have hkey : ∀ q ∈ drawn qs, q.1 ∈ rangeKs (-2) 11 := fun q hq => (drawn_keys qs q.1 _ _ (List.mem_map.mpr ⟨q, hq, rfl⟩)).elim id fun h => nomatch h
  refine ⟨⟨fun q hq => ?_, fun q hq => ?_⟩, fun y => ?_, fun q hq => ?_, ?_, ?_, fun q hq => ?_⟩
  · have := mem_rangeKs.mp (hkey q hq)
    omega
  · have e : q.2 = drawnRow qs q.1 := by rw [← rowAt_mem hn hq, hrow, if_pos (hkey q hq)]
    have hk := rowOfQ_ok h q.1
    have hb := fun r hr => (hk.1 r hr).inB
    rw [e]
    have := spans_len hb
    exact ⟨(spans_norm hb).1, spans_inB hb, by rw [drawnRow]; omega⟩
  · rw [hrow, accR_at h0]
    by_cases hy : y ∈ rangeKs (-2) 11
    · rw [if_pos hy]; rfl
    · rw [if_neg hy, rowOfQ_far h fun hh => hy (mem_rangeKs.mpr hh)]
      decide
  · have := h q hq
    simp only [okQuad] at this
    omega
  · have := sum_toNat_le (qs := qs) (n := 3) fun q hq => by
      have := h q hq
      simp only [okQuad] at this
      omega
    omega
  · have := accR_len (a := -2) (n := 11) h0 fun q hq => by
      have := h q hq
      simp only [okQuad] at this
      omega
    omega
  · have := rowOfQ_ok h q.1
    rw [accR_row h0 hq]
    exact ⟨by omega, this.1⟩
/-- the rectangles' loop -/
inductive SoInv (rest : List (Addr × Obj)) (src lf lI : Addr) (xs : List Itm) (m : Str → Option Value) (nx : List (Addr × Obj)) : Prop
  | mk (o : Obj) (vs : List Value) (n : Nat) (add : List (Addr × Obj)) (qs : List Quad) (ih0 : (∀ it ∈ xs, ∃ f : Tok → Value, it = Itm.tok f)) (ih1 : nx = (lf, listOf vs.toArray n) :: (src, o) :: (add ++ rest)) (ih2 : SrcObj o) (ih3 : DatAll add vs (qs.map qd)) (ih4 : (∀ q ∈ qs, okQuad q)) (ih5 : (∀ q ∈ rest, ∀ r ∈ add, q.1 < r.1)) (ih6 : (∀ r ∈ add, @LT.lt Nat _ src r.1)) (ih7 : OwnOff add [lf, src, lI]) (ih8 : m (Str.ofString "some") = some (.ref lf)) (ih9 : m (Str.ofString "source") = some (.ref src)) (ih10 : qs.length + xs.length ≤ 4) : SoInv rest src lf lI xs m nx
/-- the rows' loop -/
inductive SrInv (prog : Program) (w : World) (rest : List (Addr × Obj)) (qs : List Quad) (lf d2 lc lI : Addr) (total : Rows) (xs : List Itm) (m : Str → Option Value) (nx : List (Addr × Obj)) : Prop
  | mk (ys : List Int) (oc : Obj) (x : Option Value) (od : Obj) (kvs : List (Int × Value)) (R : Rows) (add : List (Addr × Obj)) (ih0 : xs = ys.map (fun k => .tok fun t => .int k t)) (ih1 : nx = (d2, od) :: (lc, oc) :: (add ++ rest)) (ih2 : oc.data = .cell x) (ih3 : od.IsDictOf (PySem.intKind prog w) kvs) (ih4 : RowsIn add kvs R) (ih5 : (∀ q ∈ rest, ∀ r ∈ add, q.1 < r.1)) (ih6 : OwnOff add [d2, lc, lI]) (ih7 : m (Str.ofString "rows") = some (.ref d2)) (ih8 : m (Str.ofString "some") = some (.ref lf)) (ih9 : ys.foldl (drawnStep qs) R = total) (ih10 : R.length + ys.length ≤ 20) : SrInv prog w rest qs lf d2 lc lI total xs m nx
theorem rects_c {dp un : Nat} {gd : Option (List Code)} {cn : Str} {cs : Scope} {a : Addr} {ccd : Value} {cl : List (Str × Addr)} {outer : List Env} {A₀ : Around} {base h₀ : Heap} {L : Addr} {m : Str → Option Value} {s : Shared}
    {Q E : Value → Shared → Prop} {src : Addr} {o : Obj} {news : List (Addr × Obj)} {g : Obj → List (Addr × Obj)}
    (B : Below A₀ base outer h₀) (F : Fr h₀ L s.heap m) (X : (hd.heap_1 w.params).In h₀) (N : News h₀ L s.heap news) (U : UpdF src o news g) (ho : SrcObj o)
    (T : Top p loose mean mg mb h₀) (hk : cs.kind = .function) (hd : dp + 5 < recursionLimit) (hu : un + 500 < cLine)
    (ret : ∀ o' h' tk', SrcObj o' → Fr h₀ L h' m → News h₀ L h' (g o') → Q (.bool true) {s with heap := h', toks := tk'}) :
    wpAny (model prog w) (ktrTop dp un gd cn cs L a ccd cl outer) (call (.ref 206) [.ref src]) Q E s := by
  refine fold_goal (fun gX gk => ?_)
  obtain ⟨pre, post, rfl, hg, h3, h4⟩ := U.split
  have N1 : News h₀ L s.heap ((src, o) :: (pre ++ post)) := fun q hq => N q (by
    rcases mem_cons_s hq with rfl | hq
    · exact List.mem_append_right _ (.head _)
    · exact (List.mem_append.mp hq).elim (fun h => List.mem_append_left _ h) fun h => List.mem_append_right _ (.tail _ h))
  have off : ∀ q ∈ pre ++ post, q.1 ≠ src := fun q hq => (List.mem_append.mp hq).elim (h3 q) (h4 q)
  clear N
  refine gk ?_
  clear gk gX
  refine wpAny_call ?_
  k_dflt (walk_at "mine:enterC")
  rename_i g1 L1 h1 tk1 FG1 F1 B1 X1 T1 l1 o1 d1 N2
  walk_at "mine:steps"
  rename_i lf hA l2 hB F2 N2'
  have hs1 := ltN (Nat.lt_succ_of_lt (l1 (src, o) (.head _)))
  dsimp only at hs1
  refine For_turns F2 ?_
  walk_at "mine:steps"
  rename_i rr tr oo h5 tk5 hr0 hr1 hoo F5 N5 h6 tk6 t1 t2 t3 R6 F6 N6 k6
  refine for_range ((lf, listOf #[] 0) :: (src, oo) :: ([] ++ ((L1 + 1, o1) :: (pre ++ post)))) rfl F6 N6 ?_ R6 (small_one (by omega) (by omega) (by omega) (by omega)) (rangeSize_nat _ _) (fun I l4 => ?_) (fun _ _ _ _ _ q => wpAny_pure q)
  · intro q hq
    (first | (refine sub_in hq ?_; walk_at "mine:in"; done) | (trace "GRINDBACK"; simp only [List.mem_cons, List.mem_append, List.nil_append] at hq ⊢; grind only))
  have bI1 := ltN (l4 _ (.head _))
  have bI2 := ltN (l4 _ (.tail _ (.tail _ (.head _))))
  dsimp only at bI1 bI2
  have lI0 : ∀ q ∈ (L1 + 1, o1) :: (pre ++ post), q.1 < I := by
    intro q hq
    refine l4 q ?_
    (first | (refine sub_in hq ?_; walk_at "mine:in"; done) | (trace "GRINDBACK"; simp only [List.mem_cons] at hq ⊢; grind only))
  have offf : ∀ q ∈ (L1 + 1, o1) :: (pre ++ post), q.1 ≠ lf := by
    intro q hq
    rcases mem_cons_s hq with rfl | hq
    · exact Nat.ne_of_lt l2.1
    · exact Nat.ne_of_lt (tb_ltOf l2.2.2 q hq)
  have offs : ∀ q ∈ (L1 + 1, o1) :: (pre ++ post), q.1 ≠ src := by
    intro q hq
    rcases mem_cons_s hq with rfl | hq
    · exact Nat.ne_of_gt hs1
    · exact off q hq
  refine items_ind (SoInv ((L1 + 1, o1) :: (pre ++ post)) src lf I) ?_ ?_ _ _ _ ?_
  · intro m5 nx h5 tk5 hI F5 N5
    refine fold_Q ?_
    intro qF0
    refine fold_E ?_
    intro eF0
    refine fold_A ?_
    intro aF0
    refine fold_goal (fun gX gk => ?_)
    obtain ⟨o5, vs5, n5, add5, qs5, e1, e2, e3, e4, e5, e6, e7, e8, e9, e10, e11⟩ := hI
    subst e2
    have F6 := fr_look [(Str.ofString "some", .ref lf), (Str.ofString "source", .ref src)] F5 (by simp [e9, e10])
    dsimp only [look] at F6
    clear F5
    refine gk ?_
    clear gk gX
    (try dsimp only)
    walk_at "mine:steps"
    rename_i d2 hA7 od7 F7' N7' lo7 hs7 fs7 hi7 fi7 l7 h7 F7 N7
    clear F7' N7' hs7 fs7 fi7
    have hlf7 := l7.1
    have g7 := tb_ltOf l7.2.2
    refine For_turns F7 ?_
    walk_at "mine:steps"
    rename_i h8 tk8 t4 t5 t6 R8 F8 N8 k8
    refine for_range ((d2, od7) :: (L1 + 1, o1) :: ([] ++ ((lf, listOf vs5.toArray n5) :: (src, o5) :: (add5 ++ (pre ++ post))))) rfl F8 N8 ?_ R8 (by decide) (by rfl) (fun J l8 => ?_) (fun _ _ _ _ _ q => wpAny_pure q)
    · intro q hq
      (first | (refine sub_in hq ?_; walk_at "mine:in"; done) | (trace "GRINDBACK"; simp only [List.mem_cons, List.mem_append, List.nil_append] at hq ⊢; grind only))
    have bJ1 := ltN (l8 _ (.head _))
    have bJ2 := ltN (l8 _ (.tail _ (.tail _ (.tail _ (List.mem_append_right _ (.head _))))))
    dsimp only at bJ1 bJ2
    have lJ0 : ∀ q ∈ (lf, listOf vs5.toArray n5) :: (src, o5) :: (add5 ++ (pre ++ post)), q.1 < J := by
      intro q hq
      refine l8 q ?_
      (first | (refine sub_in hq ?_; walk_at "mine:in"; done) | (trace "GRINDBACK"; simp only [List.mem_cons, List.mem_append] at hq ⊢; grind only))
    have offd : ∀ q ∈ (lf, listOf vs5.toArray n5) :: (src, o5) :: (add5 ++ (pre ++ post)), q.1 ≠ d2 := by
      intro q hq
      rcases mem_cons_s hq with rfl | hq
      · exact Nat.ne_of_lt hlf7
      · rcases mem_cons_s hq with rfl | hq
        · exact Nat.ne_of_lt l7.2.1
        · refine Nat.ne_of_lt (g7 q ?_)
          (first | (refine sub_in hq ?_; walk_at "mine:in"; done) | (trace "GRINDBACK"; simp only [List.mem_cons, List.mem_append] at hq ⊢; grind only))
    have offc : ∀ q ∈ (lf, listOf vs5.toArray n5) :: (src, o5) :: (add5 ++ (pre ++ post)), q.1 ≠ L1 + 1 := by
      intro q hq
      rcases mem_cons_s hq with rfl | hq
      · exact (Nat.ne_of_lt l2.1).symm
      · rcases mem_cons_s hq with rfl | hq
        · exact Nat.ne_of_lt hs1
        · rcases List.mem_append.mp hq with hq | hq
          · exact (Nat.ne_of_lt (e6 _ (.head _) q hq)).symm
          · exact Nat.ne_of_lt (Nat.lt_succ_of_lt (l1 q (.tail _ hq)))
    have offJ : ∀ (o oc oJ : Obj) (ad : List (Addr × Obj)), OwnOff ad [d2, L1 + 1, J] → ∀ q ∈ (d2, o) :: (L1 + 1, oc) :: (ad ++ ((lf, listOf vs5.toArray n5) :: (src, o5) :: (add5 ++ (pre ++ post)))), ∀ r ∈ [(J, oJ)], q.1 ≠ r.1 := by
      intro o oc oJ ad had q hq r hr
      rw [List.mem_singleton.mp hr]
      rcases mem_cons_s hq with rfl | hq
      · exact Nat.ne_of_lt bJ1
      · rcases mem_cons_s hq with rfl | hq
        · exact Nat.ne_of_lt bJ2
        · rcases List.mem_append.mp hq with hq | hq
          · exact had q hq _ (.tail _ (.tail _ (.head _)))
          · exact Nat.ne_of_lt (lJ0 q hq)
    have hq4 : qs5.length ≤ 4 := by simp only [List.length_nil] at e11; omega
    refine fold_goal (fun gX gk => ?_)
    obtain ⟨k1, k2, k3, k4, k5, k6⟩ := drawn_facts e5 hq4
    refine gk ?_
    clear gk gX
    refine items_ind (SrInv prog w ((lf, listOf vs5.toArray n5) :: (src, o5) :: (add5 ++ (pre ++ post))) qs5 lf d2 (L1 + 1) J (drawn qs5)) ?_ ?_ _ _ _ ?_
    · intro m9 nx h9 tk9 hJ F9 N9
      refine fold_goal (fun gX gk => ?_)
      obtain ⟨ys9, oc9, x9, od9, kvs9, R9, add9, i1, i2, i3, i4, i5, i6, i7, i8, i9, i10, i11⟩ := hJ
      subst i2
      have i1' : ys9 = [] := by simpa using i1.symm
      subst i1'
      have F10 := fr_look [(Str.ofString "rows", .ref d2), (Str.ofString "some", .ref lf)] F9 (by simp [i8, i9])
      dsimp only [look] at F10
      clear F9
      refine gk ?_
      clear gk gX
      (try dsimp only)
      have hRe : R9 = drawn qs5 := i10
      walk_at "mine:steps"
      have F11 : Fr g1 L1 h9 _ := F10
      have N11 : News g1 L1 h9 ((d2, od9) :: (L1 + 1, oc9) :: (add9 ++ ((lf, listOf vs5.toArray n5) :: (src, o5) :: (add5 ++ (pre ++ post))))) := N9
      refine' orect_c (kn := (lf, listOf vs5.toArray n5) :: add5) (qs := qs5) B1 F11 X1 N11 ?zk T1 rfl ?zd ?zu (DatIn.list (.head _) (DatAll.mono (fun q hq => .tail _ hq) e4)) k3 k4 k5 k6 ?_
      (case zk =>
        intro q hq
        (first | (refine sub_in hq ?_; walk_at "mine:in"; done) | (trace "GRINDBACK"; simp only [List.mem_cons, List.mem_append] at hq ⊢; grind only)))
      (case zd => walk_at "mine:room")
      (case zu => walk_at "mine:units")
      intro r12 add12 h12 tk12 G12 F12 N12 l12 hr12 hG12
      have hr12' := hr12
      refine fold_goal (fun gX gk => ?_)
      obtain ⟨x12, dx12, d12, od12, hs12, t12, n12, kv12, rfl, hy1, hy2, hy3, hy4, hy5, hy6⟩ := hr12
      refine gk ?_
      clear gk gX
      walk_at "mine:steps"
      have hDI : DictIn prog w (add12 ++ ((d2, od9) :: (L1 + 1, oc9) :: (add9 ++ ((lf, listOf vs5.toArray n5) :: (src, o5) :: (add5 ++ (pre ++ post)))))) (.ref d2) (drawn qs5) := by
        refine ⟨d2, od9, kvs9, rfl, List.mem_append_right _ (.head _), i4, ?_, lo7⟩
        rw [← hRe]
        exact i5.mono fun q hq => List.mem_append_right _ (.tail _ (.tail _ (List.mem_append_left _ hq)))
      have hRI : RegIs G12 (rowAt (drawn qs5)) := ⟨hG12.1, hG12.2.1, fun y => (hG12.2.2 y).trans (k2 y).symm⟩
      refine' right_c (kn := add12 ++ ((d2, od9) :: (L1 + 1, oc9) :: (add9 ++ ((lf, listOf vs5.toArray n5) :: (src, o5) :: (add5 ++ (pre ++ post)))))) (G := G12) (R := drawn qs5) B1 F12 X1 N12 (fun q hq => hq) T1 rfl ?zd ?zu hr12' hDI hRI k1 ?_
      (case zd => walk_at "mine:room")
      (case zu => walk_at "mine:units")
      intro h14 tk14 F14 N14
      walk_at "mine:steps"
      rename News h₀ _ _ _ => N15
      rename Fr h₀ _ _ _ => F15
      refine ret o5 _ _ e3 F15 ?_
      rw [hg]
      intro q hq
      refine N15 q ?_
      (first | (refine sub_in hq ?_; walk_at "mine:in"; done) | (trace "GRINDBACK"; simp only [List.mem_cons, List.mem_append] at hq ⊢; grind only))
    · intro it r m9 nx hJ v9 h9 tk9 hit F9 oJ hoJ N9
      refine fold_goal (fun gX gk => ?_)
      obtain ⟨ys9, oc9, x9, od9, kvs9, R9, add9, i1, i2, i3, i4, i5, i6, i7, i8, i9, i10, i11⟩ := hJ
      subst i2
      cases ys9 with
      | nil => simp at i1
      | cons y9 ys9 =>
        simp only [List.map_cons, List.cons.injEq] at i1
        obtain ⟨rfl, rfl⟩ := i1
        obtain ⟨ty9, rfl⟩ := hit
        have F10 := fr_look [(Str.ofString "rows", .ref d2), (Str.ofString "some", .ref lf)] F9 (by simp [i8, i9])
        dsimp only [look] at F10
        clear F9
        have N10 : News g1 L1 h9 ((J, oJ) :: (d2, od9) :: (L1 + 1, oc9) :: (add9 ++ ((lf, listOf vs5.toArray n5) :: (src, o5) :: (add5 ++ (pre ++ post))))) := N9
        clear N9
        have offc9 : ∀ q ∈ add9 ++ ((lf, listOf vs5.toArray n5) :: (src, o5) :: (add5 ++ (pre ++ post))), q.1 ≠ L1 + 1 := fun q hq => (List.mem_append.mp hq).elim (fun h => i7 q h _ (.tail _ (.head _))) (offc q)
        have offd9 : ∀ q ∈ add9 ++ ((lf, listOf vs5.toArray n5) :: (src, o5) :: (add5 ++ (pre ++ post))), q.1 ≠ d2 := fun q hq => (List.mem_append.mp hq).elim (fun h => i7 q h _ (.head _)) (offd q)
        refine gk ?_
        clear gk gX
        (try dsimp only)
        walk_at "mine:steps"
        rename_i h11 o11 F11 N11 d11
        refine comp_rule F11 (by with_unfolding_all rfl) (by decide) (by rfl) (by decide) ?_
        walk_at "mine:steps"
        have hvl := e4.length
        rw [List.length_map] at hvl
        refine comp_list rfl F11 N11 (.tail _ (.tail _ (.tail _ (List.mem_append_right _ (.head _))))) rfl rfl ?_ (fun I12 h12 tk12 l12 => ?_)
        · rw [sizeLine_eq]; omega
        refine comp_ind (fun xs ys nx => Ex4 fun (rs : List Quad) (fs : List (Int × Int)) (us : List Value) (addc : List (Addr × Obj)) => An6 (xs = us.map .val) (DatAll add5 us (rs.map qd)) (nx = addc ++ ((J, oJ) :: (d2, od9) :: (L1 + 1, o11) :: (add9 ++ ((lf, listOf vs5.toArray n5) :: (src, o5) :: (add5 ++ (pre ++ post)))))) (DatAll addc ys (fs.map pd)) (fs ++ rowOfQ rs y9 = rowOfQ qs5 y9) (fs.length + rs.length ≤ 4)) ?_ ?_ _ _ _ ?_
        · intro ys nx hI0 D13 h13 tk13 F13 N13 o13
          refine fold_Q ?_
          intro qF1
          refine fold_E ?_
          intro eF1
          refine fold_A ?_
          intro aF1
          refine fold_goal (fun gX gk => ?_)
          obtain ⟨rs, fs, us, addc, x1, x2, rfl, x4, x5, x6⟩ := hI0
          have x1' : us = [] := by simpa using x1.symm
          subst x1'
          have x2' : rs = [] := by simpa using x2.length.symm
          subst x2'
          have hfs : fs = rowOfQ qs5 y9 := by simpa [rowOfQ] using x5
          refine gk ?_
          clear gk gX
          walk_at "mine:steps"
          have hdat : DatIn ((D13, lst ys) :: addc) (.ref D13) (.list (fs.map pd)) := DatIn.list (n := ys.length) (.head _) (DatAll.mono (fun q hq => .tail _ hq) x4)
          have hkk : ∀ q ∈ (D13, lst ys) :: addc, q ∈ (D13, lst ys) :: (addc ++ ((J, oJ) :: (d2, od9) :: (L1 + 1, o11) :: (add9 ++ ((lf, listOf vs5.toArray n5) :: (src, o5) :: (add5 ++ (pre ++ post)))))) := by
            intro q hq
            (first | (refine sub_in hq ?_; walk_at "mine:in"; done) | (trace "GRINDBACK"; simp only [List.mem_cons, List.mem_append] at hq ⊢; grind only))
          have hf4 : fs.length ≤ 64 := by omega
          refine' spans_c (kn := (D13, lst ys) :: addc) (ps := fs) B1 F13 X1 N13 hkk T1 rfl ?zd ?zu hdat hf4 ?_
          (case zd => walk_at "mine:room")
          (case zu => walk_at "mine:units")
          intro r14 add14 h14 tk14 F14 N14 l14 dat14
          have gJ := l14 (J, oJ) (.tail _ (List.mem_append_right _ (.head _)))
          have gd := l14 (d2, od9) (.tail _ (List.mem_append_right _ (.tail _ (.head _))))
          have gc := l14 (L1 + 1, o11) (.tail _ (List.mem_append_right _ (.tail _ (.tail _ (.head _)))))
          have N15 : News g1 L1 h14 ((J, oJ) :: (d2, od9) :: (L1 + 1, o11) :: (add14 ++ (add9 ++ ((lf, listOf vs5.toArray n5) :: (src, o5) :: (add5 ++ (pre ++ post)))))) := by
            intro q hq
            refine N14 q ?_
            (first | (refine sub_in hq ?_; walk_at "mine:in"; done) | (trace "GRINDBACK"; simp only [List.mem_cons, List.mem_append] at hq ⊢; grind only))
          have offX : ∀ q ∈ (L1 + 1, o11) :: (add14 ++ (add9 ++ ((lf, listOf vs5.toArray n5) :: (src, o5) :: (add5 ++ (pre ++ post))))), q.1 ≠ d2 := by
            intro q hq
            rcases mem_cons_s hq with rfl | hq
            · exact Nat.ne_of_lt (Nat.lt_trans l2.1 hlf7)
            · rcases List.mem_append.mp hq with hq | hq
              · exact (Nat.ne_of_lt (gd q hq)).symm
              · exact offd9 q hq
          clear N14
          have hkl := i5.length
          simp only [List.length_cons] at i11
          walk_at "mine:steps"
          rename_i hF oF FF NF dF
          have hrows : RowsIn (add14 ++ add9) (stored kvs9 y9 r14) (drawnStep qs5 R9 y9) := by
            rw [hfs] at dat14
            exact (i5.mono fun q hq => List.mem_append_right _ hq).stored y9 (DatIn.mono (fun q hq => List.mem_append_left _ hq) dat14)
          have hoff : OwnOff (add14 ++ add9) [d2, L1 + 1, J] := by
            intro q hq r hr
            rcases List.mem_append.mp hq with hq | hq
            · rcases mem_cons_s hr with rfl | hr
              · exact (Nat.ne_of_lt (gd q hq)).symm
              · rcases mem_cons_s hr with rfl | hr
                · exact (Nat.ne_of_lt (gc q hq)).symm
                · rw [List.mem_singleton.mp hr]
                  exact (Nat.ne_of_lt (gJ q hq)).symm
            · exact i7 q hq r hr
          refine unr_mk _ _ _ ((d2, oF) :: (L1 + 1, o11) :: ((add14 ++ add9) ++ ((lf, listOf vs5.toArray n5) :: (src, o5) :: (add5 ++ (pre ++ post))))) rfl FF ?_ (offJ _ _ _ _ hoff) trivial ⟨ys9, o11, _, oF, stored kvs9 y9 r14, drawnStep qs5 R9 y9, add14 ++ add9, rfl, rfl, d11, dF, hrows, ?_, hoff, rfl, rfl, i10, ?_⟩
          · intro q hq
            refine NF q ?_
            (first | (refine sub_in hq ?_; walk_at "mine:in"; done) | (trace "GRINDBACK"; simp only [List.mem_cons, List.mem_append, List.cons_append, List.nil_append] at hq ⊢; grind only))
          · intro q hq r hr
            rcases List.mem_append.mp hr with hr | hr
            · refine l14 q ?_ r hr
              (first | (refine sub_in hq ?_; walk_at "mine:in"; done) | (trace "GRINDBACK"; simp only [List.mem_cons, List.mem_append] at hq ⊢; grind only))
            · exact i6 q hq r hr
          · have := rput_length R9 y9 (drawnRow qs5 y9)
            simp only [drawnStep]
            omega
        · intro it r ys nx hI0 v15 C15 oC15 m15 D15 h15 tk15 E15 hv15 hoC15 F15 hCD oI15 hoI15 N15 o15 o15'
          refine fold_Q ?_
          intro qF2
          refine fold_E ?_
          intro eF2
          refine fold_A ?_
          intro aF2
          refine fold_goal (fun gX gk => ?_)
          obtain ⟨rs, fs, us, addc, x1, x2, rfl, x4, x5, x6⟩ := hI0
          cases us with
          | nil => simp at x1
          | cons u us =>
            simp only [List.map_cons, List.cons.injEq] at x1
            obtain ⟨rfl, rfl⟩ := x1
            have hu : v15 = u := hv15
            subst hu
            cases rs with
            | nil => cases x2
            | cons qq rs =>
              cases x2
              rename_i x2 x7
              obtain ⟨t, ta, tb, tc, td, n9, rfl, ht⟩ := dat_quad x2
              have ht1 : (t, ({ cls := .type "tuple", data := .seq [Value.int qq.1 ta, Value.int qq.2.1 tb, Value.int qq.2.2.1 tc, Value.int qq.2.2.2 td].toArray n9 } : Obj)) ∈ addc ++ ((J, oJ) :: (d2, od9) :: (L1 + 1, o11) :: (add9 ++ ((lf, listOf vs5.toArray n5) :: (src, o5) :: (add5 ++ (pre ++ post))))) := by
                (first | (walk_at "mine:leafm"; done) | (trace "GRINDBACK"; simp only [List.mem_cons, List.mem_append]; grind only))
              have hcm : (L1 + 1, o11) ∈ addc ++ ((J, oJ) :: (d2, od9) :: (L1 + 1, o11) :: (add9 ++ ((lf, listOf vs5.toArray n5) :: (src, o5) :: (add5 ++ (pre ++ post))))) := List.mem_append_right _ (.tail _ (.tail _ (.head _)))
              refine gk ?_
              clear gk gX
              refine comp_asg1 (pre := [(I12, oI15)]) (by rfl) (by rfl) hoC15 F15 N15 ?_ ?_ (fun oC16 m16 h16 tk16 hoC16 hm16 F16 N16 => ?_)
              · intro q hq
                exact (o15' q hq).1
              · intro q hq
                rcases mem_cons_s hq with rfl | hq
                · exact Ne.symm hCD
                · exact (o15 q hq).2.1
              refine wpAny_tests_one ?_
              walk_at "mine:steps"
              · rename_i hle hlt D17 h17 F17 N17 l17
                have hc : covq y9 qq = true := by
                  simp only [covq, Bool.and_eq_true, decide_eq_true_eq]
                  omega
                rw [rowOfQ_cons, if_pos hc] at x5
                refine fold_goal (fun gX gk => ?_)
                obtain ⟨u1, u2, N17⟩ : ∃ u1 u2, News g1 L1 h17 ((D17, tup2 qq.1 u1 (qq.1 + qq.2.2.1) u2) :: ([(I12, oI15)] ++ (C15, oC16) :: (D15, lst ys) :: (addc ++ ((J, oJ) :: (d2, od9) :: (L1 + 1, o11) :: (add9 ++ ((lf, listOf vs5.toArray n5) :: (src, o5) :: (add5 ++ (pre ++ post)))))))) := ⟨_, _, N17⟩
                refine gk ?_
                clear gk gX
                refine ⟨_, _, oC16, m16, ((D17, tup2 qq.1 u1 (qq.1 + qq.2.2.1) u2) :: addc) ++ ((J, oJ) :: (d2, od9) :: (L1 + 1, o11) :: (add9 ++ ((lf, listOf vs5.toArray n5) :: (src, o5) :: (add5 ++ (pre ++ post))))), rfl, F17, hoC16, ?_, ?_, ⟨List.mem_append_right _ (.tail _ (.tail _ (.tail _ (List.mem_append_right _ (.head _))))), trivial⟩, rs, fs ++ [(qq.1, qq.1 + qq.2.2.1)], us, (D17, tup2 qq.1 u1 (qq.1 + qq.2.2.1) u2) :: addc, rfl, x7, rfl, ?_, ?_, ?_⟩
                · intro q hq
                  refine N17 q ?_
                  (first | (refine sub_in hq ?_; walk_at "mine:in"; done) | (trace "GRINDBACK"; simp only [List.mem_cons, List.mem_append, List.cons_append, List.nil_append] at hq ⊢; grind only))
                · intro q hq
                  rcases mem_cons_s hq with rfl | hq
                  · refine ⟨fun r hr => ?_, ?_, ?_⟩
                    · rw [List.mem_singleton.mp hr]
                      exact (Nat.ne_of_lt (l17 _ (.head _))).symm
                    · exact (Nat.ne_of_lt (l17 _ (.tail _ (.head _)))).symm
                    · exact (Nat.ne_of_lt (l17 _ (.tail _ (.tail _ (.head _))))).symm
                  · exact o15 q hq
                · rw [List.map_append]
                  exact DatAll.append (DatAll.mono (fun q hq => .tail _ hq) x4) (DatAll.one (tup2_dat (.head _)))
                · rw [List.append_assoc]; exact x5
                · simp only [List.length_append, List.length_cons, List.length_nil] at x6 ⊢
                  omega
              · have hc : ¬ covq y9 qq = true := by
                  simp only [covq, Bool.and_eq_true, decide_eq_true_eq]
                  omega
                rw [rowOfQ_cons, if_neg hc, List.nil_append] at x5
                simp only [List.length_cons] at x6
                exact ⟨_, _, oC16, m16, addc ++ ((J, oJ) :: (d2, od9) :: (L1 + 1, o11) :: (add9 ++ ((lf, listOf vs5.toArray n5) :: (src, o5) :: (add5 ++ (pre ++ post))))), rfl, F16, hoC16, N16, o15, ⟨List.mem_append_right _ (.tail _ (.tail _ (.tail _ (List.mem_append_right _ (.head _))))), trivial⟩, rs, fs, us, addc, rfl, x7, rfl, x4, x5, by omega⟩
              · have hc : ¬ covq y9 qq = true := by
                  simp only [covq, Bool.and_eq_true, decide_eq_true_eq]
                  omega
                rw [rowOfQ_cons, if_neg hc, List.nil_append] at x5
                simp only [List.length_cons] at x6
                exact ⟨_, _, oC16, m16, addc ++ ((J, oJ) :: (d2, od9) :: (L1 + 1, o11) :: (add9 ++ ((lf, listOf vs5.toArray n5) :: (src, o5) :: (add5 ++ (pre ++ post))))), rfl, F16, hoC16, N16, o15, ⟨List.mem_append_right _ (.tail _ (.tail _ (.tail _ (List.mem_append_right _ (.head _))))), trivial⟩, rs, fs, us, addc, rfl, x7, rfl, x4, x5, by omega⟩
        · exact ⟨qs5, [], vs5, [], rfl, e4, rfl, .nil, rfl, by simpa using hq4⟩
    · exact ⟨rangeKs (-2) 11, o1, _, od7, [], [], [], rfl, rfl, d1, hi7, .nil, (fun _ _ _ h => nomatch h), (fun _ h => nomatch h), rfl, rfl, rfl, by decide⟩
  · intro it r m5 nx hI v5 h5 tk5 hit F5 oI hoI N5
    refine fold_Q ?_
    intro qF3
    refine fold_E ?_
    intro eF3
    refine fold_A ?_
    intro aF3
    refine fold_goal (fun gX gk => ?_)
    obtain ⟨o5, vs5, n5, add5, qs5, e1, e2, e3, e4, e5, e6, e7, e8, e9, e10, e11⟩ := hI
    subst e2
    obtain ⟨f5, rfl⟩ := e1 it (.head _)
    obtain ⟨t5, rfl⟩ := hit
    have F6 := fr_look [(Str.ofString "some", .ref lf), (Str.ofString "source", .ref src)] F5 (by simp [e9, e10])
    dsimp only [look] at F6
    clear F5
    have N6 : News g1 L1 h5 ((I, oI) :: (lf, listOf vs5.toArray n5) :: (src, o5) :: (add5 ++ ((L1 + 1, o1) :: (pre ++ post)))) := N5
    clear N5
    have off5 : ∀ q ∈ add5 ++ ((L1 + 1, o1) :: (pre ++ post)), q.1 ≠ src := fun q hq => (List.mem_append.mp hq).elim (fun h => e8 q h _ (.tail _ (.head _))) (offs q)
    have offf5 : ∀ q ∈ add5 ++ ((L1 + 1, o1) :: (pre ++ post)), q.1 ≠ lf := fun q hq => (List.mem_append.mp hq).elim (fun h => e8 q h _ (.head _)) (offf q)
    have hsz : vs5.length ≤ 24 := by
      have := e4.length
      rw [List.length_map] at this
      omega
    refine gk ?_
    clear gk gX
    (try dsimp only)
    walk_at "mine:steps"
    rename_i x0 y0 r1 tr1 oa ha ta za1 za2 hoa r2 tr2 ob hb tb zb1 zb2 hob r3 tr3 oc hc tc zc1 zc2 hoc r4 tr4 od hd4 td zd1 zd2 hod lD hA9 l9 hB9 F9 N9
    rw [List.push_toArray] at N9
    refine fold_goal (fun gX gk => ?_)
    obtain ⟨u1, u2, u3, u4, N9⟩ : ∃ u1 u2 u3 u4, News g1 L1 hB9 ((lD, tup4 (r1 - 3) u1 (r2 - 1) u2 r3 u3 r4 u4) :: (I, oI) :: (lf, listOf (vs5 ++ [Value.ref lD]).toArray (n5 + 1)) :: (src, od) :: (add5 ++ ((L1 + 1, o1) :: (pre ++ post)))) := ⟨_, _, _, _, N9⟩
    obtain ⟨p1, p2, p3, p4⟩ := l9
    have p5 := tb_ltOf p4
    refine gk ?_
    clear gk gX
    refine unr_mk _ _ _ ((lf, listOf (vs5 ++ [Value.ref lD]).toArray (n5 + 1)) :: (src, od) :: (((lD, tup4 (r1 - 3) u1 (r2 - 1) u2 r3 u3 r4 u4) :: add5) ++ ((L1 + 1, o1) :: (pre ++ post)))) rfl F9 ?_ ?_ trivial ⟨od, vs5 ++ [Value.ref lD], n5 + 1, (lD, tup4 (r1 - 3) u1 (r2 - 1) u2 r3 u3 r4 u4) :: add5, qs5 ++ [(r1 - 3, r2 - 1, r3, r4)], fun q hq => e1 q (.tail _ hq), rfl, hod, ?_, ?_, ?_, ?_, ?_, rfl, rfl, ?_⟩
    · intro q hq
      refine N9 q ?_
      (first | (refine sub_in hq ?_; walk_at "mine:in"; done) | (trace "GRINDBACK"; simp only [List.mem_cons, List.mem_append, List.nil_append, List.cons_append, List.not_mem_nil, or_false, false_or] at hq ⊢; grind only))
    · intro q hq r' hr'
      rw [List.mem_singleton.mp hr']
      simp only [List.mem_cons, List.mem_append, List.cons_append] at hq
      rcases hq with rfl | rfl | rfl | hq | hq
      · exact Nat.ne_of_lt bI1
      · exact Nat.ne_of_lt bI2
      · exact (Nat.ne_of_lt p1).symm
      · exact e8 q hq _ (.tail _ (.tail _ (.head _)))
      · refine Nat.ne_of_lt (lI0 q ?_)
        simp only [List.mem_cons, List.mem_append]
        exact hq
    · rw [List.map_append]
      exact DatAll.append (DatAll.mono (fun q hq => .tail _ hq) e4) (DatAll.one (tup4_dat (.head _)))
    · intro q hq
      rcases List.mem_append.mp hq with hq | hq
      · exact e5 q hq
      · rw [List.mem_singleton.mp hq]
        simp only [okQuad]
        omega
    · intro q hq r' hr'
      rcases mem_cons_s hr' with rfl | hr'
      · exact p5 q (List.mem_append_right _ hq)
      · exact e6 q hq r' hr'
    · intro r' hr'
      rcases mem_cons_s hr' with rfl | hr'
      · exact p3
      · exact e7 r' hr'
    · intro q hq r' hr'
      rcases mem_cons_s hq with rfl | hq
      · rcases mem_cons_s hr' with rfl | hr'
        · exact (Nat.ne_of_lt p2).symm
        rcases mem_cons_s hr' with rfl | hr'
        · exact (Nat.ne_of_lt p3).symm
        rw [List.mem_singleton.mp hr']
        exact (Nat.ne_of_lt p1).symm
      · exact e8 q hq r' hr'
    · simp only [List.length_append, List.length_cons, List.length_nil] at e11 ⊢
      omega
  · refine ⟨oo, [], 0, [], [], ?_, rfl, hoo, .nil, (fun _ h => nomatch h), (fun _ _ _ h => nomatch h), (fun _ h => nomatch h), (fun _ h => nomatch h), rfl, rfl, ?_⟩
    · intro it hit
      refine fold_goal (fun gX gk => ?_)
      obtain ⟨k, _, rfl⟩ := List.mem_map.mp hit
      refine gk ?_
      clear gk gX
      exact ⟨_, rfl⟩
    · simp only [rangeItms, List.length_map, rangeKs_length, List.length_nil]
      omega
end
end
section
theorem reset_PPool : True := by
  w_top off
  trivial
local macro_rules | `(tactic| walk_at "call ref") => `(tactic| (k_here; (with_reducible show wpAny _ _ (call (Value.ref 172) [Value.ref _, Value.int _ _]) _ _ _); k_dflt (refine' take_c ?b ?f ?x ?n ?u ?o ?t ?k ?d ?c ?y ?z ?_; (case b => k_asm); (case f => k_asm); (case x => k_asm); (case n => k_asm); (case u => k_updF); (case o => assumption); (case t => k_asm); (case k => first | exact rfl | assumption); (case d => walk_at "mine:room"); (case c => walk_at "mine:units"); (case y => first | omega | (simp only [List.size_toArray]; omega)); (case z => first | omega | (simp only [List.size_toArray]; omega)); k_whole); intro r' tr' o' h' tk' hr0' hr1' ho' F' N'; (try simp only [List.size_toArray] at hr1'); (try dsimp only at N'); (try k_sweep); (try dsimp only)))
section
variable {prog : Program} {w : World} {p : Program} {loose : List Str} {mean : ExcName → Option Value} {mg mb : Str → Option Value}
theorem pool_c {dp un : Nat} {gd : Option (List Code)} {cn : Str} {cs : Scope} {a : Addr} {ccd : Value} {cl : List (Str × Addr)} {outer : List Env} {A₀ : Around} {base h₀ : Heap} {L : Addr} {m : Str → Option Value} {s : Shared}
    {Q E : Value → Shared → Prop} {l : Addr} {vs : List Value} {ns : List Int} {t : Tok} {news : List (Addr × Obj)}
    (B : Below A₀ base outer h₀) (F : Fr h₀ L s.heap m) (X : (hd.heap_1 w.params).In h₀) (N : News h₀ L s.heap news)
    (T : Top p loose mean mg mb h₀) (hk : cs.kind = .function) (hd : dp + 1 < recursionLimit) (hu : un + 100 < cLine) (hl : h₀.IsList l vs.toArray) (hI : IntsAre vs ns) (hn : ¬ ((63 : Nat) : Int) < (ns.length : Int))
    (ret : ∀ src o h' tk', Fr h₀ L h' m → News h₀ L h' ((src, o) :: news) → (∀ q ∈ news, q.1 < src) → SrcObj o → Q (.ref src) {s with heap := h', toks := tk'}) :
    wpAny (model prog w) (ktrTop dp un gd cn cs L a ccd cl outer) (call (.ref 165) [.ref l, .int 0 t]) Q E s := by
  refine wpAny_call ?_
  k_dflt (walk_at "mine:enter")
  rename_i g1 L1 h1 FG1 F1 N1 B1 X1 T1
  have hlg : g1.IsList l vs.toArray := hl.at fun o e => FG1.keep _ o e
  walk_at "mine:steps"
  all_goals (
    rename News h₀ _ _ _ => N9
    rename Fr h₀ _ _ _ => F9
    rename ∀ q ∈ news, q.1 < _ => l9
    refine ret _ _ _ _ F9 N9 l9 ⟨_, _, _, _, _, rfl, ?_, ?_⟩
    · exact Int.mul_nonneg (by split <;> omega) (by split <;> omega)
    · exact Int.fmod_nonneg_of_pos _ (by decide))
end
end
section
theorem reset_PEnum : True := by
  w_top off
  trivial
section
variable {prog : Program} {w : World} {A : Around} {E : Value → Shared → Prop} {s : Shared} {h₀ : Heap} {L : Addr} {m : Str → Option Value} {env : Env} {news : List (Addr × Obj)}
theorem src_enum {elts : List PySem.Expr} {k : Nat} {pos : Pos} {ax : Addr} {lo : Obj} {vs : List Value} {n : Nat} {Q : Value → Shared → Prop}
    (hh : A.handled = none) (F : Fr h₀ L s.heap m) (N : News h₀ L s.heap news) (hm : (ax, lo) ∈ news) (hc : lo.cls = .type "list") (hd : lo.data = .seq vs.toArray n)
    (kk : ∀ I h', Fr h₀ L h' m → News h₀ L h' news → (∀ p ∈ news, p.1 < I) → SrcAt prog w A (.Tuple elts k pos) h₀ L (I + 1) [(I + 1, "enumerate"), (I, "list_iterator")] [(ax, lo)] (enumItems 0 vs) news h' → Q (.ref (I + 1)) { s with heap := h' }) :
    wpAny (model prog w) A (call (.type "enumerate") [.ref ax]) (fun xv s₁ => wpAny (model prog w) A (pyIter xv) Q E s₁) E s := by
  have hax := N _ hm
  have hl : s.heap.IsList ax vs.toArray := ⟨lo, hax.1, hc, n, hd⟩
  have hlt : ax < s.heap.objs.size := Heap.lt_size hax.1
  have hLs : L < s.heap.objs.size := F.ns.lt
  refine call_enumerate_list hl fun h' hE hI hsz hk => ?_
  refine wpAny_pyIter_enum hE ?_
  have W := (WalksT.enumerate (prog := prog) (w := w) hh (s.heap.objs.size + 1) s.heap.objs.size ax (Nat.succ_ne_self _) (ktu_ne 1 hlt) (Nat.ne_of_lt hlt) vs.toArray).toU
  have e : vs.toArray.size = (enumItems 0 vs).length := by simp [enumItems_length]
  rw [e] at W
  refine kk _ _ (F.keeps hk) (N.grown hk) (fun p hp => Heap.lt_size (N p hp).1) ⟨_, _, _, _, _, ⟨KTurns.ofWalksU W, W.self, ?_, ?_, ?_, ?_, ?_⟩, ⟨⟨.none, hE⟩, hI, hl.at fun o e => hk ax o e⟩, ?_, ?_, ⟨hm, trivial⟩⟩
  · intro i v h hI0
    refine fold_goal (fun gX gk => ?_)
    obtain ⟨T, vals, rfl, ⟨t, x, hx, rfl⟩, hT⟩ := hI0
    refine gk ?_
    clear gk gX
    refine ⟨_, enumItems_get vs 0 i (v := x) (by simpa using hx), T, t, rfl, ?_⟩
    show IsTup h T #[.int ((0 + i : Nat) : Int) t, x]
    rw [Nat.zero_add]
    exact hT
  · intro i h hI0
    refine fold_goal (fun gX gk => ?_)
    obtain ⟨⟨old, he⟩, ⟨oi, hoi, hic, _⟩, _⟩ := hI0
    have he' : ∃ oe : Obj, h.get? (s.heap.objs.size + 1) = some oe ∧ oe.cls = .type "enumerate" := ⟨_, he, rfl⟩
    obtain ⟨oe, h1, h2⟩ := he'
    refine gk ?_
    clear gk gX
    refine ⟨[(s.heap.objs.size + 1, oe), (s.heap.objs.size, oi)], ⟨⟨rfl, h2⟩, ⟨rfl, hic⟩, trivial⟩, fun p hp => ?_⟩
    rcases mem_cons_s hp with rfl | hp
    · exact h1
    · rw [List.mem_singleton.mp hp]; exact hoi
  · intro b hb
    have hb' : b = s.heap.objs.size + 1 ∨ b = s.heap.objs.size := by simpa using hb
    rcases hb' with rfl | rfl
    · exact ⟨by simp, ktu_new F (Nat.le_add_right _ _)⟩
    · exact ⟨by simp, ktu_new F (Nat.le_refl _)⟩
  · intro b hb
    simpa using hb
  · intro b hb
    have hb' : b = s.heap.objs.size + 1 ∨ b = s.heap.objs.size ∨ b = ax := by simpa using hb
    rcases hb' with rfl | rfl | rfl
    · exact .inl (by simp)
    · exact .inl (by simp)
    · exact .inr ⟨lo, by simp⟩
  · intro b hb
    have hb' : b = s.heap.objs.size + 1 ∨ b = s.heap.objs.size := by simpa using hb
    rcases hb' with rfl | rfl
    · exact ⟨by rw [hsz]; exact Nat.lt_succ_self _, (ktu_ne 1 hLs).symm⟩
    · exact ⟨by rw [hsz]; exact Nat.lt_succ_of_lt (Nat.lt_succ_self _), (Nat.ne_of_lt hLs).symm⟩
  · intro p hp hI'
    have hb' : p.1 = s.heap.objs.size + 1 ∨ p.1 = s.heap.objs.size := by simpa using hI'
    have hlp := Heap.lt_size (N p hp).1
    rcases hb' with e | e
    · exact ktu_ne 1 hlp e
    · exact Nat.ne_of_lt hlp e
theorem comp_enum {elt : PySem.Expr} {elts : List PySem.Expr} {k : Nat} {pos : Pos} {ifs : List PySem.Expr} {scope : Scope} {cl : List (Str × Addr)} {ax : Addr} {lo : Obj} {vs : List Value} {n : Nat} {Q : Value → Shared → Prop}
    (hh : A.handled = none) (F : Fr h₀ L s.heap m) (N : News h₀ L s.heap news) (hm : (ax, lo) ∈ news) (hc : lo.cls = .type "list") (hd : lo.data = .seq vs.toArray n) (hsz : vs.length ≤ sizeLine)
    (kk : ∀ I g t, (∀ p ∈ news, p.1 < I) → CRest prog w A h₀ L m env elt (.Tuple elts k pos) ifs scope cl { s with heap := g, toks := t } [(I + 1, "enumerate"), (I, "list_iterator")] [(ax, lo)] (CFin h₀ L m { s with heap := g, toks := t } Q) (enumItems 0 vs) [] news) :
    wpAny (model prog w) A (call (.type "enumerate") [.ref ax]) (fun xv s₁ => wpAny (model prog w) A (pyIter xv) (CompAt prog w A h₀ L m env elt (.Tuple elts k pos) ifs scope cl Q) E s₁) E s :=
  src_enum hh F N hm hc hd fun I h' F' N' l' S' => ⟨I + 1, _, _, _, news, rfl, S', F', N', by simpa [enumItems_length] using hsz, fun _ ⟨g, t, e⟩ => e ▸ kk I g t l'⟩
end
end
section
theorem reset_POrows : True := by
  w_top off
  trivial
local macro_rules | `(tactic| walk_at "subscriptTail") => `(tactic| (k_here; (with_reducible show wpAny _ _ (subscriptTail _ _ (Value.ref _) (Value.int (-1) _)) _ _ _); k_dflt (refine' item_last ?l ?a ?_ ?e; (case l => k_asm); (case a => k_mem); (case e => with_unfolding_all rfl); k_whole)))
local macro_rules | `(tactic| walk_at "setItem ref int") => `(tactic| (k_here; (with_reducible show wpAny _ _ (setItem (Value.ref _) (Value.int (-1) _) _) _ _ _); k_dflt (refine' set_last ?k1 ?k2 ?k3 ?_; (case k1 => k_asm); (case k2 => k_asm); (case k3 => k_upd); k_whole); intro h' F' N'; (try k_sweep)))
local macro_rules | `(tactic| walk_at "subscriptTail") => `(tactic| (k_here; (with_reducible show wpAny _ _ (subscriptTail _ _ (Value.ref _) (Value.int _ _)) _ _ _); k_dflt (refine' rows_item ?N ?kn ?hD ?hm ?hl ?_ ?hs ?hg; (case hD => assumption); (case N => k_asm); (case kn => walk_at "mine:known"); (case hm => k_mem); (case hl => assumption); (case hs => with_unfolding_all rfl); (case hg => (intro _; with_unfolding_all rfl)); k_whole); intro l' vs' n' hl' hm' hv' hn'))
local macro_rules | `(tactic| walk_at "getMethod ref") => `(tactic| (k_here; k_dflt (refine' rows_get_method ?N ?hD ?hm ?_; (case hD => assumption); (case N => k_asm); (case hm => k_mem); k_whole)))
local macro_rules | `(tactic| walk_at "call builtin:dict.get") => `(tactic| (k_here; k_dflt (refine' rows_get ?N ?kn ?hD ?hm ?hx ?_; (case hD => assumption); (case N => k_asm); (case kn => walk_at "mine:known"); (case hm => k_mem); (case hx => k_mem); k_whole); intro l' vs' n' hm' hv' hn'))
local macro_rules | `(tactic| walk_at "mine:known") => `(tactic| first | assumption | (intro q hq; first | exact List.mem_append_right _ (by solve_by_elim) | (simp only [List.mem_cons, List.mem_append] at hq ⊢; grind only)))
local macro_rules | `(tactic| walk_at "setItem ref int") => `(tactic| (k_here; (with_reducible show wpAny _ _ (setItem (Value.ref _) (Value.int _ _) _) _ _ _); k_dflt (refine' kda_set (knd := PySem.intKind _ _) ?F ?N ?U ?hd ?hk ?hz ?_; (case F => k_asm); (case N => k_asm); (case U => k_updF); (case hd => assumption); (case hk => exact intKind_is _ _ _ _); (case hz => (rw [sizeLine_eq]; omega)); k_whole); intro h' o' F' N' hd'; (try dsimp only at N'); (try k_sweep)))
local macro_rules | `(tactic| walk_at "call type:list") => `(tactic| (k_here; (with_reducible show wpAny _ _ (call (Value.type "list") [Value.ref _]) _ _ _); k_dflt (first
  | (refine' list_copyK ?k1 ?k2 ?k3 ?_ ?z; (case k1 => k_asm); (case k2 => k_asm); (case k3 => exact News.isList (by k_asm) (by k_mem)); (case z => (simp only [List.size_toArray, sizeLine_eq]; omega)); k_whole; intro D' c' h' F' N' l1; (try k_lt l1); (try k_sweep))
  | (refine' rows_list ?hh ?F ?N ?hp ?hd ?lo ?hn ?_; (case hh => exact rfl); (case F => k_asm); (case N => k_asm); (case hp => k_mem); (case hd => assumption); (case lo => assumption); (case hn => omega); k_whole; intro D' c' h' tk' vs' F' N' l1 hi'; (try k_lt l1); (try k_sweep)))))
local macro_rules | `(tactic| walk_at "call builtin:sum") => `(tactic| (k_here; (with_reducible show wpAny _ _ (call (Value.builtin "sum") [Value.ref _]) _ _ _); k_dflt (refine' sum_ints ?F ?N ?hh ?hl ?hi ?_; (case hi => assumption); (case F => k_asm); (case N => k_asm); (case hh => exact rfl); (case hl => exact News.isList (by k_asm) (by k_mem)); k_whole); intro h' tk' t' F' N'; (try k_sweep)))
local macro_rules | `(tactic| walk_at "binaryOp Add ref ref") => `(tactic| (k_here; (with_reducible show wpAny _ _ (binaryOp _ (Value.ref _) (Value.ref _)) _ _ _); k_dflt (refine' list_add_c ?F ?N ?a ?b ?_ ?z; (case F => k_asm); (case N => k_asm); (case a => k_mem); (case b => k_mem); (case z => (simp only [List.length_cons, List.length_nil]; omega)); k_whole); intro D' h' F' N' l1; (try k_lt l1); (try k_sweep)))
local macro_rules | `(tactic| walk_at "mine:stop") => `(tactic| (with_reducible show wpAny _ _ (call (Value.ref 33) _) _ _ _))
section
variable {prog : Program} {w : World} {p : Program} {loose : List Str} {mean : ExcName → Option Value} {mg mb : Str → Option Value}
/-- what a def that tells a row's pairs answers -/
def RowFn (prog : Program) (w : World) (p : Program) (loose : List Str) (mean : ExcName → Option Value) (mg mb : Str → Option Value) (kn : List (Addr × Obj)) (f : Addr) (ok : Int → Prop) (g : Int → List (Int × Int)) : Prop :=
  ∀ {dp un : Nat} {gd : Option (List Code)} {cn : Str} {cs : Scope} {a : Addr} {ccd : Value} {cl : List (Str × Addr)} {outer : List Env} {A₀ : Around} {base h₀ : Heap} {L : Addr} {m : Str → Option Value} {s : Shared}
    {Q E : Value → Shared → Prop} {y : Int} {t : Tok} {news : List (Addr × Obj)},
    Below A₀ base outer h₀ → Fr h₀ L s.heap m → (hd.heap_1 w.params).In h₀ → News h₀ L s.heap news → (∀ p ∈ kn, p ∈ news) → Top p loose mean mg mb h₀ → cs.kind = .function → dp + 1 < recursionLimit → un + 100 < cLine → ok y →
    (∀ v h' tk', Fr h₀ L h' m → News h₀ L h' news → DatIn kn v (pds (g y)) → Q v {s with heap := h', toks := tk'}) →
    wpAny (model prog w) (ktrTop dp un gd cn cs L a ccd cl outer) (call (.ref f) [.int y t]) Q E s
theorem row_fn {kn : List (Addr × Obj)} {f : Addr} {ok : Int → Prop} {g : Int → List (Int × Int)} {dp un : Nat} {gd : Option (List Code)} {cn : Str} {cs : Scope} {a : Addr} {ccd : Value} {cl : List (Str × Addr)} {outer : List Env} {A₀ : Around} {base h₀ : Heap} {L : Addr} {m : Str → Option Value} {s : Shared}
    {Q E : Value → Shared → Prop} {y : Int} {t : Tok} {news : List (Addr × Obj)} (hf : RowFn prog w p loose mean mg mb kn f ok g)
    (B : Below A₀ base outer h₀) (F : Fr h₀ L s.heap m) (X : (hd.heap_1 w.params).In h₀) (N : News h₀ L s.heap news) (hkn : ∀ p ∈ kn, p ∈ news) (T : Top p loose mean mg mb h₀) (hk : cs.kind = .function) (hd : dp + 1 < recursionLimit) (hu : un + 100 < cLine) (hy : ok y)
    (ret : ∀ v h' tk', Fr h₀ L h' m → News h₀ L h' news → DatIn kn v (pds (g y)) → Q v {s with heap := h', toks := tk'}) :
    wpAny (model prog w) (ktrTop dp un gd cn cs L a ccd cl outer) (call (.ref f) [.int y t]) Q E s := by
  unfold RowFn at hf
  exact hf B F X N hkn T hk hd hu hy ret
local macro_rules | `(tactic| walk_at "mine:stop") => `(tactic| first | (with_reducible show wpAny _ _ (call (Value.ref _) [Value.int _ _]) _ _ _) | (with_reducible show wpAny _ _ (call (Value.ref 102) _) _ _ _) | (with_reducible show wpAny _ _ (call (Value.type "dict") _) _ _ _))
theorem orows_c {dp un : Nat} {gd : Option (List Code)} {cn : Str} {cs : Scope} {a : Addr} {ccd : Value} {cl : List (Str × Addr)} {outer : List Env} {A₀ : Around} {base h₀ : Heap} {L : Addr} {m : Str → Option Value} {s : Shared}
    {Q E : Value → Shared → Prop} {top : Int} {n : Nat} {t1 t2 : Tok} {f : Addr} {fn : Int → List (Int × Int)} {kn news : List (Addr × Obj)} {oc : Value} {odd : Option Addr} {fd : FuncData} {sl : Array (Option Value)}
    (B : Below A₀ base outer h₀) (F : Fr h₀ L s.heap m) (X : (hd.heap_1 w.params).In h₀) (N : News h₀ L s.heap news) (hkn : ∀ p ∈ kn, p ∈ news)
    (T : Top p loose mean mg mb h₀) (hk : cs.kind = .function) (hd : dp + 3 < recursionLimit) (hu : un + 300 < cLine) (hfo : (f, (⟨oc, odd, .func fd, sl⟩ : Obj)) ∈ kn) (hf : RowFn prog w p loose mean mg mb kn f (fun y => top ≤ y ∧ y < top + n) fn) (ht1 : -100 ≤ top) (ht2 : top ≤ 100) (hn : n ≤ 20) (hrow : ∀ y, top ≤ y → y < top + n → (fn y).length ≤ 4 ∧ ∀ q ∈ fn y, okB q)
    (ret : ∀ r add h' tk' G, Fr h₀ L h' m → News h₀ L h' (add ++ news) → (∀ q ∈ news, ∀ p ∈ add, q.1 < p.1) → RegionIn prog w add r G → RegIs G (fun y => if top ≤ y ∧ y < top + n then spansOf (fn y) else []) → Q r {s with heap := h', toks := tk'}) :
    wpAny (model prog w) (ktrTop dp un gd cn cs L a ccd cl outer) (call (.ref 116) [.int top t1, .int (n : Int) t2, .ref f]) Q E s := by
  refine wpAny_call ?_
  k_dflt (walk_at "mine:enterC")
  rename_i g1 L1 h1 tk1 FG1 F1 B1 X1 T1 l1 o1 d1 N1
  walk_at "mine:steps"
  refine comp_rule F1 (by with_unfolding_all rfl) (by decide) (by rfl) (by decide) ?_
  walk_at "mine:steps"
  rename_i N1' h3 tk3 z1 z2 z3 R3 F3 N3 k3
  refine comp_range rfl F3 N3 R3 (small_one (by omega) (by omega) (by omega) (by omega)) (n := n) (by rw [rangeSize_nat, show top + (n : Int) - top = n by omega, Int.toNat_natCast]) (by rw [sizeLine_eq]; omega) (fun I6 h6 tk6 l6 => ?_) (fun _ _ _ _ _ q => wpAny_pure q)
  refine comp_ind (fun xs ys nx => Ex4 fun (rs ds : List Int) (r : List (Int × Value)) (add : List (Addr × Obj)) => An5 (xs = rs.map (fun k => .tok fun t => .int k t)) (ds ++ rs = rangeKs top n) (MadeRows add ys r (ds.map fun y => (y, spansOf (fn y)))) (nx = add ++ ((L1 + 1, o1) :: news)) (∀ q ∈ ((L1 + 1, o1) :: news), ∀ r ∈ add, q.1 < r.1)) ?_ ?_ _ _ _ ?_
  · intro ys nx hI0 D9 h9 tk9 F9 N9 o9
    refine fold_Q ?_
    intro qF0
    refine fold_E ?_
    intro eF0
    refine fold_A ?_
    intro aF0
    refine fold_goal (fun gX gk => ?_)
    obtain ⟨rs, ds, r, add, x1, x2, x3, rfl, x5⟩ := hI0
    have x1' : rs = [] := by simpa using x1.symm
    subst x1'
    rw [List.append_nil] at x2
    subst x2
    have hlenR : ((rangeKs top n).map fun y => (y, spansOf (fn y))).length = n := by rw [List.length_map, rangeKs_length]
    have hndR : (((rangeKs top n).map fun y => (y, spansOf (fn y))).map (·.1)).Nodup := by
      rw [List.map_map]
      have e : ((fun q : Int × List (Int × Int) => q.1) ∘ fun y => (y, spansOf (fn y))) = id := rfl
      rw [e, List.map_id]
      unfold rangeKs List.Nodup
      rw [List.pairwise_map]
      exact List.nodup_range.imp fun h e => h (by omega)
    refine gk ?_
    clear gk gX
    walk_at "mine:steps"
    have hka : ∀ p ∈ add, p ∈ (D9, lst ys) :: (add ++ ((L1 + 1, o1) :: news)) := fun p hp => .tail _ (List.mem_append_left _ hp)
    refine' dict_list_c rfl F9 N9 T1.nolimit (.head _) x3 hka hndR (by omega) ?_
    intro d10 od10 h10 tk10 F10 N10 l10 hD10
    walk_at "mine:steps"
    have hDI : DictIn prog w ((d10, od10) :: add) (.ref d10) ((rangeKs top n).map fun y => (y, spansOf (fn y))) := by
      refine fold_goal (fun gX gk => ?_)
      obtain ⟨kvz, z1, z2, z3⟩ := hD10
      refine gk ?_
      clear gk gX
      exact ⟨d10, od10, kvz, rfl, .head _, z1, z2.mono fun q hq => .tail _ hq, z3⟩
    have hkb : ∀ p ∈ (d10, od10) :: add, p ∈ (d10, od10) :: (D9, lst ys) :: (add ++ ((L1 + 1, o1) :: news)) := by
      intro q hq
      rcases mem_cons_s hq with rfl | hq
      · exact .head _
      · exact .tail _ (.tail _ (List.mem_append_left _ hq))
    have hsz : ∀ q ∈ (rangeKs top n).map fun y => (y, spansOf (fn y)), q.2.length ≤ 100 := by
      intro q hq
      refine fold_goal (fun gX gk => ?_)
      obtain ⟨z, hz, rfl⟩ := List.mem_map.mp hq
      have hz' : top ≤ z ∧ z < top + n := by
        unfold rangeKs at hz
        obtain ⟨i, hi, rfl⟩ := List.mem_map.mp hz
        rw [List.mem_range] at hi
        omega
      have h1 := hrow z hz'.1 hz'.2
      have h2 := spans_len fun u hu => (h1.2 u hu).inB
      have := h1.1
      refine gk ?_
      clear gk gX
      dsimp only
      omega
    refine' region_c (kn := (d10, od10) :: add) (R := (rangeKs top n).map fun y => (y, spansOf (fn y))) B1 F10 X1 N10 hkb T1 rfl ?zd ?zu hDI (by omega) hsz ?_
    (case zd => walk_at "mine:room")
    (case zu => walk_at "mine:units")
    intro r12 add12 h12 tk12 G12 F12 N12 l12 g12 i12
    walk_at "mine:steps"
    rename News h₀ _ _ _ => N13
    rename Fr h₀ _ _ _ => F13
    refine ret r12 (add12 ++ ((d10, od10) :: (add ++ [(L1 + 1, o1)]))) _ _ G12 F13 ?_ ?_ (g12.mono ?_) ?_
    · intro q hq
      refine N13 q ?_
      (first | (refine sub_in hq ?_; walk_at "mine:in"; done) | (trace "GRINDBACK"; simp only [List.mem_cons, List.mem_append, List.not_mem_nil, or_false] at hq ⊢; grind only))
    · intro q hq r hr
      simp only [List.mem_cons, List.mem_append, List.not_mem_nil, or_false] at hr
      rcases hr with hr | rfl | hr | rfl
      · exact l12 q (.tail _ (.tail _ (List.mem_append_right _ (.tail _ hq)))) r hr
      · exact l10 q (.tail _ (List.mem_append_right _ (.tail _ hq)))
      · exact x5 q (.tail _ hq) r hr
      · exact Nat.lt_succ_of_lt (l1 q hq)
    · intro q hq
      (first | (refine sub_in hq ?_; walk_at "mine:in"; done) | (trace "GRINDBACK"; simp only [List.mem_cons, List.mem_append, List.not_mem_nil, or_false] at hq ⊢; grind only))
    · refine ⟨i12.1, i12.2.1, fun y => ?_⟩
      rw [i12.2.2 y, rowAt_map]
      dsimp only
      have e : y ∈ rangeKs top n ↔ top ≤ y ∧ y < top + n := by
        unfold rangeKs
        rw [List.mem_map]
        constructor
        · intro  hI0
          refine fold_goal (fun gX gk => ?_)
          obtain ⟨i, hi, rfl⟩ := hI0
          rw [List.mem_range] at hi
          refine gk ?_
          clear gk gX
          omega
        · intro  hI0
          obtain ⟨z1, z2⟩ := hI0
          exact ⟨(y - top).toNat, List.mem_range.mpr (by omega), by omega⟩
      by_cases hy : top ≤ y ∧ y < top + n
      · rw [if_pos hy, if_pos (e.mpr hy)]
      · rw [if_neg hy, if_neg fun h => hy (e.mp h)]
  · intro it r ys nx hI0 v9 C9 oC9 m9 D9 h9 tk9 E9 hv9 hoC9 F9 hCD oI9 hoI9 N9 o9 o9'
    refine fold_Q ?_
    intro qF2
    refine fold_E ?_
    intro eF2
    refine fold_A ?_
    intro aF2
    refine fold_goal (fun gX gk => ?_)
    obtain ⟨rs, ds, r', add, x1, x2, x3, rfl, x5⟩ := hI0
    cases rs with
    | nil => simp at x1
    | cons y9 rs =>
      simp only [List.map_cons, List.cons.injEq] at x1
      obtain ⟨rfl, rfl⟩ := x1
      obtain ⟨t9, rfl⟩ := hv9
      have hy9 : top ≤ y9 ∧ y9 < top + n := by
        have hm : y9 ∈ rangeKs top n := x2 ▸ List.mem_append_right _ (.head _)
        unfold rangeKs at hm
        obtain ⟨i, hi, rfl⟩ := List.mem_map.mp hm
        rw [List.mem_range] at hi
        omega
      have hps := hrow y9 hy9.1 hy9.2
      have hcm9 : (L1 + 1, o1) ∈ add ++ ((L1 + 1, o1) :: news) := List.mem_append_right _ (.head _)
      have hfm9 : (f, (⟨oc, odd, .func fd, sl⟩ : Obj)) ∈ add ++ ((L1 + 1, o1) :: news) := List.mem_append_right _ (.tail _ (hkn _ hfo))
      refine gk ?_
      clear gk gX
      refine comp_asg1 (pre := [(I6, oI9)]) (by rfl) (by rfl) hoC9 F9 N9 ?_ ?_ (fun oC10 m10 h10 tk10 hoC10 hm10 F10 N10 => ?_)
      · intro q hq
        exact (o9' q hq).1
      · intro q hq
        rcases mem_cons_s hq with rfl | hq
        · exact Ne.symm hCD
        · exact (o9 q hq).2.1
      refine wpAny_tests_nil ?_
      simp only [if_true]
      walk_at "mine:steps"
      have hkc : ∀ p ∈ kn, p ∈ [(I6, oI9)] ++ (C9, oC10) :: (D9, lst ys) :: (add ++ ((L1 + 1, o1) :: news)) := fun p hp => .tail _ (.tail _ (.tail _ (List.mem_append_right _ (.tail _ (hkn p hp)))))
      refine callWith_F (FnAt.of N10 (hkc _ hfo)) ?_
      walk_at "mine:steps"
      refine' row_fn hf B1 F10 X1 N10 hkc T1 rfl ?zd ?zu hy9 ?_
      (case zd => walk_at "mine:room")
      (case zu => walk_at "mine:units")
      intro v10 h10 tk10 F10 N10 dat10
      walk_at "mine:steps"
      refine' normal_s (kn := kn) (ps := fn y9) B1 F10 X1 N10 hkc T1 rfl ?zd ?zu dat10 hps.1 hps.2 ?_
      (case zd => walk_at "mine:room")
      (case zu => walk_at "mine:units")
      intro r11 add11 h11 tk11 F11 N11 gt11 d11 len11
      walk_at "mine:steps"
      rename_i TT h17 F12 N17 gtT
      obtain ⟨uy, N12⟩ : ∃ uy, News g1 L1 h17 ((TT, ({ cls := .type "tuple", data := .seq [Value.int y9 uy, r11].toArray } : Obj)) :: (add11 ++ ([(I6, oI9)] ++ (C9, oC10) :: (D9, lst ys) :: (add ++ ((L1 + 1, o1) :: news))))) := ⟨_, N17⟩
      refine ⟨_, _, oC10, m10, ((TT, ({ cls := .type "tuple", data := .seq [Value.int y9 uy, r11].toArray } : Obj)) :: (add11 ++ add)) ++ ((L1 + 1, o1) :: news), rfl, F12, hoC10, ?_, ?_, trivial, rs, ds ++ [y9], r' ++ [(y9, r11)], (TT, ({ cls := .type "tuple", data := .seq [Value.int y9 uy, r11].toArray } : Obj)) :: (add11 ++ add), rfl, by rw [List.append_assoc]; exact x2, ?_, rfl, ?_⟩
      · intro q hq
        refine N12 q ?_
        (first | (refine sub_in hq ?_; walk_at "mine:in"; done) | (trace "GRINDBACK"; simp only [List.mem_cons, List.mem_append, List.cons_append, List.nil_append] at hq ⊢; grind only))
      · intro q hq
        rcases List.mem_append.mp hq with hq | hq
        · rcases mem_cons_s hq with rfl | hq
          · refine ⟨fun r hr => ?_, ?_, ?_⟩
            · rw [List.mem_singleton.mp hr]
              exact (Nat.ne_of_lt (gtT _ (List.mem_append_right _ (.head _)))).symm
            · exact (Nat.ne_of_lt (gtT _ (List.mem_append_right _ (.tail _ (.head _))))).symm
            · exact (Nat.ne_of_lt (gtT _ (List.mem_append_right _ (.tail _ (.tail _ (.head _)))))).symm
          · rcases List.mem_append.mp hq with hq | hq
            · refine ⟨fun r hr => ?_, ?_, ?_⟩
              · rw [List.mem_singleton.mp hr]
                exact (Nat.ne_of_lt (gt11 _ (.head _) q hq)).symm
              · exact (Nat.ne_of_lt (gt11 _ (.tail _ (.head _)) q hq)).symm
              · exact (Nat.ne_of_lt (gt11 _ (.tail _ (.tail _ (.head _))) q hq)).symm
            · exact o9 q (List.mem_append_left _ hq)
        · exact o9 q (List.mem_append_right _ hq)
      · rw [List.map_append]
        exact (x3.mono fun q hq => .tail _ (List.mem_append_right _ hq)).append (.cons (n := 0) (.head _) (DatIn.mono (fun q hq => .tail _ (List.mem_append_left _ hq)) d11) .nil)
      · intro q hq r hr
        rcases mem_cons_s hr with rfl | hr
        · exact gtT q (List.mem_append_right _ (.tail _ (.tail _ (.tail _ (List.mem_append_right _ hq)))))
        · rcases List.mem_append.mp hr with hr | hr
          · exact gt11 q (.tail _ (.tail _ (.tail _ (List.mem_append_right _ hq)))) r hr
          · exact x5 q hq r hr
  · exact ⟨rangeKs top n, [], [], [], rfl, rfl, .nil, rfl, fun _ _ _ h => nomatch h⟩
end
end
section
theorem reset_PRowsL : True := by
  w_top off
  trivial
local macro_rules | `(tactic| walk_at "subscriptTail") => `(tactic| (k_here; (with_reducible show wpAny _ _ (subscriptTail _ _ (Value.ref _) (Value.int _ _)) _ _ _); k_dflt (refine' rows_item ?N ?kn ?hD ?hm ?hl ?_ ?hs ?hg; (case hD => assumption); (case N => k_asm); (case kn => walk_at "mine:known"); (case hm => k_mem); (case hl => assumption); (case hs => with_unfolding_all rfl); (case hg => (intro _; with_unfolding_all rfl)); k_whole); intro l' vs' n' hl' hm' hv' hn'))
local macro_rules | `(tactic| walk_at "getMethod ref") => `(tactic| (k_here; k_dflt (refine' rows_get_method ?N ?hD ?hm ?_; (case hD => assumption); (case N => k_asm); (case hm => k_mem); k_whole)))
local macro_rules | `(tactic| walk_at "call builtin:dict.get") => `(tactic| (k_here; k_dflt (refine' rows_get ?N ?kn ?hD ?hm ?hx ?_; (case hD => assumption); (case N => k_asm); (case kn => walk_at "mine:known"); (case hm => k_mem); (case hx => k_mem); k_whole); intro l' vs' n' hm' hv' hn'))
local macro_rules | `(tactic| walk_at "mine:known") => `(tactic| first | assumption | (intro q hq; first | exact List.mem_append_right _ (by solve_by_elim) | (simp only [List.mem_cons, List.mem_append] at hq ⊢; grind only)))
local macro_rules | `(tactic| walk_at "setItem ref int") => `(tactic| (k_here; (with_reducible show wpAny _ _ (setItem (Value.ref _) (Value.int _ _) _) _ _ _); k_dflt (refine' kda_set (knd := PySem.intKind _ _) ?F ?N ?U ?hd ?hk ?hz ?_; (case F => k_asm); (case N => k_asm); (case U => k_updF); (case hd => assumption); (case hk => exact intKind_is _ _ _ _); (case hz => (rw [sizeLine_eq]; omega)); k_whole); intro h' o' F' N' hd'; (try dsimp only at N'); (try k_sweep)))
local macro_rules | `(tactic| walk_at "call type:list") => `(tactic| (k_here; (with_reducible show wpAny _ _ (call (Value.type "list") [Value.ref _]) _ _ _); k_dflt (first
  | (refine' list_copyK ?k1 ?k2 ?k3 ?_ ?z; (case k1 => k_asm); (case k2 => k_asm); (case k3 => exact News.isList (by k_asm) (by k_mem)); (case z => (simp only [List.size_toArray, sizeLine_eq]; omega)); k_whole; intro D' c' h' F' N' l1; (try k_lt l1); (try k_sweep))
  | (refine' rows_list ?hh ?F ?N ?hp ?hd ?lo ?hn ?_; (case hh => exact rfl); (case F => k_asm); (case N => k_asm); (case hp => k_mem); (case hd => assumption); (case lo => assumption); (case hn => omega); k_whole; intro D' c' h' tk' vs' F' N' l1 hi'; (try k_lt l1); (try k_sweep)))))
local macro_rules | `(tactic| walk_at "call builtin:sum") => `(tactic| (k_here; (with_reducible show wpAny _ _ (call (Value.builtin "sum") [Value.ref _]) _ _ _); k_dflt (refine' sum_ints ?F ?N ?hh ?hl ?hi ?_; (case hi => assumption); (case F => k_asm); (case N => k_asm); (case hh => exact rfl); (case hl => exact News.isList (by k_asm) (by k_mem)); k_whole); intro h' tk' t' F' N'; (try k_sweep)))
local macro_rules | `(tactic| walk_at "binaryOp Add ref ref") => `(tactic| (k_here; (with_reducible show wpAny _ _ (binaryOp _ (Value.ref _) (Value.ref _)) _ _ _); k_dflt (refine' list_add_c ?F ?N ?a ?b ?_ ?z; (case F => k_asm); (case N => k_asm); (case a => k_mem); (case b => k_mem); (case z => (simp only [List.length_cons, List.length_nil]; omega)); k_whole); intro D' h' F' N' l1; (try k_lt l1); (try k_sweep)))
local macro_rules | `(tactic| walk_at "mine:stop") => `(tactic| (with_reducible show wpAny _ _ (call (Value.ref 33) _) _ _ _))
/-- rows that are told one below the other -/
def rowsL : Int → List (List (Int × Int)) → Rows
  | _, [] => []
  | t, d :: ds => (t, spansOf d) :: rowsL (t + 1) ds
theorem rowsL_snoc : ∀ (a : List (List (Int × Int))) (t : Int) (d : List (Int × Int)), rowsL t (a ++ [d]) = rowsL t a ++ [(t + (a.length : Int), spansOf d)]
  | [], t, d => by simp [rowsL]
  | x :: a, t, d => by
    rw [List.cons_append, rowsL, rowsL_snoc a (t + 1) d, rowsL, List.cons_append, List.length_cons]
    rw [show t + 1 + (a.length : Int) = t + ((a.length + 1 : Nat) : Int) by omega]
theorem rowsL_len : ∀ (a : List (List (Int × Int))) (t : Int), (rowsL t a).length = a.length
  | [], _ => rfl
  | _ :: a, t => by rw [rowsL, List.length_cons, List.length_cons, rowsL_len a]
theorem rowsL_mem : ∀ (a : List (List (Int × Int))) (t : Int) (q : Int × List (Int × Int)), q ∈ rowsL t a → t ≤ q.1 ∧ q.1 < t + (a.length : Int) ∧ ∃ d ∈ a, q.2 = spansOf d
  | [], _, _, h => nomatch h
  | x :: a, t, q, h => by
    rw [rowsL] at h
    rcases mem_cons_s h with rfl | h
    · refine ⟨Int.le_refl _, ?_, x, .head _, rfl⟩
      simp only [List.length_cons]
      omega
    · obtain ⟨h1, h2, d, hd, e⟩ := rowsL_mem a (t + 1) q h
      simp only [List.length_cons]
      exact ⟨by omega, by omega, d, .tail _ hd, e⟩
theorem rowsL_at : ∀ (a : List (List (Int × Int))) (t y : Int), rowAt (rowsL t a) y = if t ≤ y ∧ y < t + (a.length : Int) then spansOf ((a[(y - t).toNat]?).getD []) else []
  | [], t, y => by
    rw [if_neg (by simp only [List.length_nil]; omega)]
    rfl
  | x :: a, t, y => by
    rw [rowsL, rowAt_cons, rowsL_at a]
    by_cases e : t = y
    · subst e
      rw [if_pos rfl, if_pos (by simp only [List.length_cons]; omega), Int.sub_self]
      rfl
    · rw [if_neg e]
      by_cases h : t + 1 ≤ y ∧ y < t + 1 + (a.length : Int)
      · rw [if_pos h, if_pos (by simp only [List.length_cons]; omega), show (y - t).toNat = (y - (t + 1)).toNat + 1 by omega, List.getElem?_cons_succ]
      · rw [if_neg h, if_neg (by simp only [List.length_cons]; omega)]
theorem rowsL_nodup : ∀ (a : List (List (Int × Int))) (t : Int), ((rowsL t a).map (·.1)).Nodup
  | [], _ => List.nodup_nil
  | x :: a, t => by
    rw [rowsL, List.map_cons, List.nodup_cons]
    refine ⟨fun h => ?_, rowsL_nodup a (t + 1)⟩
    obtain ⟨q, hq, e⟩ := List.mem_map.mp h
    have := rowsL_mem a (t + 1) q hq
    have e' : q.1 = t := e
    omega
theorem rowsL_ok {a : List (List (Int × Int))} {t : Int} (h1 : -2 ≤ t) (h2 : t + (a.length : Int) ≤ 9) (h : ∀ ps ∈ a, ps.length ≤ 4 ∧ ∀ q ∈ ps, okB q) : OkRows (rowsL t a) := by
  refine ⟨fun q hq => ?_, fun q hq => ?_⟩
  · have := rowsL_mem a t q hq
    omega
  · obtain ⟨_, _, d, hd, e⟩ := rowsL_mem a t q hq
    rw [e]
    have hh := h d hd
    have hb := fun r hr => (hh.2 r hr).inB
    have := spans_len hb
    exact ⟨(spans_norm hb).1, spans_inB hb, by omega⟩
end
section
theorem reset_PLaw : True := by
  w_top off
  trivial
local macro_rules | `(tactic| walk_at "subscriptTail") => `(tactic| (k_here; (with_reducible show wpAny _ _ (subscriptTail _ _ (Value.ref _) (Value.int _ _)) _ _ _); k_dflt (refine' rows_item ?N ?kn ?hD ?hm ?hl ?_ ?hs ?hg; (case hD => assumption); (case N => k_asm); (case kn => walk_at "mine:known"); (case hm => k_mem); (case hl => assumption); (case hs => with_unfolding_all rfl); (case hg => (intro _; with_unfolding_all rfl)); k_whole); intro l' vs' n' hl' hm' hv' hn'))
local macro_rules | `(tactic| walk_at "getMethod ref") => `(tactic| (k_here; k_dflt (refine' rows_get_method ?N ?hD ?hm ?_; (case hD => assumption); (case N => k_asm); (case hm => k_mem); k_whole)))
local macro_rules | `(tactic| walk_at "call builtin:dict.get") => `(tactic| (k_here; k_dflt (refine' rows_get ?N ?kn ?hD ?hm ?hx ?_; (case hD => assumption); (case N => k_asm); (case kn => walk_at "mine:known"); (case hm => k_mem); (case hx => k_mem); k_whole); intro l' vs' n' hm' hv' hn'))
local macro_rules | `(tactic| walk_at "mine:known") => `(tactic| first | assumption | (intro q hq; first | exact List.mem_append_right _ (by solve_by_elim) | (simp only [List.mem_cons, List.mem_append] at hq ⊢; grind only)))
local macro_rules | `(tactic| walk_at "setItem ref int") => `(tactic| (k_here; (with_reducible show wpAny _ _ (setItem (Value.ref _) (Value.int _ _) _) _ _ _); k_dflt (refine' kda_set (knd := PySem.intKind _ _) ?F ?N ?U ?hd ?hk ?hz ?_; (case F => k_asm); (case N => k_asm); (case U => k_updF); (case hd => assumption); (case hk => exact intKind_is _ _ _ _); (case hz => (rw [sizeLine_eq]; omega)); k_whole); intro h' o' F' N' hd'; (try dsimp only at N'); (try k_sweep)))
local macro_rules | `(tactic| walk_at "call type:list") => `(tactic| (k_here; (with_reducible show wpAny _ _ (call (Value.type "list") [Value.ref _]) _ _ _); k_dflt (first
  | (refine' list_copyK ?k1 ?k2 ?k3 ?_ ?z; (case k1 => k_asm); (case k2 => k_asm); (case k3 => exact News.isList (by k_asm) (by k_mem)); (case z => (simp only [List.size_toArray, sizeLine_eq]; omega)); k_whole; intro D' c' h' F' N' l1; (try k_lt l1); (try k_sweep))
  | (refine' rows_list ?hh ?F ?N ?hp ?hd ?lo ?hn ?_; (case hh => exact rfl); (case F => k_asm); (case N => k_asm); (case hp => k_mem); (case hd => assumption); (case lo => assumption); (case hn => omega); k_whole; intro D' c' h' tk' vs' F' N' l1 hi'; (try k_lt l1); (try k_sweep)))))
local macro_rules | `(tactic| walk_at "call builtin:sum") => `(tactic| (k_here; (with_reducible show wpAny _ _ (call (Value.builtin "sum") [Value.ref _]) _ _ _); k_dflt (refine' sum_ints ?F ?N ?hh ?hl ?hi ?_; (case hi => assumption); (case F => k_asm); (case N => k_asm); (case hh => exact rfl); (case hl => exact News.isList (by k_asm) (by k_mem)); k_whole); intro h' tk' t' F' N'; (try k_sweep)))
local macro_rules | `(tactic| walk_at "binaryOp Add ref ref") => `(tactic| (k_here; (with_reducible show wpAny _ _ (binaryOp _ (Value.ref _) (Value.ref _)) _ _ _); k_dflt (refine' list_add_c ?F ?N ?a ?b ?_ ?z; (case F => k_asm); (case N => k_asm); (case a => k_mem); (case b => k_mem); (case z => (simp only [List.length_cons, List.length_nil]; omega)); k_whole); intro D' h' F' N' l1; (try k_lt l1); (try k_sweep)))
local macro_rules | `(tactic| walk_at "call ref") => `(tactic| (k_here; (with_reducible show wpAny _ _ (call (Value.ref 172) [Value.ref _, Value.int _ _]) _ _ _); k_dflt (refine' take_c ?b ?f ?x ?n ?u ?o ?t ?k ?d ?c ?y ?z ?_; (case b => k_asm); (case f => k_asm); (case x => k_asm); (case n => k_asm); (case u => k_updF); (case o => assumption); (case t => k_asm); (case k => first | exact rfl | assumption); (case d => walk_at "mine:room"); (case c => walk_at "mine:units"); (case y => first | omega | (simp only [List.size_toArray]; omega)); (case z => first | omega | (simp only [List.size_toArray]; omega)); k_whole); intro r' tr' o' h' tk' hr0' hr1' ho' F' N'; (try simp only [List.size_toArray] at hr1'); (try dsimp only at N'); (try k_sweep); (try dsimp only)))
local macro_rules | `(tactic| walk_at "call ref") => `(tactic| (k_here; (with_reducible show wpAny _ _ (call (Value.ref 40) [Value.ref _]) _ _ _); k_dflt (refine' length_c ?b ?f ?x ?n ?kn ?t ?k ?d ?c ?v ?_; (case v => first | assumption | (refine' DatIn.list ?mm ?dd; (case dd => assumption); (case mm => assumption))); (case n => k_asm); (case kn => walk_at "mine:known"); (case b => k_asm); (case f => k_asm); (case x => k_asm); (case t => k_asm); (case k => first | exact rfl | assumption); (case d => walk_at "mine:room"); (case c => walk_at "mine:units"); k_whole); intro t' h' tk' F' N'; (try k_sweep); (try dsimp only)))
local macro_rules | `(tactic| walk_at "mine:stop") => `(tactic| (with_reducible show wpAny _ _ (call (Value.ref 33) _) _ _ _))
local macro_rules | `(tactic| walk_at "mine:stop") => `(tactic| first | (with_reducible show wpAny _ _ (call (Value.ref 165) _) _ _ _) | (with_reducible show wpAny _ _ (call (Value.ref 186) _) _ _ _) | (with_reducible show wpAny _ _ (call (Value.ref 33) _) _ _ _) | (with_reducible show wpAny _ _ (call (Value.ref 191) _) _ _ _) | (with_reducible show wpAny _ _ (call (Value.ref 28) _) _ _ _) | (with_reducible show wpAny _ _ (call (Value.ref 116) _) _ _ _) | (with_reducible show wpAny _ _ (call (Value.ref 201) _) _ _ _) | (with_reducible show wpAny _ _ (call (Value.ref 206) _) _ _ _) | (with_reducible show wpAny _ _ (call (Value.ref 102) _) _ _ _) | (with_reducible show wpAny _ _ (call (Value.ref 158) _) _ _ _) | (with_reducible show wpAny _ _ (call (Value.ref 179) _) _ _ _))
local macro_rules | `(tactic| walk_at "mine:stop") => `(tactic| (with_reducible show wpAny _ _ (binaryOp Operator.Add (Value.ref _) (Value.ref _)) _ _ _))
local macro_rules | `(tactic| walk_at "mine:stop") => `(tactic| (with_reducible show wpAny _ _ (call (Value.ref 40) _) _ _ _))
theorem dat_all_mem {kn : List (Addr × Obj)} {vs : List Value} {ds : List Dat} (h : DatAll kn vs ds) : ∀ v ∈ vs, ∃ d ∈ ds, DatIn kn v d := by
  induction vs generalizing ds with
  | nil => intro v hv; cases hv
  | cons u vs ih =>
    cases h with
    | cons a b =>
      intro v hv
      rcases mem_cons_s hv with rfl | hv
      · exact ⟨_, .head _, a⟩
      · obtain ⟨d, hd, hh⟩ := ih b v hv
        exact ⟨d, .tail _ hd, hh⟩
local macro_rules | `(tactic| walk_at "mine:enterL") => `(tactic| (refine' kla_code ?k1 ?k2 ?k3 ?k4 ?k5 ?kA ?kF ?kK ?k6 ?k7 ?k8 ?k9 ?kB ?_ ?c2 ?c3 ?c4 ?c5; (case kA => exact rfl); (case kF => exact rfl); (case kK => assumption); (case k1 => k_asm); (case k2 => k_asm); (case k3 => k_asm); (case k4 => k_asm); (case k5 => k_asm); (case k6 => assumption); (case k7 => exact codeRec_news (by k_asm) (by assumption) (by assumption) (by assumption)); (case k8 => ((try dsimp only [ktrTop, Around.deeper]); omega)); (case k9 => exact rfl); (case c5 => decide); (case kB => exact locs rfl); (case c2 => exact rfl); (case c3 => exact rfl); (case c4 => exact rfl); k_whole; intro g' L' h' FG' F' N' B' X' T'; (try dsimp only); (try k_lift B'); (try k_fold)))
theorem dat_all_get {kn : List (Addr × Obj)} {vs : List Value} {ds : List Dat} (h : DatAll kn vs ds) : ∀ (i : Nat) (hi : i < vs.length), ∃ d, ds[i]? = some d ∧ DatIn kn (vs[i]'hi) d := by
  induction vs generalizing ds with
  | nil => intro i hi; cases hi
  | cons u vs ih =>
    cases h with
    | cons a b =>
      intro i hi
      cases i with
      | zero => exact ⟨_, rfl, a⟩
      | succ i =>
        obtain ⟨d, h1, h2⟩ := ih b i (by simpa using hi)
        exact ⟨d, by simpa using h1, h2⟩
local macro_rules | `(tactic| walk_at "mine:stop") => `(tactic| first | (with_reducible show wpAny _ _ (call (Value.type "enumerate") _) _ _ _) | (with_reducible show wpAny _ _ (call (Value.type "dict") _) _ _ _))
local macro_rules | `(tactic| walk_at "mine:stop") => `(tactic| (with_reducible show wpAny _ _ (compareOp CmpOp.NotEq (Value.int (lenOf _) _) (Value.int _ _)) _ _ _))
local macro_rules | `(tactic| walk_at "mine:stop") => `(tactic| (with_reducible show wpAny _ _ (callWith _ (Value.ref 102) _ _ _) _ _ _))
def gapR : Rows := [(0, [(0, 2)]), (2, [(0, 2)]), (3, [(0, 2)]), (4, [(0, 1)]), (5, [(0, 2)])]
theorem gap_len : gapR.length ≤ 20 := by decide
theorem gap_sz : ∀ q ∈ gapR, q.2.length ≤ 100 := by decide
theorem gap_is : RegIs gapR (rowAt gapR) := ⟨by decide, by decide, fun _ => rfl⟩
theorem gap_sum : sumLen gapR ≤ 1000 := by decide
theorem gap_nd : (gapR.map (·.1)).Nodup := by decide
theorem gap_rect : rectB gapR = [(0, 0, 2, 1), (0, 2, 2, 2), (0, 4, 1, 1), (0, 5, 2, 1)] := by decide
theorem law_raises (args : List WData) (cls : ExcName) : PySem.Challenge.rw_pf0187_01.row.claim.raises args cls = false := raisesW_false (by wrow_none_raised) cls
theorem law_post (ns : List Int) : PySem.Challenge.rw_pf0187_01.row.claim.post [ofPy (PyData.list (ns.map PyData.int))] (WData.bool true) [ofPy (PyData.list (ns.map PyData.int))] = true := by wrow_post
theorem cA_d : callerA.depth + 50 < recursionLimit := by decide
theorem cA_u : callerA.units + 2000 < cLine := by decide
local macro_rules | `(tactic| walk_at "mine:units") => `(tactic| (have hcL9 := cA_u; (try dsimp only [ktrTop, Around.deeper]); omega))
local macro_rules | `(tactic| walk_at "mine:room") => `(tactic| (have hcL9 := cA_d; (try dsimp only [ktrTop, Around.deeper]); omega))
local macro_rules | `(tactic| k_qdec) => `(tactic| first | (rw [PySem.W.Fast.te17448422675489707002, PySem.W.Fast.te821141287760084731]; decide +kernel) | (rw [PySem.W.Fast.te2458874890965802552]; decide +kernel))
theorem law_holds : PySem.Challenge.rw_pf0187_01.Holds := hd (by
  k_go0
  all_goals try k_fold
  rename_i w s₀ s₁ mg mb G Y fa o pm doc ho hg X V T B TE TW hcd ns hs hlay0 hL1 hr1 hl2 w8 w7 lA vs w4 hL ra w1 r0 hI hr hc1 hc2 hD h1 tk1 oT oL oK oS dT dL dK dS X0 X' T' K' F' N' l0
  dsimp only at F' dT dL dK dS N' codeHd ⊢
  clear X0
  refine fold_goal (fun gX gk => ?_)
  obtain ⟨p9, lo9, me9, mg9, mb9, T9⟩ : ∃ p9 lo9 me9 mg9 mb9, Top p9 lo9 me9 mg9 mb9 (ghostOf s₁.heap [(210, 208)]) := ⟨_, _, _, _, _, T'⟩
  refine gk ?_
  clear gk gX
  walk_at "mine:steps"
  refine' pool_c K' F' X' N' T' rfl ?zd ?zu lifted hI hc1 ?_
  (case zd => walk_at "mine:room")
  (case zu => walk_at "mine:units")
  intro src o2 h2 tk2 F2 N2 l2 ho2
  k_lt l2
  walk_at "mine:steps"
  rename_i h3 oS3 dS3 rt trt o3 h4 tk4 hrt0 hrt1 ho3 F4 N4
  clear dS ho2
  refine comp_rule F4 (by with_unfolding_all rfl) (by decide) (by rfl) (by decide) ?_
  walk_at "mine:steps"
  rename_i h5 tk5 z1 z2 z3 R5 F5 N5 k5
  refine comp_range rfl F5 N5 R5 (by decide) (by rfl) (by rw [sizeLine_eq]; decide) (fun I6 h6 tk6 l6 => ?_) (fun _ _ _ _ _ q => wpAny_pure q)
  refine comp_ind (fun xs ys nx => Ex3 fun (o : Obj) (pss : List (List (Int × Int))) (add : List (Addr × Obj)) => An7 (∀ it ∈ xs, ∃ f : Tok → Value, it = Itm.tok f) (nx = (src, o) :: (s₁.heap.objs.size + 1 + 1 + 1 + 1, oT) :: (s₁.heap.objs.size + 1 + 1 + 1, oL) :: (s₁.heap.objs.size + 1 + 1, oK) :: (s₁.heap.objs.size + 1, oS3) :: (208, tabObj #[]) :: add) (SrcObj o) (DatAll add ys (pss.map pds)) (∀ ps ∈ pss, ps.length ≤ 3 ∧ ∀ q ∈ ps, okPair q) (pss.length + xs.length = 3) (∀ r ∈ add, @LT.lt Nat _ src r.1)) ?_ ?_ _ _ _ ?_
  · intro ys nx hI0 D9 h9 tk9 F9 N9 o9
    refine fold_Q ?_
    intro qF0
    refine fold_E ?_
    intro eF0
    refine fold_A ?_
    intro aF0
    refine fold_goal (fun gX gk => ?_)
    obtain ⟨o7, pss, add, q1, rfl, q3, q4, q5, q6, q7⟩ := hI0
    have hyl : ys.length = 3 := by
      rw [q4.length, List.length_map]
      exact q6
    refine gk ?_
    clear gk gX
    walk_at "mine:steps"
    rename_i le h10 lt10 lo h11 F11 N11 lt11
    refine list_add_c F11 N11 (.tail _ (.tail _ (.head _))) (.head _) (fun kl h12 F12 N12 l12 => ?_) ?zz
    case zz =>
      simp only [List.length_cons, List.length_nil]
      omega
    have N13 : News (ghostOf s₁.heap [(210, 208)]) s₁.heap.objs.size h12 ((src, o7) :: (s₁.heap.objs.size + 1 + 1 + 1 + 1, oT) :: (s₁.heap.objs.size + 1 + 1 + 1, oL) :: (s₁.heap.objs.size + 1 + 1, oK) :: (s₁.heap.objs.size + 1, oS3) :: (208, tabObj #[]) :: (kl, listOf (ys ++ [Value.ref le]).toArray 0) :: (le, listOf #[] 0) :: add) := by
      intro q hq
      refine N12 q ?_
      (first | (refine sub_in hq ?_; walk_at "mine:in"; done) | (trace "GRINDBACK"; simp only [List.mem_cons] at hq ⊢; grind only))
    have hlt1 : ∀ r ∈ (kl, listOf (ys ++ [Value.ref le]).toArray 0) :: (le, listOf #[] 0) :: add, @LT.lt Nat _ src r.1 := by
      intro r hr
      rcases mem_cons_s hr with rfl | hr
      · exact l12 (src, o7) (.tail _ (.tail _ (.tail _ (.head _))))
      · rcases mem_cons_s hr with rfl | hr
        · exact lt10.2.1
        · exact q7 r hr
    have hkd : DatAll ((kl, listOf (ys ++ [Value.ref le]).toArray 0) :: (le, listOf #[] 0) :: add) (ys ++ [Value.ref le]) ((pss ++ [[]]).map pds) := by
      rw [List.map_append]
      exact DatAll.append (DatAll.mono (fun q hq => .tail _ (.tail _ hq)) q4) (DatAll.one (DatIn.list (n := 0) (.tail _ (.head _)) .nil))
    have hkp : ∀ ps ∈ pss ++ [[]], ps.length ≤ 3 ∧ ∀ q ∈ ps, okPair q := by
      intro ps hps
      rcases List.mem_append.mp hps with h | h
      · exact q5 ps h
      · rw [List.mem_singleton.mp h]
        exact ⟨Nat.zero_le _, fun _ h => nomatch h⟩
    have hkl : (pss ++ [[]]).length = 4 := by
      simp only [List.length_append, List.length_cons, List.length_nil] at q6 ⊢
      omega
    have hkm := List.Mem.head (a := (kl, listOf (ys ++ [Value.ref le]).toArray 0)) (as := (le, listOf #[] 0) :: add)
    clear N12 l12 lt11 lt10 o9 q5 q4 q7
    generalize (kl, listOf (ys ++ [Value.ref le]).toArray 0) :: (le, listOf #[] 0) :: add = known at N13 hlt1 hkd hkm
    generalize pss ++ [[]] = kps at hkd hkp hkl
    generalize ys ++ [Value.ref le] = kvs at N13 hkd hkm
    have hoff : OwnOff known [src, s₁.heap.objs.size + 1 + 1 + 1 + 1, s₁.heap.objs.size + 1 + 1 + 1, s₁.heap.objs.size + 1 + 1, s₁.heap.objs.size + 1, 208] := by
      intro q hq r hr
      have h1 := hlt1 q hq
      refine fold_goal (fun gX gk => ?_)
      obtain ⟨g1, g2, g3, g4, g5⟩ := l2
      have h2 := ltN h1
      refine gk ?_
      clear gk gX
      rcases mem_cons_s hr with rfl | hr
      · exact (Nat.ne_of_lt h1).symm
      rcases mem_cons_s hr with rfl | hr
      · exact (Nat.ne_of_lt (Nat.lt_trans g1 h1)).symm
      rcases mem_cons_s hr with rfl | hr
      · exact (Nat.ne_of_lt (Nat.lt_trans g2 h1)).symm
      rcases mem_cons_s hr with rfl | hr
      · exact (Nat.ne_of_lt (Nat.lt_trans g3 h1)).symm
      rcases mem_cons_s hr with rfl | hr
      · exact (Nat.ne_of_lt (Nat.lt_trans g4 h1)).symm
      rw [List.mem_singleton.mp hr]
      exact (Nat.ne_of_lt (Nat.lt_trans g5 h1)).symm
    walk_at "mine:steps"
    rename_i TD hA lTD hB hC oT2 dT2 hE oK2 F14 N14 dK2
    have N15 : News (ghostOf s₁.heap [(210, 208)]) s₁.heap.objs.size hE ((src, o7) :: (s₁.heap.objs.size + 1 + 1 + 1 + 1, oT2) :: (s₁.heap.objs.size + 1 + 1 + 1, oL) :: (s₁.heap.objs.size + 1 + 1, oK2) :: (s₁.heap.objs.size + 1, oS3) :: (208, tabObj #[]) :: known) := by
      intro q hq
      exact N14 q (.tail _ hq)
    clear N14 lTD
    refine For_turns F14 ?_
    walk_at "mine:steps"
    have hkm1 : (kl, listOf kvs.toArray 0) ∈ ((src, o7) :: (s₁.heap.objs.size + 1 + 1 + 1 + 1, oT2) :: (s₁.heap.objs.size + 1 + 1 + 1, oL) :: (s₁.heap.objs.size + 1 + 1, oK2) :: (s₁.heap.objs.size + 1, oS3) :: (208, tabObj #[]) :: known) := .tail _ (.tail _ (.tail _ (.tail _ (.tail _ (.tail _ hkm)))))
    have hkK : ∀ q ∈ known, q ∈ ((src, o7) :: (s₁.heap.objs.size + 1 + 1 + 1 + 1, oT2) :: (s₁.heap.objs.size + 1 + 1 + 1, oL) :: (s₁.heap.objs.size + 1 + 1, oK2) :: (s₁.heap.objs.size + 1, oS3) :: (208, tabObj #[]) :: known) := fun q hq => .tail _ (.tail _ (.tail _ (.tail _ (.tail _ (.tail _ hq)))))
    refine for_list ((src, o7) :: (s₁.heap.objs.size + 1 + 1 + 1 + 1, oT2) :: (s₁.heap.objs.size + 1 + 1 + 1, oL) :: (s₁.heap.objs.size + 1 + 1, oK2) :: (s₁.heap.objs.size + 1, oS3) :: (208, tabObj #[]) :: known) rfl F14 N15 (fun q hq => hq) hkm1 rfl rfl (fun I16 l16 => ?_)
    refine items_ind (fun xs _ nx => Ex2 fun (kr : List (List (Int × Int))) (us : List Value) => An4 (xs = us.map .val) (DatAll known us (kr.map pds)) (∀ ps ∈ kr, ps.length ≤ 3 ∧ ∀ q ∈ ps, okPair q) (nx = ((src, o7) :: (s₁.heap.objs.size + 1 + 1 + 1 + 1, oT2) :: (s₁.heap.objs.size + 1 + 1 + 1, oL) :: (s₁.heap.objs.size + 1 + 1, oK2) :: (s₁.heap.objs.size + 1, oS3) :: (208, tabObj #[]) :: known))) ?_ ?_ _ _ _ ?_
    · intro m5 nx h5 tk5 hI5 F5 N5
      refine fold_Q ?_
      intro qF1
      refine fold_E ?_
      intro eF1
      refine fold_A ?_
      intro aF1
      refine fold_goal (fun gX gk => ?_)
      obtain ⟨kr, us, -, -, -, rfl⟩ := hI5
      clear l16 F14 N15
      refine gk ?_
      clear gk gX
      (try dsimp only)
      walk_at "mine:steps"
      have F6 : Fr (ghostOf s₁.heap [(210, 208)]) s₁.heap.objs.size h5 m5 := F5
      have N6 : News (ghostOf s₁.heap [(210, 208)]) s₁.heap.objs.size h5 ((src, o7) :: (s₁.heap.objs.size + 1 + 1 + 1 + 1, oT2) :: (s₁.heap.objs.size + 1 + 1 + 1, oL) :: (s₁.heap.objs.size + 1 + 1, oK2) :: (s₁.heap.objs.size + 1, oS3) :: (208, tabObj #[]) :: known) := N5
      clear F5 N5
      refine comp_rule F6 (by with_unfolding_all rfl) (by decide) (by rfl) (by decide) ?_
      walk_at "mine:steps"
      rename_i rr trr o17 h17 tk17 hrr0 hrr1 ho17 F17 N17 h18 tk18 y1 y2 y3 R18 F18 N18 k18
      refine comp_range rfl F18 N18 R18 (small_one (by omega) (by omega) (by omega) (by omega)) (rangeSize_nat _ _) (by rw [sizeLine_eq]; omega) (fun I19 h19 tk19 l19 => ?_) (fun _ _ _ _ _ q => wpAny_pure q)
      refine comp_ind (fun xs ys nx => Ex2 fun (o : Obj) (lss : List (List (Int × Int))) => An6 (∀ it ∈ xs, ∃ f : Tok → Value, it = Itm.tok f) (nx = (src, o) :: ((s₁.heap.objs.size + 1 + 1 + 1 + 1, oT2) :: (s₁.heap.objs.size + 1 + 1 + 1, oL) :: (s₁.heap.objs.size + 1 + 1, oK2) :: (s₁.heap.objs.size + 1, oS3) :: (208, tabObj #[]) :: known)) (SrcObj o) (DatAll known ys (lss.map pds)) (∀ ps ∈ lss, ps.length ≤ 3 ∧ ∀ q ∈ ps, okPair q) (lss.length + xs.length ≤ 7)) ?_ ?_ _ _ _ ?_
      · intro ys nx hI0 D20 h20 tk20 F20 N20 o20'
        refine fold_Q ?_
        intro qF2
        refine fold_E ?_
        intro eF2
        refine fold_A ?_
        intro aF2
        refine fold_goal (fun gX gk => ?_)
        obtain ⟨o20, lss, -, rfl, p3, p4, p5, p6⟩ := hI0
        have nL : @Ne Nat D20 (s₁.heap.objs.size + 1 + 1 + 1) := fun e => o20' _ (.tail _ (.tail _ (.head _))) e.symm
        have nB : @Ne Nat D20 208 := fun e => o20' _ (.tail _ (.tail _ (.tail _ (.tail _ (.tail _ (.head _)))))) e.symm
        have hyl : ys.length = lss.length := by rw [p4.length, List.length_map]
        have hyl7 : ys.length ≤ 7 := by
          simp only [List.length_nil] at p6
          omega
        refine gk ?_
        clear gk gX
        walk_at "mine:steps"
        rename_i hA20 oL2 F20a N20a dL2 f21 c21 oc21 vs21 t21 ct21 h21 tk21 F21 N21 d21a d21b l21 lf21
        refine fold_goal (fun gX gk => ?_)
        obtain ⟨LL, hLL, N22⟩ : ∃ LL, LL = _ ∧ News (ghostOf s₁.heap [(210, 208)]) s₁.heap.objs.size h21 LL := ⟨_, rfl, N21⟩
        have hrow : RowFn PySem.Challenge.rw_pf0187_01.row.prog w p9 lo9 me9 mg9 mb9 LL f21 (fun y => rt - 2 ≤ y ∧ y < rt - 2 + (ys.length : Int)) (fun y => (lss[(y - (rt - 2)).toNat]?).getD []) := by
          unfold RowFn
          intro dp un gd cn cs a ccd cl outer A₀ base h₀ L m s Q E y t news B F X N hkn T hk hd hu hy ret
          rw [hLL] at hkn
          simp only [List.forall_mem_cons] at hkn
          obtain ⟨k1, k2, k3, k4, k5, k6, k7, k8, k9, k10⟩ := hkn
          obtain ⟨hy1, hy2⟩ := hy
          clear N21 N22 F21
          refine wpAny_call ?_
          walk_at "mine:enterL"
          trace "IN LAMBDA"
          walk_at "mine:steps"
          rename Fr h₀ _ _ _ => F9
          rename News h₀ _ _ _ => N9
          have hi : (y - (rt - 2)).toNat < ys.length := by omega
          obtain ⟨d, hd1, hd2⟩ := dat_all_get p4 _ hi
          rw [List.getElem?_map, Option.map_eq_some_iff] at hd1
          obtain ⟨ps, hps, rfl⟩ := hd1
          refine ret _ _ _ F9 N9 ?_
          (try dsimp only)
          rw [hps]
          refine DatIn.mono (fun q hq => ?_) hd2
          rw [hLL]
          exact .tail _ (.tail _ (.tail _ (.tail _ (.tail _ (.tail _ (.tail _ (.tail _ (.tail _ hq))))))))
        have hfn : ∀ y, rt - 2 ≤ y → y < rt - 2 + (ys.length : Int) → ((lss[(y - (rt - 2)).toNat]?).getD []).length ≤ 4 ∧ ∀ q ∈ (lss[(y - (rt - 2)).toNat]?).getD [], okB q := by
          intro y hy1 hy2
          have hi : (y - (rt - 2)).toNat < lss.length := by omega
          rw [List.getElem?_eq_getElem hi, Option.getD_some]
          have hh := p5 _ (List.getElem_mem hi)
          refine ⟨by omega, fun q hq => ?_⟩
          have := hh.2 q hq
          simp only [okPair] at this
          simp only [okB]
          omega
        have hfo : ∃ oc odd fd sl, (f21, (⟨oc, odd, .func fd, sl⟩ : Obj)) ∈ LL := ⟨_, _, _, _, by rw [hLL]; exact .head _⟩
        obtain ⟨ocf, oddf, fdf, slf, hfo⟩ := hfo
        have nDs : @Ne Nat D20 src := fun e => o20' _ (.head _) e.symm
        have nDT : @Ne Nat D20 (s₁.heap.objs.size + 1 + 1 + 1 + 1) := fun e => o20' _ (.tail _ (.head _)) e.symm
        refine gk ?_
        clear gk gX
        simp only [List.size_toArray]
        refine' orows_c (kn := LL) (n := ys.length) (fn := fun y => (lss[(y - (rt - 2)).toNat]?).getD []) K' F21 X' N22 (fun q hq => hq) T9 rfl ?zd ?zu hfo hrow (by omega) (by omega) (by omega) hfn ?_
        (case zd => walk_at "mine:room")
        (case zu => walk_at "mine:units")
        intro r23 add23 h23 tk23 G23 F23 N23 l23 hr23 hG23
        obtain ⟨psB, hpB⟩ : ∃ psB, (208, tabObj psB) ∈ LL := ⟨_, by rw [hLL]; exact .tail _ (.tail _ (.tail _ (.tail _ (.tail _ (.tail _ (.tail _ (.tail _ (.head _))))))))⟩
        have hsrcL : ∀ p ∈ add23, @LT.lt Nat _ src p.1 := fun p hp => l23 (src, o20) (by rw [hLL]; exact .tail _ (.tail _ (.tail _ (.head _)))) p hp
        have N24 : News (ghostOf s₁.heap [(210, 208)]) s₁.heap.objs.size h23 ((src, o20) :: (s₁.heap.objs.size + 1 + 1 + 1 + 1, oT2) :: (s₁.heap.objs.size + 1 + 1 + 1, oL2) :: (s₁.heap.objs.size + 1, oS3) :: (D20, lst ys) :: (208, tabObj psB) :: (add23 ++ known)) := by
          intro q hq
          refine N23 q ?_
          by_cases hB8 : q = (208, tabObj psB)
          · rw [hB8]
            exact List.mem_append_right _ hpB
          rw [hLL]
          (first | (refine sub_in hq ?_; walk_at "mine:in"; done) | (trace "GRINDBACK"; simp only [List.mem_cons, List.mem_append] at hq ⊢; grind only))
        have offs24 : ∀ q ∈ add23 ++ known, q.1 ≠ src := fun q hq => (List.mem_append.mp hq).elim (fun h => (Nat.ne_of_lt (hsrcL q h)).symm) fun h => (Nat.ne_of_lt (hlt1 q h)).symm
        have hr24 : RegionIn PySem.Challenge.rw_pf0187_01.row.prog w add23 r23 G23 := hr23
        clear N23 N22 N21
        walk_at "mine:steps"
        rename_i hR FR NR
        refine comp_rule FR (by with_unfolding_all rfl) (by decide) (by rfl) (by decide) ?_
        walk_at "mine:steps"
        refine comp_enum rfl FR NR (.tail _ (.tail _ (.tail _ (.tail _ (.head _))))) rfl rfl (by rw [sizeLine_eq]; omega) (fun I40 h40 tk40 l40 => ?_)
        refine comp_ind (fun xs vals nx => Ex5 fun (us : List Value) (ls ds : List (List (Int × Int))) (r : List (Int × Value)) (add : List (Addr × Obj)) => An6 (xs = enumItems ds.length us) (DatAll known us (ls.map pds)) (ds ++ ls = lss) (MadeRows add vals r (rowsL (rt - 2) ds)) (nx = add ++ ((src, o20) :: (s₁.heap.objs.size + 1 + 1 + 1 + 1, oT2) :: (s₁.heap.objs.size + 1 + 1 + 1, oL2) :: (s₁.heap.objs.size + 1, oS3) :: (D20, lst ys) :: (208, tabObj psB) :: (add23 ++ known))) (∀ q ∈ ((src, o20) :: (s₁.heap.objs.size + 1 + 1 + 1 + 1, oT2) :: (s₁.heap.objs.size + 1 + 1 + 1, oL2) :: (s₁.heap.objs.size + 1, oS3) :: (D20, lst ys) :: (208, tabObj psB) :: (add23 ++ known)), ∀ r ∈ add, q.1 < r.1)) ?_ ?_ _ _ _ ?_
        · intro vals nx hI0 D41 h41 tk41 F41 N41 o41
          refine fold_Q ?_
          intro qF3
          refine fold_E ?_
          intro eF3
          refine fold_A ?_
          intro aF3
          refine fold_goal (fun gX gk => ?_)
          obtain ⟨us, ls, ds, r, add, x1, x2, x3, x4, rfl, x6⟩ := hI0
          have x1' : us = [] := by
            cases us with
            | nil => rfl
            | cons u us => simp [enumItems] at x1
          subst x1'
          have x2' : ls = [] := by simpa using x2.length.symm
          subst x2'
          rw [List.append_nil] at x3
          subst x3
          refine gk ?_
          clear gk gX
          walk_at "mine:steps"
          refine' dict_list_c rfl F41 N41 T9.nolimit (.head _) x4 (fun p hp => .tail _ (List.mem_append_left _ hp)) (rowsL_nodup _ _) ?zz ?_
          (case zz => (rw [rowsL_len]; omega))
          intro d42 od42 h42 tk42 F42 N42 l42 hD42
          walk_at "mine:steps"
          rename_i hQ FQ NQ
          refine fold_goal (fun gX gk => ?_)
          obtain ⟨x23, dx23, d23, od23, hs23, t23, n23, kv23, rfl, hx23, hy23⟩ := id hr24
          have hkn5 : ∀ q ∈ add23, q ∈ (d42, od42) :: (D41, lst vals) :: (add ++ ((src, o20) :: (s₁.heap.objs.size + 1 + 1 + 1 + 1, oT2) :: (s₁.heap.objs.size + 1 + 1 + 1, oL2) :: (s₁.heap.objs.size + 1, oS3) :: (D20, lst ys) :: (208, tabObj psB) :: (add23 ++ known))) := fun q hq => .tail _ (.tail _ (List.mem_append_right _ (.tail _ (.tail _ (.tail _ (.tail _ (.tail _ (.tail _ (List.mem_append_left _ hq)))))))))
          have hRI := hr24.mono hkn5
          have hDI : DictIn PySem.Challenge.rw_pf0187_01.row.prog w ((d42, od42) :: (D41, lst vals) :: (add ++ ((src, o20) :: (s₁.heap.objs.size + 1 + 1 + 1 + 1, oT2) :: (s₁.heap.objs.size + 1 + 1 + 1, oL2) :: (s₁.heap.objs.size + 1, oS3) :: (D20, lst ys) :: (208, tabObj psB) :: (add23 ++ known)))) (.ref d42) (rowsL (rt - 2) ds) := by
            obtain ⟨kvz, z1, z2, z3⟩ := hD42
            exact ⟨d42, od42, kvz, rfl, .head _, z1, z2.mono fun q hq => .tail _ (.tail _ (List.mem_append_left _ hq)), z3⟩
          have hRG : RegIs G23 (rowAt (rowsL (rt - 2) ds)) := by
            refine ⟨hG23.1, hG23.2.1, fun y => ?_⟩
            rw [hG23.2.2, rowsL_at, hyl]
          have hOK : OkRows (rowsL (rt - 2) ds) := by
            refine rowsL_ok (by omega) (by omega) fun ps hps => ?_
            have hh := p5 ps hps
            refine ⟨by omega, fun q hq => ?_⟩
            have := hh.2 q hq
            simp only [okPair] at this
            simp only [okB]
            omega
          refine gk ?_
          clear gk gX
          refine' right_c K' FQ X' NQ (fun q hq => hq) T9 rfl ?zd ?zu hRI hDI hRG hOK ?_
          (case zd => walk_at "mine:room")
          (case zu => walk_at "mine:units")
          intro h50 tk50 F50 N50
          have N51 : News (ghostOf s₁.heap [(210, 208)]) s₁.heap.objs.size h50 ((src, o20) :: (s₁.heap.objs.size + 1 + 1 + 1 + 1, oT2) :: (s₁.heap.objs.size + 1 + 1 + 1, oL2) :: (s₁.heap.objs.size + 1, oS3) :: (D20, lst ys) :: (208, tabObj psB) :: (add23 ++ known)) := fun q hq => N50 q (.tail _ (.tail _ (List.mem_append_right _ hq)))
          clear N50 NQ hRI hDI hRG hOK hD42 x4 x6 hrow hfn hG23 hr24 hr23
          walk_at "mine:steps"
          refine' rects_c K' F50 X' N51 ?U p3 T9 rfl ?zd ?zu ?_
          (case U => k_updF)
          (case zd => walk_at "mine:room")
          (case zu => walk_at "mine:units")
          intro o51 h51 tk51 ho51 F51 N52
          (try dsimp only at N52)
          have N53 : News (ghostOf s₁.heap [(210, 208)]) s₁.heap.objs.size h51 [(208, tabObj psB)] := fun q hq => N52 q (.tail _ (.tail _ (.tail _ (.tail _ (.tail _ (by rw [List.mem_singleton.mp hq]; exact .head _))))))
          clear N52
          walk_at "mine:steps"
          rename_i TA0 hA0 lA0 TB0 hB0 lB0 lx0 hC0 F60 N60 lC0
          refine' isnormal_c (ps := [(0, 2), (2, 3)]) K' F60 X' N60 (fun q hq => hq) T9 rfl ?zd ?zu ?zv ?_
          (case zv => exact DatIn.list (.head _) (.cons (DatIn.tuple (.tail _ (.tail _ (.head _))) (.cons (.int _ _) (.cons (.int _ _) .nil))) (.cons (DatIn.tuple (.tail _ (.head _)) (.cons (.int _ _) (.cons (.int _ _) .nil))) .nil)))
          (case zd => walk_at "mine:room")
          (case zu => walk_at "mine:units")
          intro h70 tk70 F70 N70
          have en0 : normFrom none [(0, 2), (2, 3)] = false := by decide
          rw [en0]
          have N80 : News (ghostOf s₁.heap [(210, 208)]) s₁.heap.objs.size h70 [(208, tabObj psB)] := fun q hq => N70 q (by rw [List.mem_singleton.mp hq]; exact .tail _ (.tail _ (.tail _ (.head _))))
          clear N70 N60
          walk_at "mine:steps"
          rename_i TA1 hA1 lA1 lx1 hC1 F61 N61 lC1
          refine' isnormal_c (ps := [(1, 1)]) K' F61 X' N61 (fun q hq => hq) T9 rfl ?zd ?zu ?zv ?_
          (case zv => exact DatIn.list (.head _) (.cons (DatIn.tuple (.tail _ (.head _)) (.cons (.int _ _) (.cons (.int _ _) .nil))) .nil))
          (case zd => walk_at "mine:room")
          (case zu => walk_at "mine:units")
          intro h71 tk71 F71 N71
          have en1 : normFrom none [(1, 1)] = false := by decide
          rw [en1]
          have N81 : News (ghostOf s₁.heap [(210, 208)]) s₁.heap.objs.size h71 [(208, tabObj psB)] := fun q hq => N71 q (by rw [List.mem_singleton.mp hq]; exact .tail _ (.tail _ (.head _)))
          clear N71 N61
          walk_at "mine:steps"
          rename_i TA2 hA2 lA2 TB2 hB2 lB2 lx2 hC2 F62 N62 lC2
          refine' isnormal_c (ps := [(3, 4), (0, 1)]) K' F62 X' N62 (fun q hq => hq) T9 rfl ?zd ?zu ?zv ?_
          (case zv => exact DatIn.list (.head _) (.cons (DatIn.tuple (.tail _ (.tail _ (.head _))) (.cons (.int _ _) (.cons (.int _ _) .nil))) (.cons (DatIn.tuple (.tail _ (.head _)) (.cons (.int _ _) (.cons (.int _ _) .nil))) .nil)))
          (case zd => walk_at "mine:room")
          (case zu => walk_at "mine:units")
          intro h72 tk72 F72 N72
          have en2 : normFrom none [(3, 4), (0, 1)] = false := by decide
          rw [en2]
          have N82 : News (ghostOf s₁.heap [(210, 208)]) s₁.heap.objs.size h72 [(208, tabObj psB)] := fun q hq => N72 q (by rw [List.mem_singleton.mp hq]; exact .tail _ (.tail _ (.tail _ (.head _))))
          clear N72 N62
          walk_at "mine:steps"
          refine' callWith_K ?k1 ?k2 ?_
          (case k1 => k_asm)
          (case k2 => k_is)
          walk_at "mine:steps"
          rename_i gd ga1 go0 glo ghd0 gl0 gD1 gh1 gm1 gL1 gh2 gm2 gD2 gh3 gm3 gL2 gh4 gm4 gD3 gh5 gm5 gL3 gh6 gm6 gD4 gh7 gm7 gL4 gh8 gm8 gD5 gh9 gm9 gL5 gh10 gF0 gN0 gm10 gh11 go gF gN ghd
          clear gF0 gN0 ghd0
          refine' region_c (R := gapR) K' gF X' gN (fun q hq => hq) T9 rfl ?zd ?zu ?zv gap_len gap_sz ?_
          (case zv => exact ⟨gd, go, [(0, .ref gL1), (2, .ref gL2), (3, .ref gL3), (4, .ref gL4), (5, .ref gL5)], rfl, (.tail _ (.tail _ (.tail _ (.tail _ (.tail _ (.tail _ (.tail _ (.tail _ (.tail _ (.tail _ (.head _))))))))))), ghd, (.cons (DatIn.list (.tail _ (.tail _ (.tail _ (.tail _ (.tail _ (.tail _ (.tail _ (.tail _ (.head _))))))))) (.cons (DatIn.tuple (.tail _ (.tail _ (.tail _ (.tail _ (.tail _ (.tail _ (.tail _ (.tail _ (.tail _ (.head _)))))))))) (.cons (.int _ _) (.cons (.int _ _) .nil))) .nil)) (.cons (DatIn.list (.tail _ (.tail _ (.tail _ (.tail _ (.tail _ (.tail _ (.head _))))))) (.cons (DatIn.tuple (.tail _ (.tail _ (.tail _ (.tail _ (.tail _ (.tail _ (.tail _ (.head _)))))))) (.cons (.int _ _) (.cons (.int _ _) .nil))) .nil)) (.cons (DatIn.list (.tail _ (.tail _ (.tail _ (.tail _ (.head _))))) (.cons (DatIn.tuple (.tail _ (.tail _ (.tail _ (.tail _ (.tail _ (.head _)))))) (.cons (.int _ _) (.cons (.int _ _) .nil))) .nil)) (.cons (DatIn.list (.tail _ (.tail _ (.head _))) (.cons (DatIn.tuple (.tail _ (.tail _ (.tail _ (.head _)))) (.cons (.int _ _) (.cons (.int _ _) .nil))) .nil)) (.cons (DatIn.list (.head _) (.cons (DatIn.tuple (.tail _ (.head _)) (.cons (.int _ _) (.cons (.int _ _) .nil))) .nil)) .nil))))), glo⟩)
          (case zd => walk_at "mine:room")
          (case zu => walk_at "mine:units")
          intro r90 add90 h90 tk90 G90 F90 N90 l90 hr90 hG90
          have eG : G90 = gapR := regIs_uniq hG90 gap_is
          rw [eG] at hr90
          have hr90' := hr90
          refine fold_goal (fun gX gk => ?_)
          obtain ⟨x90, dx90, d90, od90, hs90, t90, n90, kv90, rfl, -⟩ := hr90
          obtain ⟨K90, N91, m90, hr91⟩ : ∃ K90, News (ghostOf s₁.heap [(210, 208)]) s₁.heap.objs.size h90 K90 ∧ (208, tabObj psB) ∈ K90 ∧ RegionIn PySem.Challenge.rw_pf0187_01.row.prog w K90 (.ref x90) gapR := ⟨_, N90, List.mem_append_right _ (.tail _ (.tail _ (.tail _ (.tail _ (.tail _ (.tail _ (.tail _ (.tail _ (.tail _ (.tail _ (.tail _ (.head _)))))))))))), hr90'⟩
          clear N90 l90 hr90' gN
          refine gk ?_
          clear gk gX
          trace "AT RECT"
          trace_state
          walk_at "mine:steps"
          rename Fr (ghostOf s₁.heap [(210, 208)]) _ _ _ => F91
          rename News (ghostOf s₁.heap [(210, 208)]) _ _ _ => N92
          refine' rectangles_c (kn := K90) (G := gapR) K' F91 X' N92 (fun q hq => hq) T9 rfl ?zd ?zu hr91 (Nat.le_trans gap_len (by decide)) gap_sum gap_nd ?_
          (case zd => walk_at "mine:room")
          (case zu => walk_at "mine:units")
          intro ld93 add93 h93 tk93 F93 N93 l93 dat93
          refine fold_goal (fun gX gk => ?_)
          obtain ⟨l93', vs93, n93, e93, hl93, hd93⟩ := dat_list dat93
          cases e93
          obtain ⟨Qg, K93, hQg, N94, m93, hl94, hd94⟩ : ∃ Qg K93, Qg = [(0, 0, 2, 1), (0, 2, 2, 2), (0, 4, 1, 1), (0, 5, 2, 1)] ∧ News (ghostOf s₁.heap [(210, 208)]) s₁.heap.objs.size h93 K93 ∧ (208, tabObj psB) ∈ K93 ∧ (ld93, listOf vs93.toArray n93) ∈ K93 ∧ DatAll K93 vs93 (Qg.map qd) := ⟨rectB gapR, _, gap_rect, N93, List.mem_append_right _ m90, hl93, hd93⟩
          clear N93 l93 dat93 hl93 hd93 N92 hr91 m90
          refine gk ?_
          clear gk gX
          walk_at "mine:steps"
          rename News (ghostOf s₁.heap [(210, 208)]) _ _ _ => N99
          rename Fr (ghostOf s₁.heap [(210, 208)]) _ _ _ => F99
          refine' kqd_eq N99 (.tail _ (.tail _ (.tail _ (.tail _ (.tail _ (hl94)))))) rfl rfl hd94 (fun q hq => (.tail _ (.tail _ (.tail _ (.tail _ (.tail _ (hq))))))) (.head _) rfl rfl ?dq (fun q hq => hq) (qd_ok _) (qd_ok [(0, 0, 2, 1), (0, 2, 2, 2), (0, 4, 1, 1), (0, 5, 2, 1)]) ?rm ?_
          (case dq => exact (.cons (DatIn.tuple (.tail _ (.tail _ (.tail _ (.tail _ (.head _))))) (.cons (.int _ _) (.cons (.int _ _) (.cons (.int _ _) (.cons (.int _ _) .nil))))) (.cons (DatIn.tuple (.tail _ (.tail _ (.tail _ (.head _)))) (.cons (.int _ _) (.cons (.int _ _) (.cons (.int _ _) (.cons (.int _ _) .nil))))) (.cons (DatIn.tuple (.tail _ (.tail _ (.head _))) (.cons (.int _ _) (.cons (.int _ _) (.cons (.int _ _) (.cons (.int _ _) .nil))))) (.cons (DatIn.tuple (.tail _ (.head _)) (.cons (.int _ _) (.cons (.int _ _) (.cons (.int _ _) (.cons (.int _ _) .nil))))) .nil)))))
          (case rm => ke_room)
          rw [hQg, dat_eq_same]
          (try dsimp only)
          exact ⟨goodW_bool F99 hg (law_raises _) (law_post ns) rfl, GrownAt.of N99 (.tail _ (.tail _ (.tail _ (.tail _ (.tail _ m93))))), trivial⟩
        · intro it r vals nx hI0 v9 C9 oC9 m9 D9 h9 tk9 E9 hv9 hoC9 F9 hCD oE9 hoE9 oI9 hoI9 N9 o9 o9'
          refine fold_Q ?_
          intro qF4
          refine fold_E ?_
          intro eF4
          refine fold_A ?_
          intro aF4
          refine fold_goal (fun gX gk => ?_)
          obtain ⟨us, ls, ds, r', add, x1, x2, x3, x4, rfl, x6⟩ := hI0
          cases us with
          | nil => simp [enumItems] at x1
          | cons u us =>
            simp only [enumItems, List.cons.injEq] at x1
            obtain ⟨rfl, rfl⟩ := x1
            obtain ⟨TU, tU, rfl, hTU⟩ := hv9
            cases ls with
            | nil => cases x2
            | cons d9 ls =>
              cases x2
              rename_i x2 x7
              have x2' := x2
              obtain ⟨lu, vu, nu, rfl, hlu, hdu⟩ := dat_list x2
              have hd9 : d9 ∈ lss := x3 ▸ List.mem_append_right _ (.head _)
              have hps9 := p5 d9 hd9
              have hcT : (s₁.heap.objs.size + 1 + 1 + 1 + 1, oT2) ∈ add ++ ((src, o20) :: (s₁.heap.objs.size + 1 + 1 + 1 + 1, oT2) :: (s₁.heap.objs.size + 1 + 1 + 1, oL2) :: (s₁.heap.objs.size + 1, oS3) :: (D20, lst ys) :: (208, tabObj psB) :: (add23 ++ known)) := List.mem_append_right _ (.tail _ (.head _))
              have hkB : ∀ q ∈ known, q ∈ add ++ ((src, o20) :: (s₁.heap.objs.size + 1 + 1 + 1 + 1, oT2) :: (s₁.heap.objs.size + 1 + 1 + 1, oL2) :: (s₁.heap.objs.size + 1, oS3) :: (D20, lst ys) :: (208, tabObj psB) :: (add23 ++ known)) := fun q hq => List.mem_append_right _ (.tail _ (.tail _ (.tail _ (.tail _ (.tail _ (.tail _ (List.mem_append_right _ hq)))))))
              refine gk ?_
              clear gk gX
              refine comp_asg2 (pre := [(I40 + 1, oE9), (I40, oI9)]) rfl hTU (by rfl) (by rfl) (by decide) (by rfl) hoC9 F9 N9 ?_ ?_ (fun oC10 m10 h10 tk10 hoC10 hm10 hm11 F10 N10 => ?_)
              · intro q hq
                exact (o9' q hq).1
              · intro q hq
                rcases mem_cons_s hq with rfl | hq
                · exact Ne.symm hCD
                · exact (o9 q hq).2.1
              refine wpAny_tests_nil ?_
              simp only [if_true]
              walk_at "mine:steps"
              refine' spans_c (kn := known) (ps := d9) K' F10 X' N10 (fun q hq => .tail _ (.tail _ (.tail _ (.tail _ (hkB q hq))))) T9 rfl ?zd ?zu x2' (by omega) ?_
              (case zd => walk_at "mine:room")
              (case zu => walk_at "mine:units")
              intro r11 add11 h11 tk11 F11 N11 gt11 d11
              walk_at "mine:steps"
              rename_i TT h17 F12 N17 gtT
              obtain ⟨uy, N12⟩ : ∃ uy, News (ghostOf s₁.heap [(210, 208)]) s₁.heap.objs.size h17 ((TT, ({ cls := .type "tuple", data := .seq [Value.int (rt - 2 + (ds.length : Int)) uy, r11].toArray } : Obj)) :: (add11 ++ ([(I40 + 1, oE9), (I40, oI9)] ++ (C9, oC10) :: (D9, lst vals) :: (add ++ ((src, o20) :: (s₁.heap.objs.size + 1 + 1 + 1 + 1, oT2) :: (s₁.heap.objs.size + 1 + 1 + 1, oL2) :: (s₁.heap.objs.size + 1, oS3) :: (D20, lst ys) :: (208, tabObj psB) :: (add23 ++ known)))))) := ⟨_, N17⟩
              refine ⟨_, _, oC10, m10, ((TT, ({ cls := .type "tuple", data := .seq [Value.int (rt - 2 + (ds.length : Int)) uy, r11].toArray } : Obj)) :: (add11 ++ add)) ++ ((src, o20) :: (s₁.heap.objs.size + 1 + 1 + 1 + 1, oT2) :: (s₁.heap.objs.size + 1 + 1 + 1, oL2) :: (s₁.heap.objs.size + 1, oS3) :: (D20, lst ys) :: (208, tabObj psB) :: (add23 ++ known)), rfl, F12, hoC10, ?_, ?_, ⟨List.mem_append_right _ (.tail _ (.tail _ (.tail _ (.tail _ (.head _))))), trivial⟩, us, ls, ds ++ [d9], r' ++ [(rt - 2 + (ds.length : Int), r11)], (TT, ({ cls := .type "tuple", data := .seq [Value.int (rt - 2 + (ds.length : Int)) uy, r11].toArray } : Obj)) :: (add11 ++ add), by rw [List.length_append]; rfl, x7, by rw [List.append_assoc]; exact x3, ?_, rfl, ?_⟩
              · intro q hq
                refine N12 q ?_
                (first | (refine sub_in hq ?_; walk_at "mine:in"; done) | (trace "GRINDBACK"; simp only [List.mem_cons, List.mem_append, List.cons_append, List.nil_append] at hq ⊢; grind only))
              · intro q hq
                rcases List.mem_append.mp hq with hq | hq
                · rcases mem_cons_s hq with rfl | hq
                  · refine ⟨fun r hr => ?_, ?_, ?_⟩
                    · exact (Nat.ne_of_lt (gtT r (List.mem_append_right _ (List.mem_append_left _ hr)))).symm
                    · exact (Nat.ne_of_lt (gtT _ (List.mem_append_right _ (.tail _ (.tail _ (.head _)))))).symm
                    · exact (Nat.ne_of_lt (gtT _ (List.mem_append_right _ (.tail _ (.tail _ (.tail _ (.head _))))))).symm
                  · rcases List.mem_append.mp hq with hq | hq
                    · refine ⟨fun r hr => ?_, ?_, ?_⟩
                      · exact (Nat.ne_of_lt (gt11 r (List.mem_append_left _ hr) q hq)).symm
                      · exact (Nat.ne_of_lt (gt11 _ (.tail _ (.tail _ (.head _))) q hq)).symm
                      · exact (Nat.ne_of_lt (gt11 _ (.tail _ (.tail _ (.tail _ (.head _)))) q hq)).symm
                    · exact o9 q (List.mem_append_left _ hq)
                · exact o9 q (List.mem_append_right _ hq)
              · rw [rowsL_snoc]
                exact (x4.mono fun q hq => .tail _ (List.mem_append_right _ hq)).append (.cons (n := 0) (.head _) (DatIn.mono (fun q hq => .tail _ (List.mem_append_left _ hq)) d11) .nil)
              · intro q hq r hr
                rcases mem_cons_s hr with rfl | hr
                · exact gtT q (List.mem_append_right _ (.tail _ (.tail _ (.tail _ (.tail _ (List.mem_append_right _ hq))))))
                · rcases List.mem_append.mp hr with hr | hr
                  · exact gt11 q (.tail _ (.tail _ (.tail _ (.tail _ (List.mem_append_right _ hq))))) r hr
                  · exact x6 q hq r hr
        · exact ⟨ys, lss, [], [], [], rfl, p4, rfl, .nil, rfl, fun _ _ _ h => nomatch h⟩
      · intro it r ys nx hI0 v9 C9 oC9 m9 D9 h9 tk9 E9 hv9 hoC9 F9 hCD oI9 hoI9 N9 o9 o9'
        refine fold_Q ?_
        intro qF5
        refine fold_E ?_
        intro eF5
        refine fold_A ?_
        intro aF5
        refine fold_goal (fun gX gk => ?_)
        obtain ⟨o20, lss, p1, rfl, p3, p4, p5, p6⟩ := hI0
        obtain ⟨f5, rfl⟩ := p1 it (.head _)
        obtain ⟨t5, rfl⟩ := hv9
        have nI : @Ne Nat I19 src := fun e => (o9 _ (.head _)).1 _ (.head _) e.symm
        have nC : @Ne Nat C9 src := fun e => (o9 _ (.head _)).2.1 e.symm
        have nD : @Ne Nat D9 src := fun e => (o9 _ (.head _)).2.2 e.symm
        have hnk : @Ne Nat kl src := Nat.ne_of_gt (hlt1 _ hkm)
        have hkm2 : (kl, listOf kvs.toArray 0) ∈ ((s₁.heap.objs.size + 1 + 1 + 1 + 1, oT2) :: (s₁.heap.objs.size + 1 + 1 + 1, oL) :: (s₁.heap.objs.size + 1 + 1, oK2) :: (s₁.heap.objs.size + 1, oS3) :: (208, tabObj #[]) :: known) := .tail _ (.tail _ (.tail _ (.tail _ (.tail _ hkm))))
        refine gk ?_
        clear gk gX
        refine comp_asg1 (pre := [(I19, oI9)]) (by rfl) (by rfl) hoC9 F9 N9 ?_ ?_ (fun oC10 m10 h10 tk10 hoC10 hm10 F10 N10 => ?_)
        · intro q hq
          exact (o9' q hq).1
        · intro q hq
          rcases mem_cons_s hq with rfl | hq
          · exact Ne.symm hCD
          · exact (o9 q hq).2.1
        refine wpAny_tests_nil ?_
        simp only [if_true]
        walk_at "mine:steps"
        have hvl := hkd.length
        rw [List.length_map, hkl] at hvl
        refine' one_c K' F10 X' N10 ?U p3 (.tail _ (.tail _ (.tail _ (.tail _ hkm2)))) hnk T' rfl ?zd ?zu (by omega) (by omega) ?_
        (case U => k_updF)
        (case zd => walk_at "mine:room")
        (case zu => walk_at "mine:units")
        intro i11 hi11 o11 h11 tk11 ho11 F11 N11
        refine fold_goal (fun gX gk => ?_)
        obtain ⟨d11, hd11, hdi⟩ := dat_all_mem hkd _ (List.getElem_mem hi11)
        obtain ⟨ps11, hps11, rfl⟩ := List.mem_map.mp hd11
        (try dsimp only at N11)
        refine gk ?_
        clear gk gX
        walk_at "mine:steps"
        refine ⟨_, _, oC10, m10, (src, o11) :: ((s₁.heap.objs.size + 1 + 1 + 1 + 1, oT2) :: (s₁.heap.objs.size + 1 + 1 + 1, oL) :: (s₁.heap.objs.size + 1 + 1, oK2) :: (s₁.heap.objs.size + 1, oS3) :: (208, tabObj #[]) :: known), rfl, F11, hoC10, N11, ?_, trivial, o11, lss ++ [ps11], fun q hq => p1 q (.tail _ hq), rfl, ho11, ?_, ?_, ?_⟩
        · intro q hq
          rcases mem_cons_s hq with rfl | hq
          · exact o9 (src, o20) (.head _)
          · exact o9 q (.tail _ hq)
        · rw [List.map_append]
          exact DatAll.append p4 (DatAll.one hdi)
        · intro ps hps
          rcases List.mem_append.mp hps with h | h
          · exact p5 ps h
          · rw [List.mem_singleton.mp h]
            exact hkp ps11 hps11
        · simp only [List.length_append, List.length_cons, List.length_nil] at p6 ⊢
          omega
      · refine ⟨o17, [], fun it hit => ?_, rfl, ho17, .nil, (fun _ h => nomatch h), ?_⟩
        · refine fold_goal (fun gX gk => ?_)
          obtain ⟨k, _, rfl⟩ := List.mem_map.mp hit
          refine gk ?_
          clear gk gX
          exact ⟨_, rfl⟩
        · simp only [rangeItms, List.length_map, rangeKs_length, List.length_nil]
          omega
    · intro it r m5 nx hI5 v5 h5 tk5 hit F5 oI hoI N5
      refine fold_Q ?_
      intro qF6
      refine fold_E ?_
      intro eF6
      refine fold_A ?_
      intro aF6
      refine fold_goal (fun gX gk => ?_)
      obtain ⟨kr, us, e1, e2, e3, rfl⟩ := hI5
      cases us with
      | nil => simp at e1
      | cons u us =>
        simp only [List.map_cons, List.cons.injEq] at e1
        obtain ⟨rfl, rfl⟩ := e1
        have hu : v5 = u := hit
        subst hu
        cases kr with
        | nil => cases e2
        | cons ps5 kr =>
          cases e2
          rename_i e2 e4
          have hps := e3 ps5 (.head _)
          have hok : ∀ q ∈ ps5, okB q := fun q hq => by
            have := hps.2 q hq
            simp only [okPair] at this
            simp only [okB]
            omega
          have e2' := e2
          obtain ⟨lp, vp, np, rfl, hlp, hdp⟩ := dat_list e2
          have N6 : News (ghostOf s₁.heap [(210, 208)]) s₁.heap.objs.size h5 ((I16, oI) :: ((src, o7) :: (s₁.heap.objs.size + 1 + 1 + 1 + 1, oT2) :: (s₁.heap.objs.size + 1 + 1 + 1, oL) :: (s₁.heap.objs.size + 1 + 1, oK2) :: (s₁.heap.objs.size + 1, oS3) :: (208, tabObj #[]) :: known)) := N5
          clear N5 F14 N15
          refine gk ?_
          clear gk gX
          (try dsimp only)
          walk_at "mine:steps"
          rename_i hT FT NT
          have hkk : ∀ q ∈ known, q ∈ (I16, oI) :: ((src, o7) :: (s₁.heap.objs.size + 1 + 1 + 1 + 1, oT2) :: (s₁.heap.objs.size + 1 + 1 + 1, oL) :: (s₁.heap.objs.size + 1 + 1, oK2) :: (s₁.heap.objs.size + 1, oS3) :: (208, tabObj #[]) :: known) := fun q hq => .tail _ (hkK q hq)
          refine' normal_s (kn := known) (ps := ps5) K' FT X' NT hkk T9 rfl ?zd ?zu e2' (by omega) hok ?_
          (case zd => walk_at "mine:room")
          (case zu => walk_at "mine:units")
          intro rN addN hN tkN FN NN lN dN lenN
          refine fold_goal (fun gX gk => ?_)
          obtain ⟨ln, vn, nn, rfl, hln, hdn⟩ := dat_list dN
          refine gk ?_
          clear gk gX
          walk_at "mine:steps"
          refine' spans_c (kn := known) (ps := ps5) K' FN X' NN (fun q hq => List.mem_append_right _ (hkk q hq)) T9 rfl ?zd ?zu e2' (by omega) ?_
          (case zd => walk_at "mine:room")
          (case zu => walk_at "mine:units")
          intro rS addS hS tkS FS NS lS dSp
          refine fold_goal (fun gX gk => ?_)
          obtain ⟨lsp, vsp, nsp, rfl, hlsp, hdsp⟩ := dat_list dSp
          have hln3 : (ln, listOf vn.toArray nn) ∈ addS ++ (addN ++ (I16, oI) :: ((src, o7) :: (s₁.heap.objs.size + 1 + 1 + 1 + 1, oT2) :: (s₁.heap.objs.size + 1 + 1 + 1, oL) :: (s₁.heap.objs.size + 1 + 1, oK2) :: (s₁.heap.objs.size + 1, oS3) :: (208, tabObj #[]) :: known)) := List.mem_append_right _ (List.mem_append_left _ hln)
          have hls3 : (lsp, listOf vsp.toArray nsp) ∈ addS ++ (addN ++ (I16, oI) :: ((src, o7) :: (s₁.heap.objs.size + 1 + 1 + 1 + 1, oT2) :: (s₁.heap.objs.size + 1 + 1 + 1, oL) :: (s₁.heap.objs.size + 1 + 1, oK2) :: (s₁.heap.objs.size + 1, oS3) :: (208, tabObj #[]) :: known)) := List.mem_append_left _ hlsp
          refine gk ?_
          clear gk gX
          walk_at "mine:steps"
          rename_i D30 hA30 l30 hB30 hC30 hD30 F30 N30
          have N31 : News (ghostOf s₁.heap [(210, 208)]) s₁.heap.objs.size hD30 (addS ++ (addN ++ (I16, oI) :: ((src, o7) :: (s₁.heap.objs.size + 1 + 1 + 1 + 1, oT2) :: (s₁.heap.objs.size + 1 + 1 + 1, oL) :: (s₁.heap.objs.size + 1 + 1, oK2) :: (s₁.heap.objs.size + 1, oS3) :: (208, tabObj #[]) :: known))) := fun q hq => N30 q (.tail _ hq)
          refine kqd_ne N31 hln3 rfl rfl hdn (fun q hq => List.mem_append_right _ (List.mem_append_left _ hq)) hls3 rfl rfl hdsp (fun q hq => List.mem_append_left _ hq) (pd_ok _) (pd_ok _) ?_ ?_
          · ke_room
          rw [dat_ne_same]
          clear N30 l30
          walk_at "mine:steps"
          refine' isnormal_c (kn := addN) (ps := spansOf ps5) K' F30 X' N31 (fun q hq => List.mem_append_right _ (List.mem_append_left _ hq)) T9 rfl ?zd ?zu dN ?_
          (case zd => walk_at "mine:room")
          (case zu => walk_at "mine:units")
          intro h32 tk32 F32 N32
          rw [spans_isnormal fun q hq => (hok q hq).inB]
          walk_at "mine:steps"
          refine' length_c (kn := addN) (ps := spansOf ps5) K' F32 X' N32 (fun q hq => List.mem_append_right _ (List.mem_append_left _ hq)) T9 rfl ?zd ?zu dN ?_
          (case zd => walk_at "mine:room")
          (case zu => walk_at "mine:units")
          intro t33 h33 tk33 F33 N33
          walk_at "mine:steps"
          refine comp_rule F33 (by with_unfolding_all rfl) (by decide) (by rfl) (by decide) ?_
          walk_at "mine:steps"
          refine comp_list rfl F33 N33 hls3 rfl rfl ?_ (fun I34 h34 tk34 l34 => ?_)
          · have h1 := hdsp.length
            rw [List.length_map] at h1
            have h2 := hps.1
            rw [sizeLine_eq]
            omega
          refine comp_ind (fun xs ys nx => Ex4 fun (rs qs : List (Int × Int)) (us : List Value) (ns : List Int) => An6 (xs = us.map .val) (DatAll addS us (rs.map pd)) (qs ++ rs = spansOf ps5) (IntsAre ys ns) (ns = qs.map (fun q => q.2 - q.1)) (nx = (addS ++ (addN ++ (I16, oI) :: ((src, o7) :: (s₁.heap.objs.size + 1 + 1 + 1 + 1, oT2) :: (s₁.heap.objs.size + 1 + 1 + 1, oL) :: (s₁.heap.objs.size + 1 + 1, oK2) :: (s₁.heap.objs.size + 1, oS3) :: (208, tabObj #[]) :: known))))) ?_ ?_ _ _ _ ?_
          · intro ys nx hI0 D21 h21 tk21 F21 N21 o21
            refine fold_Q ?_
            intro qF7
            refine fold_E ?_
            intro eF7
            refine fold_A ?_
            intro aF7
            refine fold_goal (fun gX gk => ?_)
            obtain ⟨rs2, qs2, us2, ns2, q1, q2, q3, q4, q5, rfl⟩ := hI0
            have q1' : us2 = [] := by simpa using q1.symm
            subst q1'
            have q2' : rs2 = [] := by simpa using q2.length.symm
            subst q2'
            rw [List.append_nil] at q3
            have e : lenOf (spansOf ps5) = ns2.sum := by rw [q5, q3]; rfl
            refine gk ?_
            clear gk gX
            walk_at "mine:steps"
            rename_i h35 tk35 t35 F35 N35
            refine ne_int ?_
            have eb : (lenOf (spansOf ps5) != ns2.sum) = false := by rw [e]; simp
            rw [eb]
            have N36 : News (ghostOf s₁.heap [(210, 208)]) s₁.heap.objs.size h35 (addS ++ (addN ++ (I16, oI) :: ((src, o7) :: (s₁.heap.objs.size + 1 + 1 + 1 + 1, oT2) :: (s₁.heap.objs.size + 1 + 1 + 1, oL) :: (s₁.heap.objs.size + 1 + 1, oK2) :: (s₁.heap.objs.size + 1, oS3) :: (208, tabObj #[]) :: known))) := fun q hq => N35 q (.tail _ hq)
            clear N35 N21 F21 e eb q4 q5
            walk_at "mine:steps"
            refine ⟨h35, tk35, _, ((src, o7) :: (s₁.heap.objs.size + 1 + 1 + 1 + 1, oT2) :: (s₁.heap.objs.size + 1 + 1 + 1, oL) :: (s₁.heap.objs.size + 1 + 1, oK2) :: (s₁.heap.objs.size + 1, oS3) :: (208, tabObj #[]) :: known), rfl, F35, fun q hq => N36 q (List.mem_append_right _ (List.mem_append_right _ hq)), ?_, ⟨hkm1, trivial⟩, kr, us, rfl, e4, fun ps hps => e3 ps (.tail _ hps), rfl⟩
            intro q hq r hr
            rw [List.mem_singleton.mp hr]
            exact Nat.ne_of_lt (l16 q hq)
          · intro it r ys nx hI0 v22 C22 oC22 m22 D22 h22 tk22 E22 hv22 hoC22 F22 hCD oI22 hoI22 N22 o22 o22'
            refine fold_Q ?_
            intro qF8
            refine fold_E ?_
            intro eF8
            refine fold_A ?_
            intro aF8
            refine fold_goal (fun gX gk => ?_)
            obtain ⟨rs2, qs2, us2, ns2, q1, q2, q3, q4, q5, rfl⟩ := hI0
            cases us2 with
            | nil => simp at q1
            | cons u us2 =>
              simp only [List.map_cons, List.cons.injEq] at q1
              obtain ⟨rfl, rfl⟩ := q1
              have hu : v22 = u := hv22
              subst hu
              cases rs2 with
              | nil => cases q2
              | cons qq rs2 =>
                cases q2
                rename_i q2 q6
                obtain ⟨t, ta, tb, n9, rfl, ht⟩ := dat_pair q2
                have ht1 : _ ∈ (addS ++ (addN ++ (I16, oI) :: ((src, o7) :: (s₁.heap.objs.size + 1 + 1 + 1 + 1, oT2) :: (s₁.heap.objs.size + 1 + 1 + 1, oL) :: (s₁.heap.objs.size + 1 + 1, oK2) :: (s₁.heap.objs.size + 1, oS3) :: (208, tabObj #[]) :: known))) := List.mem_append_left _ ht
                refine gk ?_
                clear gk gX
                refine comp_asg2 (pre := [(I34, oI22)]) rfl ⟨_, (N22 _ (.tail _ (.tail _ (.tail _ ht1)))).1, rfl, n9, rfl⟩ (by rfl) (by rfl) (by decide) (by rfl) hoC22 F22 N22 ?_ ?_ (fun oC23 m23 h23 tk23 hoC23 e1 e2 F23 N23 => ?_)
                · intro q hq
                  exact (o22' q hq).1
                · intro q hq
                  rcases mem_cons_s hq with rfl | hq
                  · exact Ne.symm hCD
                  · exact (o22 q hq).2.1
                refine wpAny_tests_nil ?_
                simp only [if_true]
                walk_at "mine:steps"
                refine ⟨_, _, oC23, m23, _, rfl, F23, hoC23, N23, o22, ⟨List.mem_append_left _ hlsp, trivial⟩, rs2, qs2 ++ [qq], us2, ns2 ++ [qq.2 - qq.1], rfl, q6, by rw [List.append_assoc, List.singleton_append]; exact q3, q4.append (.cons _ _ .nil), ?_, rfl⟩
                rw [q5, List.map_append]
                rfl
          · exact ⟨spansOf ps5, [], vsp, [], rfl, hdsp, rfl, .nil, rfl, rfl⟩
    · exact ⟨kps, kvs, rfl, hkd, hkp, rfl⟩
  · intro it r ys nx hI0 v9 C9 oC9 m9 D9 h9 tk9 E9 hv9 hoC9 F9 hCD oI9 hoI9 N9 o9 o9'
    refine fold_Q ?_
    intro qF9
    refine fold_E ?_
    intro eF9
    refine fold_A ?_
    intro aF9
    refine fold_goal (fun gX gk => ?_)
    obtain ⟨o7, pss, add, q1, rfl, q3, q4, q5, q6, q7⟩ := hI0
    obtain ⟨f5, rfl⟩ := q1 it (.head _)
    obtain ⟨t5, rfl⟩ := hv9
    have nI : @Ne Nat I6 src := fun e => (o9 _ (.head _)).1 _ (.head _) e.symm
    have nC : @Ne Nat C9 src := fun e => (o9 _ (.head _)).2.1 e.symm
    have nD : @Ne Nat D9 src := fun e => (o9 _ (.head _)).2.2 e.symm
    have offs : ∀ q ∈ add, q.1 ≠ src := fun q hq => (Nat.ne_of_lt (q7 q hq)).symm
    refine gk ?_
    clear gk gX
    refine comp_asg1 (pre := [(I6, oI9)]) (by rfl) (by rfl) hoC9 F9 N9 ?_ ?_ (fun oC10 m10 h10 tk10 hoC10 hm10 F10 N10 => ?_)
    · intro q hq
      exact (o9' q hq).1
    · intro q hq
      rcases mem_cons_s hq with rfl | hq
      · exact Ne.symm hCD
      · exact (o9 q hq).2.1
    refine wpAny_tests_nil ?_
    simp only [if_true]
    walk_at "mine:steps"
    refine' pairs_c K' F10 X' N10 ?U q3 T' rfl ?zd ?zu ?_
    (case U => k_updF)
    (case zd => walk_at "mine:room")
    (case zu => walk_at "mine:units")
    intro r11 ps11 add11 o11 h11 tk11 ho11 F11 N11 l11 d11 p11 n11
    (try dsimp only at N11)
    walk_at "mine:steps"
    refine ⟨_, _, oC10, m10, (src, o11) :: (s₁.heap.objs.size + 1 + 1 + 1 + 1, oT) :: (s₁.heap.objs.size + 1 + 1 + 1, oL) :: (s₁.heap.objs.size + 1 + 1, oK) :: (s₁.heap.objs.size + 1, oS3) :: (208, tabObj #[]) :: (add11 ++ add), rfl, F11, hoC10, ?_, ?_, trivial, o11, pss ++ [ps11], add11 ++ add, fun q hq => q1 q (.tail _ hq), rfl, ho11, ?_, ?_, ?_, ?_⟩
    · intro q hq
      refine N11 q ?_
      (first | (refine sub_in hq ?_; walk_at "mine:in"; done) | (trace "GRINDBACK"; simp only [List.mem_cons, List.mem_append, List.cons_append, List.nil_append] at hq ⊢; grind only))
    · intro q hq
      have hq' : q ∈ add11 ∨ q.1 = src ∨ q ∈ (src, o7) :: (s₁.heap.objs.size + 1 + 1 + 1 + 1, oT) :: (s₁.heap.objs.size + 1 + 1 + 1, oL) :: (s₁.heap.objs.size + 1 + 1, oK) :: (s₁.heap.objs.size + 1, oS3) :: (208, tabObj #[]) :: add := by
        simp only [List.mem_cons, List.mem_append] at hq ⊢
        rcases hq with rfl | rfl | rfl | rfl | rfl | rfl | hq | hq
        · exact .inr (.inl rfl)
        · exact .inr (.inr (.inr (.inl rfl)))
        · exact .inr (.inr (.inr (.inr (.inl rfl))))
        · exact .inr (.inr (.inr (.inr (.inr (.inl rfl)))))
        · exact .inr (.inr (.inr (.inr (.inr (.inr (.inl rfl))))))
        · exact .inr (.inr (.inr (.inr (.inr (.inr (.inr (.inl rfl)))))))
        · exact .inl hq
        · exact .inr (.inr (.inr (.inr (.inr (.inr (.inr (.inr hq)))))))
      rcases hq' with hq | hq | hq
      · refine ⟨fun r hr => ?_, ?_, ?_⟩
        · rw [List.mem_singleton.mp hr]
          exact (Nat.ne_of_lt (l11 _ (.head _) q hq)).symm
        · exact (Nat.ne_of_lt (l11 _ (.tail _ (.head _)) q hq)).symm
        · exact (Nat.ne_of_lt (l11 _ (.tail _ (.tail _ (.head _))) q hq)).symm
      · rw [hq]
        exact o9 _ (.head _)
      · exact o9 q hq
    · rw [List.map_append]
      exact DatAll.append (DatAll.mono (fun q hq => List.mem_append_right _ hq) q4) (DatAll.one (DatIn.mono (fun q hq => List.mem_append_left _ hq) d11))
    · intro ps hps
      rcases List.mem_append.mp hps with h | h
      · exact q5 ps h
      · rw [List.mem_singleton.mp h]
        exact ⟨n11, p11⟩
    · simp only [List.length_append, List.length_cons, List.length_nil] at q6 ⊢
      omega
    · intro r' hr'
      rcases List.mem_append.mp hr' with h | h
      · exact l11 (src, o7) (.tail _ (.tail _ (.tail _ (.head _)))) r' h
      · exact q7 r' h
  · refine ⟨o3, [], [], fun it hit => ?_, rfl, ho3, .nil, (fun _ h => nomatch h), rfl, fun _ h => nomatch h⟩
    refine fold_goal (fun gX gk => ?_)
    obtain ⟨k, _, rfl⟩ := List.mem_map.mp hit
    refine gk ?_
    clear gk gX
    exact ⟨_, rfl⟩)
end
end Mine
end
theorem PySem.Challenge.cw_pf0187_01_holds : PySem.Challenge.rw_pf0187_01.Holds :=
  Mine.law_holds
