import PyProof.Rows.All
import Wide.All
import OpenK.AllK
import Wide.FinOn
import PySem.Challenge.RW_pb0251_01
section
open PySem PySem.W PyProof.Rows
set_option Elab.async false
set_option maxRecDepth 100000
set_option maxHeartbeats 8000000
namespace Mine
section
local macro_rules | `(tactic| o_head $H) => `(tactic| exact (‹∀ _ : Hook, PySem.Challenge.rw_pb0251_01.row.Holds› $H))
theorem cap (k : Hook → PySem.Challenge.rw_pb0251_01.row.Holds) : PySem.Challenge.rw_pb0251_01.row.Holds := by
  k_head
end
end Mine
end

section
open PySem PySem.W PySem.Calls PyProof.Rows
set_option Elab.async false
set_option maxRecDepth 100000
set_option maxHeartbeats 8000000
namespace Mine
noncomputable section
def P0 : Program := PySem.Challenge.rw_pb0251_01.row.toRowW.prog
def vw : Program := PySem.W.view P0 [0, 2, 3, 4, 5, 6, 8, 9, 11, 13, 15, 16, 17, 18, 19, 20, 21]
def asL : List Addr := [2, 3, 15, 17, 18, 20, 21, 22, 23, 25, 26, 28, 29, 30, 32, 33, 35, 36, 37, 39, 40, 42, 43, 44, 51, 52, 53, 55, 56, 58, 59, 60, 62, 63, 65, 66, 67, 68, 69, 70, 73, 80, 81, 82, 92, 93, 95, 96, 98, 99, 100, 101, 103, 104, 106, 107, 108, 110, 111, 113, 114, 115, 117, 118, 120, 121, 122, 124, 125, 127, 128, 129, 130, 132, 133, 135, 136, 137, 139, 140, 142, 143, 144, 146, 147, 149, 150, 151, 153, 154, 156, 157, 158, 160, 161, 163, 164, 165, 167, 168, 170, 171, 172, 173, 175, 176, 178, 179, 180, 182, 183, 185, 186, 187, 189, 190, 192, 193, 194, 195, 197, 198, 200, 201, 202, 204, 205, 207, 208, 209, 211, 212, 214, 215, 216, 218, 219, 221, 222, 223, 225, 226, 228, 229, 230, 232, 233, 235, 236, 237, 239, 240, 242, 243, 244, 246, 247, 249, 250, 251, 252, 253, 254, 255, 265, 266, 267, 269, 270, 272, 273, 274, 276, 277, 279, 280, 281, 282, 283, 284, 285, 288, 290, 291, 293, 294, 295, 297, 298, 300, 301, 302, 305, 306, 307, 309, 310, 312, 313, 314, 317, 318, 319, 321, 322, 324, 325, 326, 328, 329, 331, 332]
def tsL : List Addr := [320, 38, 327]
def looseL : List Str := [Str.ofString "LedgerError", Str.ofString "Token"]
def seenAll (s : Shared) := (openSeen vw looseL (importedModules P0.main.body) (fun s => xlAt vw [] s && recOk (RowW.records PySem.Challenge.rw_pb0251_01.row.toRowW) s) true s, (asL.map s.heap.get?, tsL.map s.heap.get?))
def goodAll (w : World) := (openGood vw looseL, ((cap.heap_1 w.params).map fun p => some p.2, tsL.map fun _ => some (tabObj #[])))
def runAll (w : World) (s : Shared) := (topFrom treeTable P0 w 4294 s).map seenAll
def wantAll (w : World) := some (goodAll w)
end
lay_quick runAll wantAll
end Mine
end

section
open PySem PySem.W PySem.Calls PyProof.Rows
set_option Elab.async false
set_option maxRecDepth 100000
set_option maxHeartbeats 8000000
namespace Mine
theorem ran (w : World) (os : OsState) : PySem.W.Fast.tw11964755741883861546 w ⟨boot_heap w.params, Array.mk [], boot_drawn, boot_toks, os⟩ = PySem.W.Fast.tw13948120418314630204 w := by
  kernel_rfl
end Mine
end

section
open PySem PySem.W PySem.Calls PyProof.Rows
set_option Elab.async false
set_option maxRecDepth 100000
set_option maxHeartbeats 8000000
namespace Mine
theorem asE : ∀ P, asL = (cap.heap_1 P).map (·.1) := fun P => by kernel_rfl
theorem left : LeftO PySem.Challenge.rw_pb0251_01.row.prog vw looseL (fun s => xlAt vw [] s && recOk (RowW.records PySem.Challenge.rw_pb0251_01.row.toRowW) s) (Hook.obs (kmHook cap.heap_1 asL asE tsL)) (Hook.val (kmHook cap.heap_1 asL asE tsL)) 4294 := fun w => by
  have hb := boot_open (p := P0) (N := 4294) (by kernel_rfl) (by decide) (fun s => by kernel_rfl) w
  obtain ⟨s, hs, hv⟩ := Option.map_eq_some_iff.mp hb
  obtain ⟨h, gs, d, k, os⟩ := s
  obtain ⟨rfl, rfl, rfl, rfl⟩ : h = boot_heap w.params ∧ gs = Array.mk [] ∧ d = boot_drawn ∧ k = boot_toks := by simpa using hv
  have r := ran w os
  have r1 : runAll w ⟨boot_heap w.params, Array.mk [], boot_drawn, boot_toks, os⟩ = wantAll w := (congrFun (congrFun PySem.W.Fast.te11964755741883861546 w) _).trans (r.trans (congrFun PySem.W.Fast.te13948120418314630204 w).symm)
  clear r hv hb
  unfold runAll wantAll at r1
  have e : openEnds treeTable P0 w 4294 = topFrom treeTable P0 w 4294 ⟨boot_heap w.params, Array.mk [], boot_drawn, boot_toks, os⟩ := by
    unfold openEnds
    rw [hs, Option.bind_some]
  rw [← e] at r1
  exact r1
end Mine
end

section
open PySem PySem.W PySem.Calls PyProof.Rows
set_option Elab.async false
set_option maxRecDepth 100000
set_option maxHeartbeats 8000000
namespace Mine
section
local macro_rules | `(tactic| k_head) => `(tactic| refine holds_open (q := vw) (loose := looseL) (Xt := fun s => xlAt vw [] s && recOk (RowW.records PySem.Challenge.rw_pb0251_01.row.toRowW) s) (XP := XL vw []) (Yf := Hook.obs (kmHook cap.heap_1 asL asE [320, 38, 327])) (Ya := Hook.val (kmHook cap.heap_1 asL asE [320, 38, 327])) (YP := Hook.says (kmHook cap.heap_1 asL asE [320, 38, 327])) (N := 4294) left (Hook.of (kmHook cap.heap_1 asL asE [320, 38, 327])) (Hook.keeps (kmHook cap.heap_1 asL asE [320, 38, 327])) (fun s e => xl_of s (Bool.and_eq_true_iff.mp e).1) XL.keeps (by rfl) (by rfl) (by rfl) (fun s e => recFacts_of (Bool.and_eq_true_iff.mp e).2) (by rfl) (by first | assumption | decide +kernel) (by decide +kernel) ⟨rfl, rfl, rfl, rfl, rfl, by decide +kernel⟩ ?hw ?hc)
open_top hd for PySem.Challenge.rw_pb0251_01
end
end Mine
end

section
open PySem PySem.W PySem.Spec PySem.Calls PyProof.Rows
set_option Elab.async false
set_option maxRecDepth 100000
namespace Mine

inductive Fo where
  | nil
  | cons (k r : Fo)
def Fo.words : Fo → List Str
  | .nil => []
  | .cons k r => Str.ofString "IF" :: (k.words ++ Str.ofString "END-IF" :: r.words)
def Fo.deep : Fo → Nat
  | .nil => 0
  | .cons k r => max (k.deep + 1) r.deep
def Fo.size : Fo → Nat
  | .nil => 0
  | .cons k r => k.size + r.size + 1
def Fo.app : Fo → Fo → Fo
  | .nil, x => x
  | .cons k r, x => .cons k (r.app x)
theorem Fo.words_app : ∀ a b : Fo, (a.app b).words = a.words ++ b.words
  | .nil, _ => rfl
  | .cons k r, b => by simp [Fo.app, Fo.words, Fo.words_app r b]
theorem Fo.size_app : ∀ a b : Fo, (a.app b).size = a.size + b.size
  | .nil, _ => by simp [Fo.app, Fo.size]
  | .cons k r, b => by simp [Fo.app, Fo.size, Fo.size_app r b]; omega
theorem Fo.words_length : ∀ f : Fo, f.words.length = 2 * f.size
  | .nil => rfl
  | .cons k r => by simp [Fo.words, Fo.size, Fo.words_length k, Fo.words_length r]; omega
theorem Fo.deep_le_size : ∀ f : Fo, f.deep ≤ f.size
  | .nil => Nat.le_refl _
  | .cons k r => by have := Fo.deep_le_size k; have := Fo.deep_le_size r; simp [Fo.deep, Fo.size]; omega

abbrev Led := List (Addr × Obj)
abbrev tupOf (vs : List Value) (n : Nat) : Obj := { cls := .type "tuple", data := .seq vs.toArray n }

inductive TreesIn (news : Led) : List Value → Fo → Prop
  | nil : TreesIn news [] .nil
  | cons {a : Addr} {n : Nat} {vs l : List Value} {k r : Fo} : (a, tupOf vs n) ∈ news → TreesIn news vs k → TreesIn news l r → TreesIn news (.ref a :: l) (.cons k r)
theorem TreesIn.mono {news news' : Led} {vs : List Value} {f : Fo} (h : TreesIn news vs f) (hs : ∀ p ∈ news, p ∈ news') : TreesIn news' vs f := by
  induction h with
  | nil => exact .nil
  | cons hm _ _ ih1 ih2 => exact .cons (hs _ hm) ih1 ih2
theorem TreesIn.app {news : Led} {vs vs' : List Value} {f f' : Fo} (h : TreesIn news vs f) (h' : TreesIn news vs' f') : TreesIn news (vs ++ vs') (f.app f') := by
  induction h with
  | nil => exact h'
  | cons hm h1 _ _ ih2 => exact .cons hm h1 ih2
/-- a tuple of trees at a value -/
def TreeIn (news : Led) (v : Value) (f : Fo) : Prop := ∃ a n vs, v = .ref a ∧ (a, tupOf vs n) ∈ news ∧ TreesIn news vs f
theorem TreeIn.mono {news news' : Led} {v : Value} {f : Fo} (h : TreeIn news v f) (hs : ∀ p ∈ news, p ∈ news') : TreeIn news' v f := by
  obtain ⟨a, n, vs, rfl, hm, ht⟩ := h
  exact ⟨a, n, vs, rfl, hs _ hm, ht.mono hs⟩
def Fo.nth : Fo → Nat → Option Fo
  | .nil, _ => none
  | .cons k _, 0 => some k
  | .cons _ r, n + 1 => r.nth n
def Fo.take : Fo → Nat → Fo
  | _, 0 => .nil
  | .nil, _ => .nil
  | .cons k r, n + 1 => .cons k (r.take n)
def Fo.len : Fo → Nat
  | .nil => 0
  | .cons _ r => r.len + 1
theorem TreesIn.length {news : Led} {vs : List Value} {f : Fo} (h : TreesIn news vs f) : vs.length = f.len := by
  induction h with
  | nil => rfl
  | cons _ _ _ _ ih => simp [Fo.len, ih]
theorem TreesIn.nth {news : Led} {vs : List Value} {f : Fo} (h : TreesIn news vs f) : ∀ i v, vs[i]? = some v → ∃ k, f.nth i = some k ∧ TreeIn news v k := by
  induction h with
  | nil => intro i v e; simp at e
  | cons hm h1 _ _ ih =>
    intro i v e
    cases i with
    | zero => simp at e; subst e; exact ⟨_, rfl, _, _, _, rfl, hm, h1⟩
    | succ i => simp at e; exact ih i v e
theorem Fo.take_succ : ∀ (f : Fo) (i : Nat) (k : Fo), f.nth i = some k → f.take (i + 1) = (f.take i).app (.cons k .nil)
  | .nil, i, k, e => by simp [Fo.nth] at e
  | .cons k' r, 0, k, e => by simp [Fo.nth] at e; subst e; cases r <;> rfl
  | .cons k' r, i + 1, k, e => by
    have := Fo.take_succ r i k e
    simp [Fo.take, Fo.app] at this ⊢
    exact this
theorem Fo.take_len : ∀ f : Fo, f.take f.len = f
  | .nil => rfl
  | .cons k r => by simp [Fo.len, Fo.take, Fo.take_len r]

theorem Fo.nth_size : ∀ (f : Fo) (i : Nat) (k : Fo), f.nth i = some k → k.size < f.size ∧ k.deep + 1 ≤ f.deep
  | .nil, i, k, e => by simp [Fo.nth] at e
  | .cons k' r, 0, k, e => by simp [Fo.nth] at e; subst e; simp [Fo.size, Fo.deep]; omega
  | .cons k' r, i + 1, k, e => by
    have := Fo.nth_size r i k e
    simp [Fo.size, Fo.deep]; omega
theorem Fo.words_take_succ {f : Fo} {i : Nat} {k : Fo} (e : f.nth i = some k) : (f.take (i + 1)).words = (f.take i).words ++ Str.ofString "IF" :: (k.words ++ [Str.ofString "END-IF"]) := by
  rw [Fo.take_succ f i k e, Fo.words_app]; simp [Fo.words]
theorem Fo.take_size_le : ∀ (f : Fo) (i : Nat), (f.take i).size ≤ f.size
  | .nil, 0 => Nat.le_refl _
  | .nil, _ + 1 => Nat.le_refl _
  | .cons _ _, 0 => Nat.zero_le _
  | .cons k r, i + 1 => by have := Fo.take_size_le r i; simp [Fo.take, Fo.size]; omega

theorem strsAre_app {a b : List Value} {x y : List Str} (h : StrsAre a x) (h' : StrsAre b y) : StrsAre (a ++ b) (x ++ y) := by
  induction h with
  | nil => exact h'
  | cons y t _ ih => exact .cons y t ih
theorem strsAre_len {a : List Value} {x : List Str} (h : StrsAre a x) : a.length = x.length := by
  induction h with
  | nil => rfl
  | cons y t _ ih => simp [ih]

section lists
variable {prog : Program} {w : World} {A : Around} {E : Value → Shared → Prop} {s : Shared} {h₀ h : Heap} {L D b : Addr} {m : Str → Option Value} {news news' rest : Led}
/-- a list grown by another one's items, whatever their number -/
theorem extend_any {l l2 : List Value} {n n2 : Nat} {Q : Value → Shared → Prop} (F : Fr h₀ L s.heap m) (N : News h₀ L s.heap ((D, listOf l.toArray n) :: rest)) (hb : (b, listOf l2.toArray n2) ∈ rest)
    (hD : ∀ p ∈ rest, p.1 ≠ D) (hz : l.length + l2.length ≤ 10000)
    (h : ∀ h' n', Fr h₀ L h' m → News h₀ L h' ((D, listOf (l ++ l2).toArray n') :: rest) → Q .none { s with heap := h' }) : wpAny (model prog w) A (call (.builtin "list.extend") [.ref D, .ref b]) Q E s := by
  have hsz := sizeLine_eq
  have hlong : ¬(!(l.toArray).isEmpty && Builtin.List.listTooLong (l.toArray.size + l2.toArray.size)) = true := by
    simp [Builtin.List.listTooLong]
    intro _
    omega
  by_cases e : l2 = []
  · subst e
    refine kxn_extend (its := l.toArray) (its2 := #[]) F N (.tail _ hb) rfl (Upd.head hD) (by simpa using hlong) (by simp; simp at hz; omega) (by simp; simp at hz; omega) fun h' F' N' => ?_
    exact h h' n F' (by simpa using N')
  · refine kl_extend (its := l.toArray) (its2 := l2.toArray) (l := l ++ l2) F N (.tail _ hb) (by simp) (by simpa using e) (Upd.head hD) hlong (by simp; omega) (by simp; omega) fun h' F' N' => ?_
    exact h h' (n + 1) F' N'
end lists

theorem fr_say {h₀ h : Heap} {L : Addr} {m : Str → Option Value} {x : Str} {v : Value} (F : Fr h₀ L h m) (e : m x = some v) : Fr h₀ L h (fun z => if z = x then some v else m z) := by
  have : (fun z => if z = x then some v else m z) = m := by
    funext z
    by_cases h : z = x
    · subst h; simp [e]
    · simp [h]
  rw [this]; exact F
theorem news_perm {h₀ h : Heap} {L : Addr} {a b : Led} (N : News h₀ L h a) (hs : ∀ p ∈ b, p ∈ a) : News h₀ L h b := fun p hp => N p (hs p hp)

def Fo.data : Fo → List PyData
  | .nil => []
  | .cons k r => .tuple k.data :: r.data
theorem Fo.eqv_self : ∀ f : Fo, PyData.eqvAll f.data f.data = true
  | .nil => rfl
  | .cons k r => by simp [Fo.data, PyData.eqvAll, PyData.eqv, Fo.eqv_self k, Fo.eqv_self r]
theorem Fo.canLay : ∀ f : Fo, PyData.canLayAll0 f.data = true
  | .nil => rfl
  | .cons k r => by simp [Fo.data, PyData.canLayAll0, PyData.canLay0, Fo.canLay k, Fo.canLay r]
theorem Fo.depthAll : ∀ f : Fo, PyData.depthAll f.data = f.deep
  | .nil => rfl
  | .cons k r => by simp [Fo.data, PyData.depthAll, PyData.depth, Fo.deep, Fo.depthAll k, Fo.depthAll r]
theorem Fo.shaped (f : Fo) (h : f.deep < 60) : SeqAt.shaped (.tuple f.data) = true := by
  simp [SeqAt.shaped, PyData.canLay0, PyData.depth, Fo.canLay f, Fo.depthAll f]; omega
theorem TreesIn.reads {h₀ h : Heap} {L : Addr} {news : Led} (N : News h₀ L h news) {vs : List Value} {f : Fo} (x : TreesIn news vs f) : ReadsAll h vs f.data [] := by
  induction x with
  | nil => exact .nil
  | cons hm _ _ ih1 ih2 => exact ReadsAll.cons (as := []) (reads_tuple_at (N.get hm) rfl rfl (by simpa using ih1)) ih2
theorem TreeIn.reads {h₀ h : Heap} {L : Addr} {news : Led} (N : News h₀ L h news) {v : Value} {f : Fo} (x : TreeIn news v f) : Reads h v (.tuple f.data) [] := by
  obtain ⟨a, n, vs, rfl, hm, ht⟩ := x
  exact reads_tuple_at (N.get hm) rfl rfl (by simpa using ht.reads N)

section loops
variable {prog : Program} {w : World} {A : Around} {E : Value → Shared → Prop} {s : Shared} {env : Env} {h₀ : Heap} {x : Str} {body : List Stmt} {Q : Flow → Shared → Prop}

def TurnE (h₀ : Heap) (L : Addr) (J : (Str → Option Value) → Led → Prop) (I : Addr) (oI : Obj) (s₁ s₂ : Shared) : Prop :=
  ∃ h' tk m' news₂, s₂ = { s₁ with heap := h', toks := tk } ∧ Fr h₀ L h' m' ∧ News h₀ L h' ((I, oI) :: news₂) ∧ (∀ p ∈ news₂, p.1 ≠ I) ∧ J m' news₂
def TurnP (h₀ : Heap) (L : Addr) (J : (Str → Option Value) → Led → Prop) (I : Addr) (oI : Obj) (s₁ : Shared) (Q : Flow → Shared → Prop) (f : Flow) (s₂ : Shared) : Prop :=
  match f with
  | .ret v => Q (.ret v) s₂
  | .brk => Q .next s₂
  | _ => TurnE h₀ L J I oI s₁ s₂

theorem iter_tup {t : Addr} {n : Nat} {vs : List Value} {m₀ : Str → Option Value} {news : Led} (J : Nat → (Str → Option Value) → Led → Prop)
    (hh : A.handled = none) (ht : (t, tupOf vs n) ∈ news) (F : Fr h₀ env.locals s.heap m₀) (N : News h₀ env.locals s.heap news)
    (hJt : ∀ i m n', J i m n' → (t, tupOf vs n) ∈ n') (hj : J 0 m₀ news)
    (turn : ∀ i v m₁ news₁ h tk I oI, vs[i]? = some v → (∀ p ∈ news₁, p.1 ≠ I) → J i m₁ news₁ → Fr h₀ env.locals h (fun y => if y = x then some v else m₁ y) → News h₀ env.locals h ((I, oI) :: news₁) →
      wpAny (model prog w) A (execs body env) (TurnP h₀ env.locals (J (i + 1)) I oI { s with heap := h, toks := tk } Q) E { s with heap := h, toks := tk })
    (done : ∀ m₁ news₁ h tk, J vs.length m₁ news₁ → Fr h₀ env.locals h m₁ → News h₀ env.locals h news₁ → Q .next { s with heap := h, toks := tk }) :
    wpAny (model prog w) A (pyIter (.ref t)) (fun it s₂ => LoopAtV prog w A h₀ env x body Q E it s₂) E s := by
  have hts : s.heap.IsTuple t vs.toArray := ⟨_, (N _ ht).1, rfl, n, rfl⟩
  have hlt : t < s.heap.objs.size := Heap.lt_size (N _ ht).1
  have hne : t ≠ s.heap.objs.size := Nat.ne_of_lt hlt
  refine wpAny_pyIter_tuple hts ?_
  have W := Walks.tuple (prog := prog) (w := w) hh s.heap.objs.size t hne vs.toArray
  have hlen : vs.toArray.size = vs.length := by simp
  rw [hlen] at W
  refine ⟨_, _, _, vs.length, _, _, m₀, news, J, rfl, W, ?_, ?_, ?_, ⟨⟨_, Heap.get?_push_size _ rfl, rfl, rfl⟩, ⟨_, Heap.get?_push_of_some _ (N _ ht).1, rfl, n, rfl⟩⟩, F.push _, (fun p hp => ⟨Heap.get?_push_of_some _ (N p hp).1, (N p hp).2⟩), hj, ?_, ?_⟩
  · intro hm
    rcases List.mem_cons.mp hm with e | hm
    · exact absurd F.ns.lt (e ▸ Nat.lt_irrefl _)
    · exact (N _ ht).2.1 (List.mem_singleton.mp hm).symm
  · intro b hb
    rw [List.mem_singleton.mp hb]
    exact next_is_new F
  · intro p hp hI
    exact absurd (Heap.lt_size (N p hp).1) ((List.mem_singleton.mp hI) ▸ Nat.lt_irrefl _)
  · rintro i v m₁ news₁ s₁ own ⟨hh', tk', rfl⟩ hin hP hJ hoff hown hget hmem hst F₁ N₁
    obtain ⟨⟨oi, hoi, _⟩, _⟩ := hst
    have hI : (s.heap.objs.size, oi) ∈ own := hmem _ (.head _) (next_is_new F) oi hoi
    have hx : vs[i]? = some v := by simpa using hP
    have hno : ∀ p ∈ news₁, p.1 ≠ s.heap.objs.size := fun p hp e => hoff p hp (List.mem_singleton.mpr e)
    have N₂ : News h₀ env.locals hh' ((s.heap.objs.size, oi) :: news₁) := fun p hp => (List.mem_cons.mp hp).elim (fun e => e ▸ N₁ _ (List.mem_append.mpr (.inl hI))) fun h => N₁ p (List.mem_append.mpr (.inr h))
    refine wpAny_mono (turn i v m₁ news₁ hh' tk' _ oi hx hno hJ F₁ N₂) (fun f s₂ p => ?_) fun _ _ e => e
    have fin : TurnE h₀ env.locals (J (i + 1)) s.heap.objs.size oi { s with heap := hh', toks := tk' } s₂ → LoopStepU h₀ env.locals [s.heap.objs.size] own (J (i + 1)) { s with heap := hh', toks := tk' } .next s₂ := by
      rintro ⟨h', tk, m', news₂, e, F', N', ha, hm⟩
      refine ⟨rfl, h', tk, m', news₂, e, F', fun p hp => ?_, fun p hp hq => ha p hp (List.mem_singleton.mp hq), hm⟩
      rcases List.mem_append.mp hp with hp | hp
      · have hg := hget p hp
        rcases List.mem_cons.mp (hown p hp) with h1 | h1
        · have : p = (s.heap.objs.size, oi) := by
            obtain ⟨pa, po⟩ := p
            simp only at h1 hg
            subst h1
            rw [show hh'.get? s.heap.objs.size = some oi from hoi] at hg
            rw [Option.some.inj hg]
          rw [this]; exact N' _ (.head _)
        · have h2 := List.mem_singleton.mp h1
          have hg2 := (N₁ _ (List.mem_append.mpr (.inr (hJt _ _ _ hJ)))).1
          have : p = (t, tupOf vs n) := by
            obtain ⟨pa, po⟩ := p
            simp only at h2 hg
            subst h2
            rw [show hh'.get? pa = _ from hg2] at hg
            cases hg; rfl
          rw [this]; exact N' _ (.tail _ (hJt _ _ _ hm))
      · exact N' p (.tail _ hp)
    cases f with
    | ret v => exact .ret p
    | brk => exact .brk p
    | next => exact .next (fin p)
    | cont => exact .cont (fin p)
  · rintro h' tk m' news' F' N' _ hJ
    exact done m' news' h' tk hJ F' N'

theorem iter_rng {r : Addr} {a₀ b₀ : Int} {t₀ u₀ v₀ : Tok} {n : Nat} {m₀ : Str → Option Value} {news : Led} (J : Nat → (Str → Option Value) → Led → Prop)
    (hh : A.handled = none) (hr : IsRange s.heap r a₀ b₀ 1 t₀ u₀ v₀) (hsmall : Builtin.Range.small a₀ b₀ 1 = true) (hn : Builtin.Range.rangeSize a₀ b₀ 1 = (n : Int))
    (F : Fr h₀ env.locals s.heap m₀) (N : News h₀ env.locals s.heap news) (hj : J 0 m₀ news)
    (turn : ∀ (i : Nat) t m₁ news₁ h tk I oI, i < n → (∀ p ∈ news₁, p.1 ≠ I) → J i m₁ news₁ → Fr h₀ env.locals h (fun y => if y = x then some (.int (a₀ + i) t) else m₁ y) → News h₀ env.locals h ((I, oI) :: news₁) →
      wpAny (model prog w) A (execs body env) (TurnP h₀ env.locals (J (i + 1)) I oI { s with heap := h, toks := tk } Q) E { s with heap := h, toks := tk })
    (done : ∀ m₁ news₁ h tk, J n m₁ news₁ → Fr h₀ env.locals h m₁ → News h₀ env.locals h news₁ → Q .next { s with heap := h, toks := tk }) :
    wpAny (model prog w) A (pyIter (.ref r)) (fun it s₂ => LoopAtV prog w A h₀ env x body Q E it s₂) E s := by
  refine wpAny_pyIter_range hr hsmall ?_
  have W : Walks prog w A s.heap.objs.size [s.heap.objs.size] [s.heap.objs.size] n (fun i v => i < n ∧ ∃ t, v = .int (a₀ + i * 1) t)
      (fun i h => IsRangeIter h s.heap.objs.size (a₀ + (i : Nat) * 1) ((n : Int) - (i : Nat)) 1) := (Walks.range hh _ a₀ 1 n).bound
  refine ⟨_, _, _, n, _, _, m₀, news, J, rfl, W, ?_, ?_, ?_, (by show IsRangeIter _ _ _ _ _; rw [hn]; simpa using Heap.get?_push_size _ rfl), F.push _, (fun p hp => ⟨Heap.get?_push_of_some _ (N p hp).1, (N p hp).2⟩), hj, ?_, ?_⟩
  · intro hm
    exact absurd F.ns.lt ((List.mem_singleton.mp hm) ▸ Nat.lt_irrefl _)
  · intro b hb
    rw [List.mem_singleton.mp hb]
    exact next_is_new F
  · intro p hp hI
    exact absurd (Heap.lt_size (N p hp).1) ((List.mem_singleton.mp hI) ▸ Nat.lt_irrefl _)
  · rintro i v m₁ news₁ s₁ own ⟨hh', tk', rfl⟩ hin ⟨_, t, rfl⟩ hJ hoff hown hget hmem hst F₁ N₁
    obtain ⟨oi, hoi⟩ : ∃ oi, hh'.get? s.heap.objs.size = some oi := ⟨_, hst⟩
    have hI := hmem _ (.head _) (next_is_new F) _ hoi
    have hno : ∀ p ∈ news₁, p.1 ≠ s.heap.objs.size := fun p hp e => hoff p hp (List.mem_singleton.mpr e)
    have N₂ : News h₀ env.locals hh' ((s.heap.objs.size, oi) :: news₁) := fun p hp => (List.mem_cons.mp hp).elim (fun e => e ▸ N₁ _ (List.mem_append.mpr (.inl hI))) fun h => N₁ p (List.mem_append.mpr (.inr h))
    rw [show a₀ + (i : Int) * 1 = a₀ + i by omega] at F₁
    refine wpAny_mono (turn i t m₁ news₁ hh' tk' _ oi hin hno hJ F₁ N₂) (fun f s₂ p => ?_) fun _ _ e => e
    have fin : TurnE h₀ env.locals (J (i + 1)) s.heap.objs.size oi { s with heap := hh', toks := tk' } s₂ → LoopStepU h₀ env.locals [s.heap.objs.size] own (J (i + 1)) { s with heap := hh', toks := tk' } .next s₂ := by
      rintro ⟨h', tk, m', news₂, e, F', N', ha, hm⟩
      refine ⟨rfl, h', tk, m', news₂, e, F', fun p hp => ?_, fun p hp hq => ha p hp (List.mem_singleton.mp hq), hm⟩
      rcases List.mem_append.mp hp with hp | hp
      · have hg := hget p hp
        have h1 := List.mem_singleton.mp (hown p hp)
        obtain ⟨pa, po⟩ := p
        simp only at h1 hg
        subst h1
        rw [show hh'.get? s.heap.objs.size = some oi from hoi] at hg
        cases hg; exact N' _ (.head _)
      · exact N' p (.tail _ hp)
    cases f with
    | ret v => exact .ret p
    | brk => exact .brk p
    | next => exact .next (fin p)
    | cont => exact .cont (fin p)
  · rintro h' tk m' news' F' N' _ hJ
    exact done m' news' h' tk hJ F' N'
end loops

end Mine
end

section
open PySem PySem.W PySem.Spec PySem.Calls PyProof.Rows
set_option Elab.async false
set_option maxRecDepth 100000
namespace Mine
open LCg
section
variable {prog : Program} {w : World} {A : Around} {E : Value → Shared → Prop} {s : Shared} {h₀ : Heap} {L : Addr} {m : Str → Option Value} {env : Env}
def SrcT (prog : Program) (w : World) (A : Around) (h₀ : Heap) (L : Addr) (m : Str → Option Value) (env : Env) (elt : Expr) (x : Str) (scope : Scope) (cl : List (Str × Addr)) (Fin : Shared → List Value → Led → Prop) (xv : Value) (s₁ : Shared) : Prop :=
  ∃ t n vs news, xv = .ref t ∧ A.handled = none ∧ Fr h₀ L s₁.heap m ∧ News h₀ L s₁.heap news ∧ (t, tupOf vs n) ∈ news ∧ vs.length ≤ sizeLine ∧
    ∀ s₂ : Shared, (∃ h, s₂ = { s₁ with heap := h }) → CompRest prog w A h₀ L m env elt x scope cl s₂ (fun nw => (t, tupOf vs n) ∈ nw) (fun i v => vs[i]? = some v) (Fin s₂) vs.length 0 [] news
theorem tup_st {t I : Addr} {n : Nat} {vs : List Value} : ∀ i (h h' : Heap) (o : Obj) (nw : Led), (h.IsTupleIter I t i ∧ h.IsTuple t vs.toArray) → h.get? I = some o → h'.get? I = some o → (∀ b o, h₀.get? b = some o → h'.get? b = some o) → News h₀ L h' nw → (t, tupOf vs n) ∈ nw → (h'.IsTupleIter I t i ∧ h'.IsTuple t vs.toArray) :=
  fun i h h' o nw st e e' k N S => ⟨by obtain ⟨o', q, r⟩ := st.1; rw [e] at q; cases q; exact ⟨o, e', r⟩, ⟨_, (N _ S).1, rfl, n, rfl⟩⟩
theorem ListComp_T {elt iter : Expr} {x : Str} {px : Pos} {scope : Scope} {cl : List (Str × Addr)} {pos : Pos} {Q : Value → Shared → Prop} (_F₀ : Fr h₀ L s.heap m)
    (hclos : closureFor scope env = pure cl) (hcell : ∀ y ∈ scope.names, y.2 ≠ .cell) (hkind : scope.kind = .function)
    (hnames : ∀ y ∈ scope.names, y.2 = .local → scope.names.lookup y.1 = some .local) (hx : scope.names.lookup x = some .local)
    (h : wpAny (model prog w) A (eval iter env) (SrcT prog w A h₀ L m env elt x scope cl (fun s₂ => FinE h₀ L m s₂ Q)) E s)
    (hs : ∀ x, foldedSetIterable iter env x = pure x := by intro _; rfl) :
    wpAny (model prog w) A (eval (.ListComp elt [⟨.Name x px, iter, [], 0⟩] scope pos) env) Q E s := by
  rw [eval_ListComp]
  refine wpAny_comprehension_free (use := none) rfl hs hclos hkind hnames (wpAny_mono h (fun xv s₁ h₁ => ?_) fun _ _ e => e)
  obtain ⟨t, n, vs, news, rfl, hh, F, N, hm, hsz, R⟩ := h₁
  have hl : s₁.heap.IsTuple t vs.toArray := ⟨_, (N _ hm).1, rfl, n, rfl⟩
  have hlt : t < s₁.heap.objs.size := Heap.lt_size (N _ hm).1
  refine wpAny_pyIter_tuple hl ?_
  have up : ∀ b o, s₁.heap.get? b = some o → (s₁.heap.push { cls := .type "tuple_iterator", data := .fields #[.ref t, .int 0 0] }).get? b = some o := fun b o e => Heap.get?_push_of_some _ e
  have W := Walks.tuple (prog := prog) (w := w) hh s₁.heap.objs.size t (Nat.ne_of_lt hlt) vs.toArray
  rw [show vs.toArray.size = vs.length by simp] at W
  refine block_U (P := fun i v => vs[i]? = some v) (by simpa using W) hsz (fun i h st => by obtain ⟨o, e, _⟩ := st.1; exact ⟨o, e⟩) (tup_st (n := n)) hcell hkind hx ⟨⟨_, Heap.get?_push_size _ rfl, rfl, rfl⟩, hl.push _⟩ (fun b hb => ?_)
    (F.keeps up) (N.grown up) (Nat.ne_of_lt F.ns.lt) (next_is_new F) (fun p hp => Nat.ne_of_lt (Heap.lt_size (N p hp).1)) hm (R _ ⟨_, rfl⟩) ?_
  · show b < (s₁.heap.push _).objs.size
    rw [Heap.size_push]
    rcases List.mem_cons.mp hb with rfl | hb
    · exact Nat.lt_succ_self _
    · rw [List.mem_singleton.mp hb]; exact Nat.lt_succ_of_lt hlt
  · intro D C h' tk m' ys news' F' N' o1 hn hC₀ hD₀ hCL hDL hCD offC fin
    refine ⟨m', hn, fun h'' hs'' => fin D h'' tk (F'.change hs'' hCL hC₀) (fun p hp => ?_) o1⟩
    refine ⟨hs''.extBut _ _ ?_ (N' p hp).1, (N' p hp).2⟩
    rcases List.mem_cons.mp hp with rfl | hp
    · exact Ne.symm hCD
    · exact offC p hp
theorem compRest_ind {elt : Expr} {x : Str} {scope : Scope} {cl : List (Str × Addr)} {S : Led → Prop} {P : Nat → Value → Prop} {Fin : List Value → Led → Prop} {n : Nat} {news : Led} (J : Nat → List Value → Led → Prop) (h0 : J 0 [] news)
    (step : ∀ i ys news v I oI C oC D m₂ h tk (E' : Value → Shared → Prop), i < n → J i ys news → P i v → NsObj oC m₂ → m₂ x = some v → Fr h₀ L h m → News h₀ L h ((I, oI) :: (C, oC) :: (D, lst ys) :: news) → Off3 I C D news → ((@Ne Nat I C) ∧ (@Ne Nat I D) ∧ (@Ne Nat C D)) →
      wpAny (model prog w) A (eval elt (compEnvC scope cl C env)) (CompEnd h₀ L m { s with heap := h, toks := tk } I oI C oC D (lst ys) S (fun y news' => J (i + 1) (ys ++ [y]) news')) E' { s with heap := h, toks := tk })
    (fin : ∀ ys news, J n ys news → Fin ys news) : CompRest prog w A h₀ L m env elt x scope cl s S P Fin n 0 [] news := by
  have key : ∀ k i ys news, i + k = n → J i ys news → CompRest prog w A h₀ L m env elt x scope cl s S P Fin k i ys news := by
    intro k
    induction k with
    | zero => intro i ys news hi hJ; obtain rfl : i = n := by omega
              exact fin ys news hJ
    | succ k ih =>
      intro i ys news hi hJ v I oI C oC D m₂ h tk E' hP hC hx F N off ne
      refine wpAny_mono (step i ys news v I oI C oC D m₂ h tk E' (by omega) hJ hP hC hx F N off ne) (fun y s' h' => ?_) fun _ _ e => e
      obtain ⟨h', tk', news', e, F', N', off', hS, hJ'⟩ := h'
      exact ⟨h', tk', news', e, F', N', off', hS, ih (i + 1) _ _ (by omega) hJ'⟩
  exact key n 0 [] news (by omega) h0
end
end Mine
end

section
open PySem PySem.W PySem.Spec PySem.Calls PyProof.Rows
set_option Elab.async false
set_option maxRecDepth 100000
set_option maxHeartbeats 8000000
namespace Mine

local macro_rules | `(tactic| k_steps) => `(tactic| repeat' ((fail_if_success (with_reducible show wpAny _ _ (call (Value.ref 301) _) _ _ _)); (fail_if_success (with_reducible show wpAny _ _ (call (Value.builtin "list.extend") _) _ _ _)); first | (k_unfold; (try dsimp only)) | (k_end; wrow_close) | walk1 | (dsimp only; walk1) | (dsimp only [List.cons_append, List.nil_append]; walk1) | (leave1; walk_say "STEP leave1"; try dsimp only) | fail "no step"))
local macro_rules | `(tactic| k_all) => `(tactic| assumption)
local macro_rules | `(tactic| size_fits) => `(tactic| ((try simp only [List.size_toArray, List.length_append, List.length_cons, List.length_nil, List.push_toArray]); (have hsz9 := sizeLine_eq); omega))

def WordsCon (w : World) (p : Program) (loose : List Str) (mean : ExcName → Option Value) (mg mb : Str → Option Value) (fo : Fo) : Prop :=
  ∀ (A : Around) (env : Env) (outer : List Env) (A₀ : Around) (base h₀ : Heap) (L : Addr) (m : Str → Option Value) (rest : Led) (s : Shared) (v : Value)
    (Q E : Value → Shared → Prop),
    A.frames = some (env :: outer) → env.frame = some L → env.scope.kind = .function → A.handled = none → A.depth + fo.deep < 900 →
    Below A₀ base outer h₀ → Fr h₀ L s.heap m → (Mine.cap.heap_1 w.params).In h₀ → News h₀ L s.heap rest → Top p loose mean mg mb h₀ → TreeIn rest v fo →
    (∀ l ws c tl h' tk', Fr h₀ L h' m → News h₀ L h' ((l, W.listOf ws.toArray c) :: (tl ++ rest)) → StrsAre ws fo.words → (∀ q ∈ rest, ∀ p ∈ (l, W.listOf ws.toArray c) :: tl, q.1 < p.1) → (∀ p ∈ tl, p.1 ≠ l) → Q (.ref l) { s with heap := h', toks := tk' }) →
    wpAny (model PySem.Challenge.rw_pb0251_01.row.prog w) A (call (.ref 301) [v]) Q E s

theorem words_step (w : World) (p : Program) (loose : List Str) (mean : ExcName → Option Value) (mg mb : Str → Option Value) (fo : Fo) (hz : fo.size ≤ 1000)
    (IH : ∀ k : Fo, k.size < fo.size → WordsCon w p loose mean mg mb k) : WordsCon w p loose mean mg mb fo := by
  unfold WordsCon
  k_fill
  w_on
  intro A env outer A₀ base h₀ L m rest s v Q E hA hf hke hh hd B F X N T ht hret
  obtain ⟨t, n, vs, rfl, hm, hts⟩ := ht
  refine wpAny_call ?_
  w_strict (k_dflt (refine' code_def ?k1 ?k2 ?k3 ?k4 ?k5 ?kA ?kF ?kK ?k6 ?k7 ?k8 ?k9 ?kB ?_ ?c2 ?c3 ?c4 ?c5; (case kA => assumption); (case kF => assumption); (case kK => assumption); (case k1 => k_asm); (case k2 => k_asm); (case k3 => k_asm); (case k4 => k_asm); (case k5 => k_asm); (case k6 => k_is); (case k7 => k_is); (case k8 => (simp only [recursionLimit]; omega)); (case k9 => exact BindsTo.of_eq rfl); (case c5 => decide); (case kB => exact locs rfl); (case c2 => exact rfl); (case c3 => exact rfl); (case c4 => exact rfl); k_whole; intro g' L' h' FG' F' N' B' X' T'; (try dsimp only); (try k_fold)))
  k_steps
  rename_i l h1 hl h2 F2 N2
  w_strict (with_unfolding_all refine' For_invVF F2 ?k1 ?k2 ?_; (case k1 => exact rfl); (case k2 => exact rfl))
  walk1
  k_steps
  w_strict (with_unfolding_all refine' iter_tup (news := (l, W.listOf #[] 0) :: rest) (fun i m₁ n₁ => ∃ ws c tl, m₁ (Str.ofString "words") = some (.ref l) ∧ n₁ = (l, W.listOf (List.toArray ws) c) :: (tl ++ rest) ∧ StrsAre ws (fo.take i).words ∧ ∀ p ∈ tl, l < p.1) hh (.tail _ hm) F2 N2 ?_ ?_ ?_ ?_)
  · rintro i m₁ n' ⟨ws, c, tl, _, rfl, _, _⟩
    exact .tail _ (List.mem_append.mpr (.inr hm))
  · refine ⟨[], 0, [], rfl, rfl, ?_, fun _ h => nomatch h⟩
    cases fo <;> exact .nil
  · rintro i v m₁ n₁ h3 tk3 I oI hv hI ⟨ws, c, tl, hw, rfl, hws, htl⟩ F3 N3
    obtain ⟨k, hk, hkt⟩ := hts.nth i v hv
    obtain ⟨hks, hkd⟩ := Fo.nth_size fo i k hk
    have hlen := strsAre_len hws
    have hwl := Fo.words_length (fo.take i)
    have htz := Fo.take_size_le fo i
    obtain ⟨R, hR⟩ : ∃ R : Led, R = (I, oI) :: (tl ++ rest) := ⟨_, rfl⟩
    have hRl : ∀ p ∈ R, p.1 ≠ l := by
      subst hR
      intro p hp
      rcases List.mem_cons.mp hp with rfl | hp
      · exact fun e => hI _ (.head _) e.symm
      · rcases List.mem_append.mp hp with hp | hp
        · exact (Nat.ne_of_lt (htl p hp)).symm
        · exact Nat.ne_of_lt (hl p hp)
    have hRs : ∀ p ∈ rest, p ∈ R := fun p hp => by subst hR; exact .tail _ (List.mem_append.mpr (.inr hp))
    have N4 : News g' L' h3 ((l, W.listOf ws.toArray c) :: R) := news_perm N3 (fun p hp => by
      subst hR
      rcases List.mem_cons.mp hp with rfl | hp
      · exact .tail _ (.head _)
      · rcases List.mem_cons.mp hp with rfl | hp
        · exact .head _
        · exact .tail _ (.tail _ hp))
    have F4 : Fr g' L' h3 (fun y => if y = Str.ofString "tree" then some v else if y = Str.ofString "words" then some (.ref l) else m₁ y) := by
      have : (fun y => if y = Str.ofString "tree" then some v else if y = Str.ofString "words" then some (.ref l) else m₁ y) = fun y => if y = Str.ofString "tree" then some v else m₁ y := by
        funext z
        by_cases h : z = Str.ofString "words"
        · subst h; simp [hw]
        · simp [h]
      rw [this]; exact F3
    clear N3 F3
    k_steps
    rename_i h5 F5 N5
    rw [List.push_toArray] at N5
    refine IH k hks _ _ _ _ _ _ _ _ _ _ _ _ _ (Around.frames_deeper hA) rfl rfl hh (by show A.depth + 1 + k.deep < 900; omega) B' F5 X' N5 T' (hkt.mono fun p hp => .tail _ (hRs p hp)) ?_
    intro l2 ws2 c2 tl2 h6 tk6 F6 N6 hws2 hlt2 hne2
    have hlen2 := strsAre_len hws2
    have hwl2 := Fo.words_length k
    obtain ⟨R2, hR2⟩ : ∃ R2 : Led, R2 = (l2, W.listOf ws2.toArray c2) :: (tl2 ++ R) := ⟨_, rfl⟩
    have hl2 : l < l2 := hlt2 _ (.head _) _ (.head _)
    have hRl2 : ∀ p ∈ R2, p.1 ≠ l := by
      subst hR2
      intro p hp
      rcases List.mem_cons.mp hp with rfl | hp
      · exact (Nat.ne_of_lt hl2).symm
      · rcases List.mem_append.mp hp with hp | hp
        · exact (Nat.ne_of_lt (hlt2 _ (.head _) p (.tail _ hp))).symm
        · exact hRl p hp
    have N7 : News g' L' h6 ((l, W.listOf (ws ++ [Value.str (Str.ofString "IF") tk3]).toArray (c + 1)) :: R2) := news_perm N6 (fun p hp => by
      subst hR2
      rcases List.mem_cons.mp hp with rfl | hp
      · exact .tail _ (List.mem_append.mpr (.inr (.head _)))
      · rcases List.mem_cons.mp hp with rfl | hp
        · exact .head _
        · rcases List.mem_append.mp hp with hp | hp
          · exact .tail _ (List.mem_append.mpr (.inl hp))
          · exact .tail _ (List.mem_append.mpr (.inr (.tail _ hp))))
    have hb2 : (l2, W.listOf ws2.toArray c2) ∈ R2 := by subst hR2; exact .head _
    clear N6 N5 F5
    dsimp only
    k_steps
    refine extend_any F6 N7 hb2 hRl2 (by simp; omega) ?_
    intro h8 c8 F8 N8
    clear N7 F6
    k_steps
    rename_i h9 F9 N9
    rw [List.push_toArray] at N9
    refine (fun (key : ∀ ws9 c9, News g' L' h9 ((l, W.listOf ws9.toArray c9) :: R2) → StrsAre ws9 (fo.take (i + 1)).words → _) => key _ _ N9 (by rw [Fo.words_take_succ hk]; simpa using strsAre_app hws (.cons _ _ (strsAre_app hws2 (.cons _ _ .nil))))) ?_
    intro ws9 c9 N10 hs9
    refine ⟨h9, _, _, (l, W.listOf ws9.toArray c9) :: (((l2, W.listOf ws2.toArray c2) :: (tl2 ++ tl)) ++ rest), rfl, F9, news_perm N10 (fun p hp => ?_), ?_, ws9, c9, _, rfl, rfl, hs9, ?_⟩
    · subst hR2 hR
      simp only [List.mem_cons, List.mem_append] at hp ⊢
      rcases hp with hp | hp | (hp | hp | hp) | hp <;> simp [hp]
    · subst hR
      intro p hp
      simp only [List.mem_cons, List.mem_append] at hp
      have hRI : ∀ q ∈ (I, oI) :: (tl ++ rest), ∀ p ∈ (l2, W.listOf ws2.toArray c2) :: tl2, p.1 ≠ q.1 := fun q hq p hp => (Nat.ne_of_lt (hlt2 q (.tail _ hq) p hp)).symm
      rcases hp with hp | (hp | hp | hp) | hp
      · subst hp; exact (hI (l, W.listOf ws.toArray c) (.head _) : l ≠ I)
      · exact hRI _ (.head _) p (by simp [hp])
      · exact hRI _ (.head _) p (by simp [hp])
      · exact hI p (by simp [hp])
      · exact hI p (by simp [hp])
    · intro p hp
      rcases List.mem_cons.mp hp with rfl | hp
      · exact hl2
      · rcases List.mem_append.mp hp with hp | hp
        · exact hlt2 _ (.head _) p (.tail _ hp)
        · exact htl p hp
  · rintro m₁ n₁ h3 tk3 ⟨ws, c, tl, hw, rfl, hws, htl⟩ F3 N3
    replace F3 := fr_say F3 hw
    rw [hts.length, Fo.take_len] at hws
    dsimp only
    k_steps
    rename_i kF kN _ _
    refine hret l ws c tl h3 tk3 kF kN hws ?_ (fun p hp => (Nat.ne_of_lt (htl p hp)).symm)
    intro q hq p hp
    rcases List.mem_cons.mp hp with rfl | hp
    · exact hl q hq
    · exact Nat.lt_trans (hl q hq) (htl p hp)

theorem words_con (w : World) (p : Program) (loose : List Str) (mean : ExcName → Option Value) (mg mb : Str → Option Value) (fo : Fo) (hz : fo.size ≤ 1000) : WordsCon w p loose mean mg mb fo := by
  have all : ∀ n, ∀ f : Fo, f.size < n → f.size ≤ 1000 → WordsCon w p loose mean mg mb f := by
    intro n
    induction n with
    | zero => intro f h; exact absurd h (Nat.not_lt_zero _)
    | succ n ih => exact fun f h hf => words_step w p loose mean mg mb f hf fun k hk => ih k (by omega) (by omega)
  exact all _ fo (Nat.lt_succ_self _) hz
end Mine
end

section
open PySem PySem.W PySem.Spec PySem.Calls PyProof.Rows
set_option Elab.async false
set_option maxRecDepth 100000
set_option maxHeartbeats 8000000
namespace Mine
local macro_rules | `(tactic| k_steps) => `(tactic| repeat' ((fail_if_success (with_reducible show wpAny _ _ (call (Value.ref 306) _) _ _ _)); (fail_if_success (with_reducible show wpAny _ _ (call (Value.builtin "max") _) _ _ _)); (fail_if_success (with_reducible show wpAny _ _ (eval (Expr.ListComp _ _ _ _) _) _ _ _)); (fail_if_success (with_reducible show wpAny _ _ (compareOp _ (Value.ref _) (Value.ref _)) _ _ _)); (fail_if_success (with_reducible show wpAny _ _ (binaryOp Operator.Add (Value.ref _) (Value.ref _)) _ _ _)); first | (k_unfold; (try dsimp only)) | (k_end; wrow_close) | walk1 | (dsimp only; walk1) | (dsimp only [List.cons_append, List.nil_append]; walk1) | (leave1; walk_say "STEP leave1"; try dsimp only) | fail "no step"))
local macro_rules | `(tactic| k_all) => `(tactic| assumption)
local macro_rules | `(tactic| size_fits) => `(tactic| ((try simp only [List.size_toArray, List.length_append, List.length_cons, List.length_nil, List.push_toArray]); (have hsz9 := sizeLine_eq); omega))
local macro_rules | `(tactic| ktr_enter) => `(tactic| (k_dflt (refine' code_def ?k1 ?k2 ?k3 ?k4 ?k5 ?kA ?kF ?kK ?k6 ?k7 ?k8 ?k9 ?kB ?_ ?c2 ?c3 ?c4 ?c5; (case kA => assumption); (case kF => assumption); (case kK => assumption); (case k1 => k_asm); (case k2 => k_asm); (case k3 => k_asm); (case k4 => k_asm); (case k5 => k_asm); (case k6 => k_is); (case k7 => k_is); (case k8 => (simp only [recursionLimit]; omega)); (case k9 => exact BindsTo.of_eq rfl); (case c5 => decide); (case kB => exact locs rfl); (case c2 => exact rfl); (case c3 => exact rfl); (case c4 => exact rfl); k_whole; intro g' L' h' FG' F' N' B' X' T'; (try dsimp only); (try k_fold))))

open LCg
def Fo.deeps : Fo → List Int
  | .nil => []
  | .cons k r => (k.deep : Int) :: r.deeps
theorem Fo.deeps_length : ∀ f : Fo, f.deeps.length = f.len
  | .nil => rfl
  | .cons _ r => by simp [Fo.deeps, Fo.len, Fo.deeps_length r]
theorem Fo.deeps_nth : ∀ (f : Fo) (i : Nat) (k : Fo), f.nth i = some k → f.deeps.take (i + 1) = f.deeps.take i ++ [(k.deep : Int)]
  | .nil, i, k, e => by simp [Fo.nth] at e
  | .cons k' r, 0, k, e => by simp [Fo.nth] at e; subst e; simp [Fo.deeps]
  | .cons k' r, i + 1, k, e => by simpa [Fo.deeps] using Fo.deeps_nth r i k e
theorem Fo.deeps_le : ∀ (f : Fo) (M : Int), 0 ≤ M → (∀ a ∈ f.deeps, a ≤ M) → (f.deep : Int) ≤ 1 + M
  | .nil, M, h, _ => by simp [Fo.deep]; omega
  | .cons k r, M, h, hm => by
    have h1 := hm k.deep (by simp [Fo.deeps])
    have h2 := Fo.deeps_le r M h (fun a ha => hm a (by simp [Fo.deeps, ha]))
    simp only [Fo.deep]; omega
theorem Fo.deeps_ge : ∀ (f : Fo) (a : Int), a ∈ f.deeps → a + 1 ≤ f.deep
  | .nil, a, h => by simp [Fo.deeps] at h
  | .cons k r, a, h => by
    simp only [Fo.deeps, List.mem_cons] at h
    simp only [Fo.deep]
    rcases h with rfl | h
    · omega
    · have := Fo.deeps_ge r a h; omega
theorem intsAre_app {a b : List Value} {x y : List Int} (h : IntsAre a x) (h' : IntsAre b y) : IntsAre (a ++ b) (x ++ y) := by
  induction h with
  | nil => exact h'
  | cons y t _ ih => exact .cons y t ih

def DeepCon (w : World) (p : Program) (loose : List Str) (mean : ExcName → Option Value) (mg mb : Str → Option Value) (fo : Fo) : Prop :=
  ∀ (A : Around) (env : Env) (outer : List Env) (A₀ : Around) (base h₀ : Heap) (L : Addr) (m : Str → Option Value) (rest : Led) (s : Shared) (v : Value)
    (Q E : Value → Shared → Prop),
    A.frames = some (env :: outer) → env.frame = some L → env.scope.kind = .function → A.handled = none → A.depth + fo.deep < 900 → A.units + 30 * fo.deep < 9000 →
    Below A₀ base outer h₀ → Fr h₀ L s.heap m → (Mine.cap.heap_1 w.params).In h₀ → News h₀ L s.heap rest → Top p loose mean mg mb h₀ → TreeIn rest v fo →
    (∀ h' tk' t, Fr h₀ L h' m → News h₀ L h' rest → Q (.int fo.deep t) { s with heap := h', toks := tk' }) →
    wpAny (model PySem.Challenge.rw_pb0251_01.row.prog w) A (call (.ref 306) [v]) Q E s

theorem deep_step (w : World) (p : Program) (loose : List Str) (mean : ExcName → Option Value) (mg mb : Str → Option Value) (fo : Fo) (hz : fo.deep < 50) (hl : fo.size < 1000)
    (IH : ∀ k : Fo, k.size < fo.size → k.deep < 50 → DeepCon w p loose mean mg mb k) : DeepCon w p loose mean mg mb fo := by
  unfold DeepCon
  k_fill
  w_on
  intro A env outer A₀ base h₀ L m rest s v Q E hA hf hke hh hd hu B F X N T ht hret
  have hrd : ∀ {h₀ h : Heap} {L : Addr} {N : Led}, News h₀ L h N → (∀ p ∈ rest, p ∈ N) → Reads h v (.tuple fo.data) [] := fun N hs => (ht.mono hs).reads N
  obtain ⟨t, n, vs, rfl, hm, hts⟩ := ht
  refine wpAny_call ?_
  w_strict ktr_enter
  rename_i g' L' h' FG' F' N' B' X' T'
  k_steps
  rename_i t0 h1 F1 N1 hl1
  refine ne_dataH (hrd N1 fun p hp => .tail _ hp) (reads_tuple_at (N1.get (.head _)) rfl rfl .nil) (fo.shaped (by omega)) (by rfl) (by show A.units + 3 + 64 < cLine; have := cLine_is; omega) ?_
  cases fo with
  | nil =>
    simp only [Fo.data, PyData.eqv, PyData.eqvAll, Bool.not_true]
    k_steps
    rename_i kF kN _ _
    exact hret _ _ _ kF (news_perm kN fun p hp => .tail _ hp)
  | cons k0 r0 =>
    simp only [Fo.data, PyData.eqv, PyData.eqvAll, Bool.not_false]
    generalize hfo : Fo.cons k0 r0 = fo at *
    have hpos : 0 < fo.deep := by subst hfo; simp [Fo.deep]; omega
    k_steps
    rename_i l0 h2 F2 N2 hl2
    w_strict (k_dflt (refine ListComp_T F2 (by rfl) (by decide) (by rfl) (by decide) (by rfl) ?_))
    walk1
    have hvl : vs.length = fo.len := hts.length
    have hlen : fo.len ≤ fo.size := by
      have : ∀ f : Fo, f.len ≤ f.size := by
        intro f; induction f with
        | nil => exact Nat.le_refl _
        | cons k r _ ih => simp [Fo.len, Fo.size]; omega
      exact this fo
    refine ⟨t, n, vs, _, rfl, hh, F2, N2, .tail _ (.tail _ hm), by have := sizeLine_eq; omega, ?_⟩
    rintro s₂ ⟨hx, rfl⟩
    refine compRest_ind (fun i ys nw => nw = (l0, W.listOf #[Value.int 0 _] 0) :: (t0, { cls := Value.type "tuple", data := Data.seq #[] }) :: rest ∧ IntsAre ys (fo.deeps.take i)) ⟨rfl, .nil⟩ ?_ ?_
    · rintro i ys nw v I oI C oC D m₂ h3 tk3 E' hi ⟨rfl, hys⟩ hv hC hx F3 N3 off ne
      obtain ⟨k, hk, hkt⟩ := hts.nth i v hv
      obtain ⟨hks, hkd⟩ := Fo.nth_size fo i k hk
      k_steps
      refine IH k hks (by omega) _ _ _ _ _ _ _ _ _ _ _ _ _ (Around.frames_deeper hA) rfl rfl hh (by show A.depth + 1 + k.deep < 900; omega) (by show A.units + 3 + 30 * k.deep < 9000; omega) B' F3 X' N3 T' (hkt.mono fun p hp => .tail _ (.tail _ (.tail _ (.tail _ (.tail _ hp))))) ?_
      intro h4 tk4 t4 F4 N4
      exact ⟨h4, tk4, _, rfl, F4, N4, off, .tail _ (.tail _ hm), rfl, by rw [Fo.deeps_nth fo i k hk]; exact intsAre_app hys (.cons _ _ .nil)⟩
    · rintro ys nw ⟨rfl, hys⟩
      unfold FinE
      intro D h5 tk5 F5 N5 hD
      rw [hvl, ← Fo.deeps_length, List.take_length] at hys
      dsimp only
      have hyl := hys.length
      refine add_lists (vs := [Value.int 0 _]) (ws := ys) F5 N5 ⟨_, (N5 _ (.tail _ (.head _))).1, rfl, 0, rfl⟩ ⟨_, (N5 _ (.head _)).1, rfl, _, rfl⟩ ?_ (by simp; have := sizeLine_eq; rw [hyl, Fo.deeps_length]; omega)
      intro h6 F6 N6
      k_steps
      refine kso_max (vs := Value.int 0 _ :: ys) (ns := 0 :: fo.deeps) F6 N6 ⟨_, (N6 _ (.head _)).1, rfl, 0, rfl⟩ (.cons _ _ hys) (by simp) hh ?_
      intro h7 M t7 tk7 F7 N7 hM hmax
      have hM0 : 0 ≤ M := hmax 0 (.head _)
      have hMd : 1 + M = (fo.deep : Int) := by
        have h1 := Fo.deeps_le fo M hM0 (fun a ha => hmax a (.tail _ ha))
        rcases List.mem_cons.mp hM with e | hM
        · omega
        · have := Fo.deeps_ge fo M hM; omega
      k_steps
      rename_i kF kN _ _
      rw [hMd]
      exact hret _ _ _ kF (news_perm kN fun p hp => .tail _ (.tail _ (.tail _ (.tail _ hp))))

theorem deep_con (w : World) (p : Program) (loose : List Str) (mean : ExcName → Option Value) (mg mb : Str → Option Value) (fo : Fo) (hz : fo.deep < 50) (hl : fo.size < 1000) : DeepCon w p loose mean mg mb fo := by
  have all : ∀ n, ∀ f : Fo, f.size < n → f.deep < 50 → f.size < 1000 → DeepCon w p loose mean mg mb f := by
    intro n
    induction n with
    | zero => intro f h; exact absurd h (Nat.not_lt_zero _)
    | succ n ih => exact fun f h hd hf => deep_step w p loose mean mg mb f hd hf fun k hk hkd => ih k (by omega) hkd (by omega)
  exact all _ fo (Nat.lt_succ_self _) hz hl
end Mine
end

section
open PySem PySem.W PySem.Spec PySem.Calls PyProof.Rows
set_option Elab.async false
set_option maxRecDepth 100000
set_option maxHeartbeats 8000000
namespace Mine
section
local macro_rules | `(tactic| k_steps) => `(tactic| repeat' ((fail_if_success (with_reducible show wpAny _ _ (call (Value.ref 283) _) _ _ _)); (fail_if_success (with_reducible show wpAny _ _ (eval (Expr.ListComp _ _ _ _) _) _ _ _)); first | (k_unfold; (try dsimp only)) | (k_end; wrow_close) | walk1 | (dsimp only; walk1) | (dsimp only [List.cons_append, List.nil_append]; walk1) | (leave1; walk_say "STEP leave1"; try dsimp only) | fail "no step"))
local macro_rules | `(tactic| k_all) => `(tactic| assumption)
local macro_rules | `(tactic| size_fits) => `(tactic| ((try simp only [List.size_toArray, List.length_append, List.length_cons, List.length_nil, List.push_toArray]); (have hsz9 := sizeLine_eq); omega))
local macro_rules | `(tactic| ktr_enter) => `(tactic| (k_dflt (refine' code_def ?k1 ?k2 ?k3 ?k4 ?k5 ?kA ?kF ?kK ?k6 ?k7 ?k8 ?k9 ?kB ?_ ?c2 ?c3 ?c4 ?c5; (case kA => assumption); (case kF => assumption); (case kK => assumption); (case k1 => k_asm); (case k2 => k_asm); (case k3 => k_asm); (case k4 => k_asm); (case k5 => k_asm); (case k6 => k_is); (case k7 => k_is); (case k8 => (simp only [recursionLimit]; omega)); (case k9 => exact BindsTo.of_eq rfl); (case c5 => decide); (case kB => exact locs rfl); (case c2 => exact rfl); (case c3 => exact rfl); (case c4 => exact rfl); k_whole; intro g' L' h' FG' F' N' B' X' T'; (try dsimp only); (try k_fold))))
local macro_rules | `(tactic| k_room) => `(tactic| (simp only [depth_mark, depth_under_make, depth_under_kw, depth_in1, depth_deeper, depth_caller, recursionLimit]; omega))
local macro_rules | `(tactic| k_enter) => `(tactic| first
  | (refine' code_def ?k1 ?k2 ?k3 ?k4 ?k5 ?kA ?kF ?kK ?k6 ?k7 ?k8 ?k9 ?kB ?_ ?c2 ?c3 ?c4 ?c5; (case kA => first | assumption | exact Around.frames_deeper (by assumption) | exact Around.frames_deeper (Around.frames_deeper (by assumption)) | exact Around.frames_deeper (Around.frames_deeper (Around.frames_deeper (by assumption))) | exact Around.frames_deeper (Around.frames_deeper (Around.frames_deeper (Around.frames_deeper (by assumption))))); (case kF => first | assumption | exact rfl); (case kK => first | assumption | exact rfl); (case k1 => k_asm); (case k2 => k_asm); (case k3 => k_asm); (case k4 => k_asm); (case k5 => k_asm); (case k6 => k_is); (case k7 => k_is); (case k8 => k_room); (case k9 => first | exact BindsTo.of_eq rfl | exact binds_K (by k_in) rfl (by k_is) rfl rfl rfl | fail "k_enter: no rule for these arguments"); (case c5 => decide); (case kB => exact locs rfl); (case c2 => exact rfl); (case c3 => exact rfl); (case c4 => exact rfl); k_whole; intro g' L' h' FG' F' N' B' X' T'; (try dsimp only); (try k_lift B'); (try k_fold)))

open LCg
abbrev tokD (P : Params) (k₁ k₂ k₃ k₄ : Tok) (x : Str) (u t : Tok) : Obj := dictOf [⟨PyData.keyHash P (Str.ofString "kind"), .str (Str.ofString "kind") k₁, .str (Str.ofString "word") u⟩, ⟨PyData.keyHash P (Str.ofString "worth"), .str (Str.ofString "worth") k₂, .str x t⟩, ⟨PyData.keyHash P (Str.ofString "at"), .str (Str.ofString "at") k₃, .ref 265⟩, ⟨PyData.keyHash P (Str.ofString "is_in_a"), .str (Str.ofString "is_in_a") k₄, .bool false⟩] 4
abbrev rdD (P : Params) (k₁ k₂ k₃ : Tok) (tl : Addr) (i : Int) (it : Tok) (nd : Addr) : Obj := dictOf [⟨PyData.keyHash P (Str.ofString "tokens"), .str (Str.ofString "tokens") k₁, .ref tl⟩, ⟨PyData.keyHash P (Str.ofString "at"), .str (Str.ofString "at") k₂, .int i it⟩, ⟨PyData.keyHash P (Str.ofString "named"), .str (Str.ofString "named") k₃, .ref nd⟩] 3
def TokAt (P : Params) (news : Led) (v : Value) (x : Str) : Prop := ∃ a d k₁ k₂ k₃ k₄ u t, v = .ref a ∧ (a, instObj 283 d) ∈ news ∧ (d, tokD P k₁ k₂ k₃ k₄ x u t) ∈ news
theorem TokAt.mono {P : Params} {news news' : Led} {v : Value} {x : Str} (h : TokAt P news v x) (hs : ∀ p ∈ news, p ∈ news') : TokAt P news' v x := by
  obtain ⟨a, d, k₁, k₂, k₃, k₄, u, t, e, h1, h2⟩ := h
  exact ⟨a, d, k₁, k₂, k₃, k₄, u, t, e, hs _ h1, hs _ h2⟩
def TokensIn (P : Params) (news : Led) (vs : List Value) (ws : List Str) : Prop := vs.length = ws.length ∧ ∀ (i : Nat) (v : Value) (x : Str), vs[i]? = some v → ws[i]? = some x → TokAt P news v x
theorem TokensIn.mono {P : Params} {news news' : Led} {vs : List Value} {ws : List Str} (h : TokensIn P news vs ws) (hs : ∀ p ∈ news, p ∈ news') : TokensIn P news' vs ws := ⟨h.1, fun i v x e e' => (h.2 i v x e e').mono hs⟩
theorem TokensIn.snoc {P : Params} {news : Led} {vs : List Value} {ws : List Str} {v : Value} {x : Str} (h : TokensIn P news vs ws) (hv : TokAt P news v x) : TokensIn P news (vs ++ [v]) (ws ++ [x]) := by
  refine ⟨by simp [h.1], fun i v' x' e e' => ?_⟩
  by_cases hi : i < vs.length
  · rw [List.getElem?_append_left hi] at e
    rw [List.getElem?_append_left (by rw [← h.1]; exact hi)] at e'
    exact h.2 i v' x' e e'
  · have hi' : vs.length ≤ i := Nat.le_of_not_lt hi
    rw [List.getElem?_append_right hi'] at e
    rw [List.getElem?_append_right (by rw [← h.1]; exact hi')] at e'
    have : i - vs.length = 0 := by
      cases q : i - vs.length with
      | zero => rfl
      | succ n => rw [q] at e; simp at e
    rw [← h.1] at e'
    rw [this] at e e'
    simp at e e'
    subst e e'
    exact hv
theorem news_rot3 {h₀ h : Heap} {L : Addr} {a b c : Addr × Obj} {l : Led} (N : News h₀ L h (a :: b :: c :: l)) : News h₀ L h (c :: a :: b :: l) := fun p hp => N p (by
  simp only [List.mem_cons] at hp ⊢
  rcases hp with h | h | h | h <;> simp [h])
theorem allLt_mem {d : Addr} : ∀ {l : Led}, AllLt d l → ∀ p ∈ l, p.1 < d
  | [], _, _, h => nomatch h
  | _ :: _, x, p, h => by
    rcases List.mem_cons.mp h with rfl | h
    · exact x.1
    · exact allLt_mem x.2 p h
theorem strsAre_nth {vs : List Value} {ws : List Str} (h : StrsAre vs ws) : ∀ (i : Nat) (v : Value), vs[i]? = some v → ∃ x t, v = .str x t ∧ ws[i]? = some x := by
  induction h with
  | nil => intro i v e; simp at e
  | cons y t _ ih =>
    intro i v e
    cases i with
    | zero => simp at e; subst e; exact ⟨_, _, rfl, rfl⟩
    | succ i => simp at e; exact ih i v e

def TokCon (w : World) (p : Program) (loose : List Str) (mean : ExcName → Option Value) (mg mb : Str → Option Value) : Prop :=
  ∀ (A : Around) (env : Env) (outer : List Env) (A₀ : Around) (base h₀ : Heap) (L : Addr) (m : Str → Option Value) (rest : Led) (s : Shared) (x : Str) (t u : Tok)
    (Q E : Value → Shared → Prop),
    A.frames = some (env :: outer) → env.frame = some L → env.scope.kind = .function → A.handled = none → A.depth < 900 →
    Below A₀ base outer h₀ → Fr h₀ L s.heap m → (Mine.cap.heap_1 w.params).In h₀ → News h₀ L s.heap rest → Top p loose mean mg mb h₀ →
    (∀ a d k₁ k₂ k₃ k₄ h' tk', Fr h₀ L h' m → News h₀ L h' ((a, instObj 283 d) :: (d, tokD w.params k₁ k₂ k₃ k₄ x u t) :: rest) → (∀ p ∈ rest, p.1 < d) → d < a → Q (.ref a) { s with heap := h', toks := tk' }) →
    wpAny (model PySem.Challenge.rw_pb0251_01.row.prog w) A (call (.ref 283) [.str (Str.ofString "word") u, .str x t]) Q E s
end
section
local macro_rules | `(tactic| k_steps) => `(tactic| repeat' (first | (k_unfold; (try dsimp only)) | (k_end; wrow_close) | walk1 | (dsimp only; walk1) | (dsimp only [List.cons_append, List.nil_append]; walk1) | (leave1; walk_say "STEP leave1"; try dsimp only) | fail "no step"))
local macro_rules | `(tactic| k_all) => `(tactic| assumption)
local macro_rules | `(tactic| size_fits) => `(tactic| ((try simp only [List.size_toArray, List.length_append, List.length_cons, List.length_nil, List.push_toArray]); (have hsz9 := sizeLine_eq); omega))
local macro_rules | `(tactic| ktr_enter) => `(tactic| (k_dflt (refine' code_def ?k1 ?k2 ?k3 ?k4 ?k5 ?kA ?kF ?kK ?k6 ?k7 ?k8 ?k9 ?kB ?_ ?c2 ?c3 ?c4 ?c5; (case kA => assumption); (case kF => assumption); (case kK => assumption); (case k1 => k_asm); (case k2 => k_asm); (case k3 => k_asm); (case k4 => k_asm); (case k5 => k_asm); (case k6 => k_is); (case k7 => k_is); (case k8 => (simp only [recursionLimit]; omega)); (case k9 => exact BindsTo.of_eq rfl); (case c5 => decide); (case kB => exact locs rfl); (case c2 => exact rfl); (case c3 => exact rfl); (case c4 => exact rfl); k_whole; intro g' L' h' FG' F' N' B' X' T'; (try dsimp only); (try k_fold))))
local macro_rules | `(tactic| k_room) => `(tactic| (simp only [depth_mark, depth_under_make, depth_under_kw, depth_in1, depth_deeper, depth_caller, recursionLimit]; omega))
local macro_rules | `(tactic| k_enter) => `(tactic| first
  | (refine' code_def ?k1 ?k2 ?k3 ?k4 ?k5 ?kA ?kF ?kK ?k6 ?k7 ?k8 ?k9 ?kB ?_ ?c2 ?c3 ?c4 ?c5; (case kA => first | assumption | exact Around.frames_deeper (by assumption) | exact Around.frames_deeper (Around.frames_deeper (by assumption)) | exact Around.frames_deeper (Around.frames_deeper (Around.frames_deeper (by assumption))) | exact Around.frames_deeper (Around.frames_deeper (Around.frames_deeper (Around.frames_deeper (by assumption))))); (case kF => first | assumption | exact rfl); (case kK => first | assumption | exact rfl); (case k1 => k_asm); (case k2 => k_asm); (case k3 => k_asm); (case k4 => k_asm); (case k5 => k_asm); (case k6 => k_is); (case k7 => k_is); (case k8 => k_room); (case k9 => first | exact BindsTo.of_eq rfl | exact binds_K (by k_in) rfl (by k_is) rfl rfl rfl | fail "k_enter: no rule for these arguments"); (case c5 => decide); (case kB => exact locs rfl); (case c2 => exact rfl); (case c3 => exact rfl); (case c4 => exact rfl); k_whole; intro g' L' h' FG' F' N' B' X' T'; (try dsimp only); (try k_lift B'); (try k_fold)))
theorem tok_con (w : World) (p : Program) (loose : List Str) (mean : ExcName → Option Value) (mg mb : Str → Option Value) : TokCon w p loose mean mg mb := by
  unfold TokCon
  k_fill
  w_on
  intro A env outer A₀ base h₀ L m rest s x t u Q E hA hf hke hh hd B F X N T hret
  w_strict k_steps
  rename_i kF kN _ _
  exact hret _ _ _ _ _ _ _ _ kF kN (by assumption) (by assumption)
end
section
local macro_rules | `(tactic| k_steps) => `(tactic| repeat' ((fail_if_success (with_reducible show wpAny _ _ (call (Value.ref 283) _) _ _ _)); (fail_if_success (with_reducible show wpAny _ _ (eval (Expr.ListComp _ _ _ _) _) _ _ _)); first | (k_unfold; (try dsimp only)) | (k_end; wrow_close) | walk1 | (dsimp only; walk1) | (dsimp only [List.cons_append, List.nil_append]; walk1) | (leave1; walk_say "STEP leave1"; try dsimp only) | fail "no step"))
local macro_rules | `(tactic| k_all) => `(tactic| assumption)
local macro_rules | `(tactic| size_fits) => `(tactic| ((try simp only [List.size_toArray, List.length_append, List.length_cons, List.length_nil, List.push_toArray]); (have hsz9 := sizeLine_eq); omega))
local macro_rules | `(tactic| ktr_enter) => `(tactic| (k_dflt (refine' code_def ?k1 ?k2 ?k3 ?k4 ?k5 ?kA ?kF ?kK ?k6 ?k7 ?k8 ?k9 ?kB ?_ ?c2 ?c3 ?c4 ?c5; (case kA => assumption); (case kF => assumption); (case kK => assumption); (case k1 => k_asm); (case k2 => k_asm); (case k3 => k_asm); (case k4 => k_asm); (case k5 => k_asm); (case k6 => k_is); (case k7 => k_is); (case k8 => (simp only [recursionLimit]; omega)); (case k9 => exact BindsTo.of_eq rfl); (case c5 => decide); (case kB => exact locs rfl); (case c2 => exact rfl); (case c3 => exact rfl); (case c4 => exact rfl); k_whole; intro g' L' h' FG' F' N' B' X' T'; (try dsimp only); (try k_fold))))
local macro_rules | `(tactic| k_room) => `(tactic| (simp only [depth_mark, depth_under_make, depth_under_kw, depth_in1, depth_deeper, depth_caller, recursionLimit]; omega))
local macro_rules | `(tactic| k_enter) => `(tactic| first
  | (refine' code_def ?k1 ?k2 ?k3 ?k4 ?k5 ?kA ?kF ?kK ?k6 ?k7 ?k8 ?k9 ?kB ?_ ?c2 ?c3 ?c4 ?c5; (case kA => first | assumption | exact Around.frames_deeper (by assumption) | exact Around.frames_deeper (Around.frames_deeper (by assumption)) | exact Around.frames_deeper (Around.frames_deeper (Around.frames_deeper (by assumption))) | exact Around.frames_deeper (Around.frames_deeper (Around.frames_deeper (Around.frames_deeper (by assumption))))); (case kF => first | assumption | exact rfl); (case kK => first | assumption | exact rfl); (case k1 => k_asm); (case k2 => k_asm); (case k3 => k_asm); (case k4 => k_asm); (case k5 => k_asm); (case k6 => k_is); (case k7 => k_is); (case k8 => k_room); (case k9 => first | exact BindsTo.of_eq rfl | exact binds_K (by k_in) rfl (by k_is) rfl rfl rfl | fail "k_enter: no rule for these arguments"); (case c5 => decide); (case kB => exact locs rfl); (case c2 => exact rfl); (case c3 => exact rfl); (case c4 => exact rfl); k_whole; intro g' L' h' FG' F' N' B' X' T'; (try dsimp only); (try k_lift B'); (try k_fold)))
open LCg
def ReaderCon (w : World) (p : Program) (loose : List Str) (mean : ExcName → Option Value) (mg mb : Str → Option Value) : Prop :=
  ∀ (A : Around) (env : Env) (outer : List Env) (A₀ : Around) (base h₀ : Heap) (L : Addr) (m : Str → Option Value) (rest : Led) (s : Shared) (t : Addr) (n : Nat) (vs : List Value) (ws : List Str)
    (Q E : Value → Shared → Prop),
    A.frames = some (env :: outer) → env.frame = some L → env.scope.kind = .function → A.handled = none → A.depth < 800 →
    Below A₀ base outer h₀ → Fr h₀ L s.heap m → (Mine.cap.heap_1 w.params).In h₀ → News h₀ L s.heap rest → Top p loose mean mg mb h₀ → (t, W.listOf vs.toArray n) ∈ rest → StrsAre vs ws → vs.length < 2000 →
    (∀ r dr tl nd toks nt R k₁ k₂ k₃ it h' tk', Fr h₀ L h' m → News h₀ L h' ((dr, rdD w.params k₁ k₂ k₃ tl 0 it nd) :: R) → (r, instObj 253 dr) ∈ R → (tl, W.listOf toks.toArray nt) ∈ R → TokensIn w.params R toks ws → (∀ p ∈ rest, p ∈ R) → (∀ p ∈ R, p.1 ≠ dr) → Q (.ref r) { s with heap := h', toks := tk' }) →
    wpAny (model PySem.Challenge.rw_pb0251_01.row.prog w) A (call (.ref 318) [.ref t]) Q E s

theorem reader_con (w : World) (p : Program) (loose : List Str) (mean : ExcName → Option Value) (mg mb : Str → Option Value) : ReaderCon w p loose mean mg mb := by
  unfold ReaderCon
  have TC := tok_con w p loose mean mg mb
  k_fill
  w_on
  intro A env outer A₀ base h₀ L m rest s t n vs ws Q E hA hf hke hh hd B F X N T hm hws hlen hret
  refine wpAny_call ?_
  w_strict ktr_enter
  rename_i g' L' h' FG' F' N' B' X' T'
  k_steps
  w_strict (k_dflt (refine ListComp_U F' (by rfl) (by decide) (by rfl) (by decide) (by rfl) ?_))
  walk1
  refine .inl ⟨t, vs.toArray, _, rfl, hh, F', N', .inr ⟨_, hm, rfl, _, rfl⟩, by have := sizeLine_eq; simp; omega, ?_⟩
  rintro s₂ ⟨hx, rfl⟩
  rw [show vs.toArray.size = vs.length by simp]
  refine compRest_ind (fun i ys nw => (∀ p ∈ rest, p ∈ nw) ∧ TokensIn w.params nw ys (ws.take i)) ⟨fun _ h => h, rfl, fun i v x e => by simp at e⟩ ?_ ?_
  · rintro i ys nw v I oI C oC D m₂ h3 tk3 E' hi ⟨hsub, hys⟩ hv hC hx F3 N3 off ne
    obtain ⟨x, t', rfl, hwx⟩ := strsAre_nth hws i v (by simpa using hv)
    k_steps
    refine TC _ _ _ _ _ _ _ _ _ _ _ _ _ _ _ (Around.frames_deeper hA) rfl rfl hh (by show A.depth + 1 < 900; omega) B' F3 X' N3 T' ?_
    intro a d k₁ k₂ k₃ k₄ h4 tk4 F4 N4 hl hda
    have hoff := off.mem
    refine ⟨h4, tk4, (a, instObj 283 d) :: (d, tokD w.params k₁ k₂ k₃ k₄ x tk3 t') :: nw, rfl, F4, news_perm N4 (fun p hp => ?_), ?_, ?_, fun p hp => .tail _ (.tail _ (hsub p hp)), ?_⟩
    · simp only [List.mem_cons] at hp ⊢
      rcases hp with h | h | h | h | h | h <;> simp [h]
    · refine Off3.of fun p hp => ?_
      have h1 := hl (I, oI) (.head _)
      have h2 := hl (C, oC) (.tail _ (.head _))
      have h3 := hl (D, lst ys) (.tail _ (.tail _ (.head _)))
      simp only at h1 h2 h3
      rcases List.mem_cons.mp hp with rfl | hp
      · exact ⟨(Nat.ne_of_lt (Nat.lt_trans h1 hda)).symm, (Nat.ne_of_lt (Nat.lt_trans h2 hda)).symm, (Nat.ne_of_lt (Nat.lt_trans h3 hda)).symm⟩
      · rcases List.mem_cons.mp hp with rfl | hp
        · exact ⟨(Nat.ne_of_lt h1).symm, (Nat.ne_of_lt h2).symm, (Nat.ne_of_lt h3).symm⟩
        · exact hoff p hp
    · exact .inr ⟨_, .tail _ (.tail _ (hsub _ hm)), rfl, _, rfl⟩
    · have : ws.take (i + 1) = ws.take i ++ [x] := by rw [List.take_add_one, hwx]; rfl
      rw [this]
      exact (hys.mono fun p hp => .tail _ (.tail _ hp)).snoc ⟨a, d, k₁, k₂, k₃, k₄, _, t', rfl, .head _, .tail _ (.head _)⟩
  · rintro ys nw ⟨hsub, hys⟩
    rw [strsAre_len hws, List.take_length] at hys
    unfold FinE
    intro D h5 tk5 F5 N5 hD
    dsimp only
    k_steps
    rename_i r dr _ _ _ l1a l2 _ _ _ _ _ _ _ _ _ nd _ o _ _ _ _ _ l1b _ _ _ _ _ _ _ kF kN _ _
    refine hret r dr D nd ys _ ((nd, o) :: (r, instObj 253 dr) :: (D, lst ys) :: nw) _ _ _ _ _ _ kF (news_rot3 kN) (.tail _ (.head _)) (.tail _ (.tail _ (.head _))) (hys.mono fun p hp => .tail _ (.tail _ (.tail _ hp))) (fun p hp => .tail _ (.tail _ (.tail _ (hsub p hp)))) (fun p hp => ?_)
    rcases List.mem_cons.mp hp with rfl | hp
    · exact (Nat.ne_of_lt l1b.2.1).symm
    · rcases List.mem_cons.mp hp with rfl | hp
      · exact (Nat.ne_of_lt l2).symm
      · rcases List.mem_cons.mp hp with rfl | hp
        · exact Nat.ne_of_lt l1a.1
        · exact Nat.ne_of_lt (allLt_mem l1a.2 p hp)
end
end Mine
end

section
open PySem PySem.W PySem.Spec PySem.Calls PyProof.Rows
set_option Elab.async false
set_option maxRecDepth 100000
set_option maxHeartbeats 8000000
namespace Mine
section
local macro_rules | `(tactic| k_steps) => `(tactic| repeat' ((fail_if_success (with_reducible show wpAny _ _ (subscriptTail _ _ _ _) _ _ _)); (fail_if_success (with_reducible show wpAny _ _ (call (Value.builtin "len") _) _ _ _)); first | (k_unfold; (try dsimp only)) | (k_end; wrow_close) | walk1 | (dsimp only; walk1) | (dsimp only [List.cons_append, List.nil_append]; walk1) | (leave1; walk_say "STEP leave1"; try dsimp only) | fail "no step"))
local macro_rules | `(tactic| k_all) => `(tactic| assumption)
local macro_rules | `(tactic| size_fits) => `(tactic| ((try simp only [List.size_toArray, List.length_append, List.length_cons, List.length_nil, List.push_toArray]); (have hsz9 := sizeLine_eq); omega))
local macro_rules | `(tactic| ktr_enter) => `(tactic| (k_dflt (refine' code_def ?k1 ?k2 ?k3 ?k4 ?k5 ?kA ?kF ?kK ?k6 ?k7 ?k8 ?k9 ?kB ?_ ?c2 ?c3 ?c4 ?c5; (case kA => assumption); (case kF => assumption); (case kK => assumption); (case k1 => k_asm); (case k2 => k_asm); (case k3 => k_asm); (case k4 => k_asm); (case k5 => k_asm); (case k6 => k_is); (case k7 => k_is); (case k8 => (simp only [recursionLimit]; omega)); (case k9 => exact BindsTo.of_eq rfl); (case c5 => decide); (case kB => exact locs rfl); (case c2 => exact rfl); (case c3 => exact rfl); (case c4 => exact rfl); k_whole; intro g' L' h' FG' F' N' B' X' T'; (try dsimp only); (try k_fold))))
local macro_rules | `(tactic| k_room) => `(tactic| (simp only [depth_mark, depth_under_make, depth_under_kw, depth_in1, depth_deeper, depth_caller, recursionLimit]; omega))
local macro_rules | `(tactic| k_enter) => `(tactic| first
  | (refine' code_def ?k1 ?k2 ?k3 ?k4 ?k5 ?kA ?kF ?kK ?k6 ?k7 ?k8 ?k9 ?kB ?_ ?c2 ?c3 ?c4 ?c5; (case kA => first | assumption | exact Around.frames_deeper (by assumption) | exact Around.frames_deeper (Around.frames_deeper (by assumption)) | exact Around.frames_deeper (Around.frames_deeper (Around.frames_deeper (by assumption))) | exact Around.frames_deeper (Around.frames_deeper (Around.frames_deeper (Around.frames_deeper (by assumption))))); (case kF => first | assumption | exact rfl); (case kK => first | assumption | exact rfl); (case k1 => k_asm); (case k2 => k_asm); (case k3 => k_asm); (case k4 => k_asm); (case k5 => k_asm); (case k6 => k_is); (case k7 => k_is); (case k8 => k_room); (case k9 => first | exact BindsTo.of_eq rfl | exact binds_K (by k_in) rfl (by k_is) rfl rfl rfl | fail "k_enter: no rule for these arguments"); (case c5 => decide); (case kB => exact locs rfl); (case c2 => exact rfl); (case c3 => exact rfl); (case c4 => exact rfl); k_whole; intro g' L' h' FG' F' N' B' X' T'; (try dsimp only); (try k_lift B'); (try k_fold)))

open LCg
theorem item_at {prog : Program} {w : World} {A : Around} {E : Value → Shared → Prop} {s : Shared} {value slice : Expr} {l : Addr} {items : Array Value} {k : Int} {u : Tok} {v : Value} {Q : Value → Shared → Prop}
    (hl : s.heap.IsList l items) (h0 : 0 ≤ k) (hhi : k < 2 ^ 63) (hx : items[k.toNat]? = some v) (h : Q v s)
    (hs : subscripted slice false (.ref l) (.int k u) = operate [.ref l, .int k u] (getItem (.ref l) (.int k u)) := by with_unfolding_all rfl) :
    wpAny (model prog w) A (subscriptTail value slice (.ref l) (.int k u)) Q E s :=
  tail_any hl.typeIs slot_list_getitem.lookup (wpAny_getItem_list hl h0 hhi hx h) hs
def PeekCon (w : World) (p : Program) (loose : List Str) (mean : ExcName → Option Value) (mg mb : Str → Option Value) : Prop :=
  ∀ (A : Around) (env : Env) (outer : List Env) (A₀ : Around) (base h₀ : Heap) (L : Addr) (m : Str → Option Value) (rest : Led) (s : Shared) (r dr tl nd : Addr) (toks : List Value) (nt : Nat) (k₁ k₂ k₃ it : Tok) (i : Nat) (v : Value) (args : List Value)
    (Q E : Value → Shared → Prop),
    A.frames = some (env :: outer) → env.frame = some L → env.scope.kind = .function → A.depth < 900 →
    Below A₀ base outer h₀ → Fr h₀ L s.heap m → (Mine.cap.heap_1 w.params).In h₀ → Top p loose mean mg mb h₀ →
    News h₀ L s.heap ((dr, rdD w.params k₁ k₂ k₃ tl i it nd) :: (r, instObj 253 dr) :: (tl, W.listOf toks.toArray nt) :: rest) → 
    toks.length < 3000 → toks[i]? = some v → (args = [.ref r] ∨ ∃ u, args = [.ref r, .int 0 u]) →
    (∀ h' tk', Fr h₀ L h' m → News h₀ L h' ((dr, rdD w.params k₁ k₂ k₃ tl i it nd) :: (r, instObj 253 dr) :: (tl, W.listOf toks.toArray nt) :: rest) → Q v { s with heap := h', toks := tk' }) →
    wpAny (model PySem.Challenge.rw_pb0251_01.row.prog w) A (call (.ref 107) args) Q E s

theorem peek_con (w : World) (p : Program) (loose : List Str) (mean : ExcName → Option Value) (mg mb : Str → Option Value) : PeekCon w p loose mean mg mb := by
  unfold PeekCon
  k_fill
  w_on
  intro A env outer A₀ base h₀ L m rest s r dr tl nd toks nt k₁ k₂ k₃ it i v args Q E hA hf hke hd B F X T N hlen htok harg hret
  have hi : i < toks.length := (List.getElem?_eq_some_iff.mp htok).1
  rcases harg with rfl | ⟨u, rfl⟩
  all_goals (
    w_strict k_steps
    rename News _ _ _ _ => N9
    refine len_list ⟨_, (N9 _ (.tail _ (.tail _ (.head _)))).1, rfl, _, rfl⟩ (by simp; omega) ?_
    dsimp only
    w_strict k_steps
    rename News _ _ _ _ => N8
    refine item_at (items := toks.toArray) (v := v) ⟨_, (N8 _ (.tail _ (.tail _ (.head _)))).1, rfl, _, rfl⟩ (by omega) (by omega) (by rw [show ((i : Int) + 0).toNat = i by omega]; simpa using htok) ?_
    dsimp only
    w_strict k_steps
    rename_i kF kN _ _
    exact hret _ _ kF kN)
end
end Mine
end

section
open PySem PySem.W PySem.Spec PySem.Calls PyProof.Rows
set_option Elab.async false
set_option maxRecDepth 100000
set_option maxHeartbeats 8000000
namespace Mine
section
local macro_rules | `(tactic| k_steps) => `(tactic| repeat' ((fail_if_success (with_reducible show wpAny _ _ (call (Value.ref 107) _) _ _ _)); (fail_if_success (with_reducible show wpAny _ _ (call (Value.ref 136) _) _ _ _)); (fail_if_success (with_reducible show wpAny _ _ (compareOp CmpOp.In _ _) _ _ _)); first | (k_unfold; (try dsimp only)) | (k_end; wrow_close) | walk1 | (dsimp only; walk1) | (dsimp only [List.cons_append, List.nil_append]; walk1) | (leave1; walk_say "STEP leave1"; try dsimp only) | fail "no step"))
local macro_rules | `(tactic| k_all) => `(tactic| assumption)
local macro_rules | `(tactic| size_fits) => `(tactic| ((try simp only [List.size_toArray, List.length_append, List.length_cons, List.length_nil, List.push_toArray]); (have hsz9 := sizeLine_eq); omega))
local macro_rules | `(tactic| ktr_enter) => `(tactic| (k_dflt (refine' code_def ?k1 ?k2 ?k3 ?k4 ?k5 ?kA ?kF ?kK ?k6 ?k7 ?k8 ?k9 ?kB ?_ ?c2 ?c3 ?c4 ?c5; (case kA => assumption); (case kF => assumption); (case kK => assumption); (case k1 => k_asm); (case k2 => k_asm); (case k3 => k_asm); (case k4 => k_asm); (case k5 => k_asm); (case k6 => k_is); (case k7 => k_is); (case k8 => (simp only [recursionLimit]; omega)); (case k9 => exact BindsTo.of_eq rfl); (case c5 => decide); (case kB => exact locs rfl); (case c2 => exact rfl); (case c3 => exact rfl); (case c4 => exact rfl); k_whole; intro g' L' h' FG' F' N' B' X' T'; (try dsimp only); (try k_fold))))
local macro_rules | `(tactic| k_room) => `(tactic| (simp only [depth_mark, depth_under_make, depth_under_kw, depth_in1, depth_deeper, depth_caller, recursionLimit]; omega))
local macro_rules | `(tactic| k_enter) => `(tactic| first
  | (refine' code_def ?k1 ?k2 ?k3 ?k4 ?k5 ?kA ?kF ?kK ?k6 ?k7 ?k8 ?k9 ?kB ?_ ?c2 ?c3 ?c4 ?c5; (case kA => first | assumption | exact Around.frames_deeper (by assumption) | exact Around.frames_deeper (Around.frames_deeper (by assumption)) | exact Around.frames_deeper (Around.frames_deeper (Around.frames_deeper (by assumption))) | exact Around.frames_deeper (Around.frames_deeper (Around.frames_deeper (Around.frames_deeper (by assumption))))); (case kF => first | assumption | exact rfl); (case kK => first | assumption | exact rfl); (case k1 => k_asm); (case k2 => k_asm); (case k3 => k_asm); (case k4 => k_asm); (case k5 => k_asm); (case k6 => k_is); (case k7 => k_is); (case k8 => k_room); (case k9 => first | exact BindsTo.of_eq rfl | exact binds_K (by k_in) rfl (by k_is) rfl rfl rfl | fail "k_enter: no rule for these arguments"); (case c5 => decide); (case kB => exact locs rfl); (case c2 => exact rfl); (case c3 => exact rfl); (case c4 => exact rfl); k_whole; intro g' L' h' FG' F' N' B' X' T'; (try dsimp only); (try k_lift B'); (try k_fold)))

open LCg
abbrev ctxL (P : Params) (r dr tl nd a d : Addr) (toks : List Value) (nt : Nat) (k₁ k₂ k₃ it : Tok) (i : Nat) (c₁ c₂ c₃ c₄ u t : Tok) (x : Str) (rest : Led) : Led :=
  (dr, rdD P k₁ k₂ k₃ tl i it nd) :: (r, instObj 253 dr) :: (tl, W.listOf toks.toArray nt) :: (a, instObj 283 d) :: (d, tokD P c₁ c₂ c₃ c₄ x u t) :: rest
def KindCon (w : World) (p : Program) (loose : List Str) (mean : ExcName → Option Value) (mg mb : Str → Option Value) : Prop :=
  ∀ (A : Around) (env : Env) (outer : List Env) (A₀ : Around) (base h₀ : Heap) (L : Addr) (m : Str → Option Value) (rest : Led) (s : Shared) (r dr tl nd a d : Addr) (toks : List Value) (nt : Nat) (k₁ k₂ k₃ it : Tok) (i : Nat) (c₁ c₂ c₃ c₄ u t : Tok) (x : Str) (u0 : Tok) (args : List Value)
    (Q E : Value → Shared → Prop),
    A.frames = some (env :: outer) → env.frame = some L → env.scope.kind = .function → A.depth < 890 →
    Below A₀ base outer h₀ → Fr h₀ L s.heap m → (Mine.cap.heap_1 w.params).In h₀ → Top p loose mean mg mb h₀ →
    News h₀ L s.heap ((dr, rdD w.params k₁ k₂ k₃ tl i it nd) :: (r, instObj 253 dr) :: (tl, W.listOf toks.toArray nt) :: (a, instObj 283 d) :: (d, tokD w.params c₁ c₂ c₃ c₄ x u t) :: rest) → 
    toks.length < 3000 → toks[i]? = some (.ref a) → (args = [.ref r, .str (Str.ofString "word") u0] ∨ ∃ u, args = [.ref r, .str (Str.ofString "word") u0, .int 0 u]) →
    (∀ h' tk', Fr h₀ L h' m → News h₀ L h' ((dr, rdD w.params k₁ k₂ k₃ tl i it nd) :: (r, instObj 253 dr) :: (tl, W.listOf toks.toArray nt) :: (a, instObj 283 d) :: (d, tokD w.params c₁ c₂ c₃ c₄ x u t) :: rest) → Q (.bool true) { s with heap := h', toks := tk' }) →
    wpAny (model PySem.Challenge.rw_pb0251_01.row.prog w) A (call (.ref 136) args) Q E s

theorem kind_con (w : World) (p : Program) (loose : List Str) (mean : ExcName → Option Value) (mg mb : Str → Option Value) : KindCon w p loose mean mg mb := by
  unfold KindCon
  have PC := peek_con w p loose mean mg mb
  k_fill
  w_on
  intro A env outer A₀ base h₀ L m rest s r dr tl nd a d toks nt k₁ k₂ k₃ it i c₁ c₂ c₃ c₄ u t x u0 args Q E hA hf hke hd B F X T N hlen htok harg hret
  rcases harg with rfl | ⟨u, rfl⟩
  all_goals (
    refine wpAny_call ?_
    w_strict k_enter
    w_strict k_steps
    rename Below _ _ _ _ => B9
    rename Fr _ _ _ _ => F9
    rename News _ _ _ _ => N9
    rename Frag.In _ _ => X9
    rename Top _ _ _ _ _ _ => T9
    refine PC _ _ _ _ _ _ _ _ _ _ _ _ _ _ _ _ _ _ _ _ _ _ _ _ _ (Around.frames_deeper hA) rfl rfl (by show A.depth + 1 < 900; omega) B9 F9 X9 T9 N9 hlen htok (.inr ⟨_, rfl⟩) ?_
    intro h9 tk9 F8 N8
    dsimp only
    w_strict k_steps
    rename_i kF kN _ _
    exact hret _ _ kF kN)
end
end Mine
end

section
open PySem PySem.W PySem.Spec PySem.Calls PyProof.Rows
set_option Elab.async false
set_option maxRecDepth 100000
set_option maxHeartbeats 8000000
namespace Mine
section
local macro_rules | `(tactic| k_steps) => `(tactic| repeat' ((fail_if_success (with_reducible show wpAny _ _ (call (Value.ref 107) _) _ _ _)); (fail_if_success (with_reducible show wpAny _ _ (call (Value.ref 136) _) _ _ _)); (fail_if_success (with_reducible show wpAny _ _ (compareOp CmpOp.In _ _) _ _ _)); first | (k_unfold; (try dsimp only)) | (k_end; wrow_close) | walk1 | (dsimp only; walk1) | (dsimp only [List.cons_append, List.nil_append]; walk1) | (leave1; walk_say "STEP leave1"; try dsimp only) | fail "no step"))
local macro_rules | `(tactic| k_all) => `(tactic| assumption)
local macro_rules | `(tactic| size_fits) => `(tactic| ((try simp only [List.size_toArray, List.length_append, List.length_cons, List.length_nil, List.push_toArray]); (have hsz9 := sizeLine_eq); omega))
local macro_rules | `(tactic| ktr_enter) => `(tactic| (k_dflt (refine' code_def ?k1 ?k2 ?k3 ?k4 ?k5 ?kA ?kF ?kK ?k6 ?k7 ?k8 ?k9 ?kB ?_ ?c2 ?c3 ?c4 ?c5; (case kA => assumption); (case kF => assumption); (case kK => assumption); (case k1 => k_asm); (case k2 => k_asm); (case k3 => k_asm); (case k4 => k_asm); (case k5 => k_asm); (case k6 => k_is); (case k7 => k_is); (case k8 => (simp only [recursionLimit]; omega)); (case k9 => exact BindsTo.of_eq rfl); (case c5 => decide); (case kB => exact locs rfl); (case c2 => exact rfl); (case c3 => exact rfl); (case c4 => exact rfl); k_whole; intro g' L' h' FG' F' N' B' X' T'; (try dsimp only); (try k_fold))))
local macro_rules | `(tactic| k_room) => `(tactic| (simp only [depth_mark, depth_under_make, depth_under_kw, depth_in1, depth_deeper, depth_caller, recursionLimit]; omega))
local macro_rules | `(tactic| k_enter) => `(tactic| first
  | (refine' code_def ?k1 ?k2 ?k3 ?k4 ?k5 ?kA ?kF ?kK ?k6 ?k7 ?k8 ?k9 ?kB ?_ ?c2 ?c3 ?c4 ?c5; (case kA => first | assumption | exact Around.frames_deeper (by assumption) | exact Around.frames_deeper (Around.frames_deeper (by assumption)) | exact Around.frames_deeper (Around.frames_deeper (Around.frames_deeper (by assumption))) | exact Around.frames_deeper (Around.frames_deeper (Around.frames_deeper (Around.frames_deeper (by assumption))))); (case kF => first | assumption | exact rfl); (case kK => first | assumption | exact rfl); (case k1 => k_asm); (case k2 => k_asm); (case k3 => k_asm); (case k4 => k_asm); (case k5 => k_asm); (case k6 => k_is); (case k7 => k_is); (case k8 => k_room); (case k9 => first | exact BindsTo.of_eq rfl | exact binds_K (by k_in) rfl (by k_is) rfl rfl rfl | fail "k_enter: no rule for these arguments"); (case c5 => decide); (case kB => exact locs rfl); (case c2 => exact rfl); (case c3 => exact rfl); (case c4 => exact rfl); k_whole; intro g' L' h' FG' F' N' B' X' T'; (try dsimp only); (try k_lift B'); (try k_fold)))

open LCg
def VerbCon (w : World) (p : Program) (loose : List Str) (mean : ExcName → Option Value) (mg mb : Str → Option Value) (x : Str) (b : Bool) : Prop :=
  ∀ (A : Around) (env : Env) (outer : List Env) (A₀ : Around) (base h₀ : Heap) (L : Addr) (m : Str → Option Value) (rest : Led) (s : Shared) (r dr tl nd a d : Addr) (toks : List Value) (nt : Nat) (k₁ k₂ k₃ it : Tok) (i : Nat) (c₁ c₂ c₃ c₄ u t : Tok)
    (Q E : Value → Shared → Prop),
    A.frames = some (env :: outer) → env.frame = some L → env.scope.kind = .function → A.depth < 880 →
    Below A₀ base outer h₀ → Fr h₀ L s.heap m → (Mine.cap.heap_1 w.params).In h₀ → Top p loose mean mg mb h₀ →
    News h₀ L s.heap ((dr, rdD w.params k₁ k₂ k₃ tl i it nd) :: (r, instObj 253 dr) :: (tl, W.listOf toks.toArray nt) :: (a, instObj 283 d) :: (d, tokD w.params c₁ c₂ c₃ c₄ x u t) :: rest) → 
    toks.length < 3000 → toks[i]? = some (.ref a) → 
    (∀ h' tk', Fr h₀ L h' m → News h₀ L h' ((dr, rdD w.params k₁ k₂ k₃ tl i it nd) :: (r, instObj 253 dr) :: (tl, W.listOf toks.toArray nt) :: (a, instObj 283 d) :: (d, tokD w.params c₁ c₂ c₃ c₄ x u t) :: rest) → Q (.bool b) { s with heap := h', toks := tk' }) →
    wpAny (model PySem.Challenge.rw_pb0251_01.row.prog w) A (call (.ref 29) [.ref r]) Q E s
def InVerbs (w : World) (x : Str) (b : Bool) : Prop := ∀ (A : Around) (h₀ : Heap) (L : Addr) (m : Str → Option Value) (s : Shared) (t : Tok) (Q E : Value → Shared → Prop),
  Fr h₀ L s.heap m → (Mine.cap.heap_1 w.params).In h₀ → (∀ tk, Q (.bool b) { s with toks := tk }) → wpAny (model PySem.Challenge.rw_pb0251_01.row.prog w) A (compareOp .In (.str x t) (.ref 22)) Q E s
def verbsL : List Str := ["ADD", "SUBTRACT", "MULTIPLY", "DIVIDE", "COMPUTE", "MOVE", "INITIALIZE", "SET", "STRING", "UNSTRING", "INSPECT", "SEARCH", "ACCEPT", "DISPLAY", "IF", "EVALUATE", "PERFORM", "GO", "EXIT", "STOP", "CALL", "CONTINUE", "OPEN", "CLOSE", "READ", "WRITE", "REWRITE", "DELETE", "START", "SORT", "MERGE", "RELEASE", "RETURN"].map Str.ofString
theorem in_verbs (w : World) (x : Str) (b : Bool) (hb : verbsL.any (· == x) = b) : InVerbs w x b := by
  intro A h₀ L m s t Q E F X hret
  refine in_tuple_strs (ys := verbsL) ⟨_, F.keep _ _ (X 22 _ rfl), rfl, _, rfl⟩ ?_ (by rw [hb]; exact hret s.toks)
  unfold verbsL
  repeat constructor
theorem in_IF (w : World) : InVerbs w (Str.ofString "IF") true := in_verbs w _ _ (by decide +kernel)
theorem in_ELSE (w : World) : InVerbs w (Str.ofString "ELSE") false := in_verbs w _ _ (by decide +kernel)
theorem in_ENDIF (w : World) : InVerbs w (Str.ofString "END-IF") false := in_verbs w _ _ (by decide +kernel)
theorem in_WHEN (w : World) : InVerbs w (Str.ofString "WHEN") false := in_verbs w _ _ (by decide +kernel)
theorem verb_con (w : World) (p : Program) (loose : List Str) (mean : ExcName → Option Value) (mg mb : Str → Option Value) (x : Str) (b : Bool) (IV : InVerbs w x b) : VerbCon w p loose mean mg mb x b := by
  unfold VerbCon
  have PC := peek_con w p loose mean mg mb
  have KC := kind_con w p loose mean mg mb
  k_fill
  w_on
  intro A env outer A₀ base h₀ L m rest s r dr tl nd a d toks nt k₁ k₂ k₃ it i c₁ c₂ c₃ c₄ u t Q E hA hf hke hd B F X T N hlen htok hret
  refine wpAny_call ?_
  w_strict k_enter
  w_strict k_steps
  rename Below _ _ _ _ => B9
  rename Fr _ _ _ _ => F9
  rename News _ _ _ _ => N9
  rename Frag.In _ _ => X9
  rename Top _ _ _ _ _ _ => T9
  refine KC _ _ _ _ _ _ _ _ _ _ _ _ _ _ _ _ _ _ _ _ _ _ _ _ _ _ _ _ _ _ _ _ _ _ (Around.frames_deeper hA) rfl rfl (by show A.depth + 1 < 890; omega) B9 F9 X9 T9 N9 hlen htok (.inl rfl) ?_
  intro h9 tk9 F8 N8
  dsimp only
  w_strict k_steps
  dsimp only [List.cons_append, List.nil_append]
  refine PC _ _ _ _ _ _ _ _ _ _ _ _ _ _ _ _ _ _ _ _ _ _ _ _ _ (Around.frames_deeper hA) rfl rfl (by show A.depth + 1 < 900; omega) B9 F8 X9 T9 N8 hlen htok (.inl rfl) ?_
  intro h7 tk7 F7 N7
  dsimp only
  w_strict k_steps
  rename Fr _ _ _ _ => F6
  refine IV _ _ _ _ _ _ _ _ F6 X9 ?_
  intro tk6
  dsimp only
  w_strict k_steps
  rename_i kF kN _ _
  exact hret _ _ kF kN
end
end Mine
end

section
open PySem PySem.W PySem.Spec PySem.Calls PyProof.Rows
set_option Elab.async false
set_option maxRecDepth 100000
set_option maxHeartbeats 8000000
namespace Mine
section
local macro_rules | `(tactic| k_steps) => `(tactic| repeat' ((fail_if_success (with_reducible show wpAny _ _ (call (Value.ref 107) _) _ _ _)); (fail_if_success (with_reducible show wpAny _ _ (call (Value.ref 136) _) _ _ _)); first | (k_unfold; (try dsimp only)) | (k_end; wrow_close) | walk1 | (dsimp only; walk1) | (dsimp only [List.cons_append, List.nil_append]; walk1) | (leave1; walk_say "STEP leave1"; try dsimp only) | fail "no step"))
local macro_rules | `(tactic| k_all) => `(tactic| assumption)
local macro_rules | `(tactic| size_fits) => `(tactic| ((try simp only [List.size_toArray, List.length_append, List.length_cons, List.length_nil, List.push_toArray]); (have hsz9 := sizeLine_eq); omega))
local macro_rules | `(tactic| ktr_enter) => `(tactic| (k_dflt (refine' code_def ?k1 ?k2 ?k3 ?k4 ?k5 ?kA ?kF ?kK ?k6 ?k7 ?k8 ?k9 ?kB ?_ ?c2 ?c3 ?c4 ?c5; (case kA => assumption); (case kF => assumption); (case kK => assumption); (case k1 => k_asm); (case k2 => k_asm); (case k3 => k_asm); (case k4 => k_asm); (case k5 => k_asm); (case k6 => k_is); (case k7 => k_is); (case k8 => (simp only [recursionLimit]; omega)); (case k9 => exact BindsTo.of_eq rfl); (case c5 => decide); (case kB => exact locs rfl); (case c2 => exact rfl); (case c3 => exact rfl); (case c4 => exact rfl); k_whole; intro g' L' h' FG' F' N' B' X' T'; (try dsimp only); (try k_fold))))
local macro_rules | `(tactic| k_room) => `(tactic| (simp only [depth_mark, depth_under_make, depth_under_kw, depth_in1, depth_deeper, depth_caller, recursionLimit]; omega))
local macro_rules | `(tactic| k_enter) => `(tactic| first
  | (refine' code_def ?k1 ?k2 ?k3 ?k4 ?k5 ?kA ?kF ?kK ?k6 ?k7 ?k8 ?k9 ?kB ?_ ?c2 ?c3 ?c4 ?c5; (case kA => first | assumption | exact Around.frames_deeper (by assumption) | exact Around.frames_deeper (Around.frames_deeper (by assumption)) | exact Around.frames_deeper (Around.frames_deeper (Around.frames_deeper (by assumption))) | exact Around.frames_deeper (Around.frames_deeper (Around.frames_deeper (Around.frames_deeper (by assumption))))); (case kF => first | assumption | exact rfl); (case kK => first | assumption | exact rfl); (case k1 => k_asm); (case k2 => k_asm); (case k3 => k_asm); (case k4 => k_asm); (case k5 => k_asm); (case k6 => k_is); (case k7 => k_is); (case k8 => k_room); (case k9 => first | exact BindsTo.of_eq rfl | exact binds_K (by k_in) rfl (by k_is) rfl rfl rfl | fail "k_enter: no rule for these arguments"); (case c5 => decide); (case kB => exact locs rfl); (case c2 => exact rfl); (case c3 => exact rfl); (case c4 => exact rfl); k_whole; intro g' L' h' FG' F' N' B' X' T'; (try dsimp only); (try k_lift B'); (try k_fold)))

end
section
variable {prog : Program} {w : World} {A : Around} {E : Value → Shared → Prop} {s : Shared} {env : Env} {h₀ : Heap} {x : Str} {body : List Stmt} {Q : Flow → Shared → Prop}
theorem iter_lst {t : Addr} {vs : List Value} {m₀ : Str → Option Value} {news : Led} (J : Nat → (Str → Option Value) → Led → Prop)
    (hh : A.handled = none) (hts : s.heap.IsList t vs.toArray) (F : Fr h₀ env.locals s.heap m₀) (N : News h₀ env.locals s.heap news)
    (hJt : h₀.IsList t vs.toArray ∨ ∃ n, (t, W.listOf vs.toArray n) ∈ news ∧ ∀ i m n', J i m n' → (t, W.listOf vs.toArray n) ∈ n') (hj : J 0 m₀ news)
    (turn : ∀ i v m₁ news₁ h tk I oI, vs[i]? = some v → (∀ p ∈ news₁, p.1 ≠ I) → J i m₁ news₁ → Fr h₀ env.locals h (fun y => if y = x then some v else m₁ y) → News h₀ env.locals h ((I, oI) :: news₁) →
      wpAny (model prog w) A (execs body env) (TurnP h₀ env.locals (J (i + 1)) I oI { s with heap := h, toks := tk } Q) E { s with heap := h, toks := tk })
    (done : ∀ m₁ news₁ h tk, J vs.length m₁ news₁ → Fr h₀ env.locals h m₁ → News h₀ env.locals h news₁ → Q .next { s with heap := h, toks := tk }) :
    wpAny (model prog w) A (pyIter (.ref t)) (fun it s₂ => LoopAtV prog w A h₀ env x body Q E it s₂) E s := by
  obtain ⟨ot, hto, htc, ntt, htd⟩ := id hts
  have hlt : t < s.heap.objs.size := Heap.lt_size hto
  have hne : t ≠ s.heap.objs.size := Nat.ne_of_lt hlt
  refine wpAny_pyIter_list hts ?_
  have W := Walks.list (prog := prog) (w := w) hh s.heap.objs.size t hne vs.toArray
  have hlen : vs.toArray.size = vs.length := by simp
  rw [hlen] at W
  refine ⟨_, _, _, vs.length, _, _, m₀, news, J, rfl, W, ?_, ?_, ?_, ⟨⟨_, Heap.get?_push_size _ rfl, rfl, rfl⟩, ⟨_, Heap.get?_push_of_some _ hto, htc, ntt, htd⟩⟩, F.push _, (fun p hp => ⟨Heap.get?_push_of_some _ (N p hp).1, (N p hp).2⟩), hj, ?_, ?_⟩
  · intro hm
    rcases List.mem_cons.mp hm with e | hm
    · exact absurd F.ns.lt (e ▸ Nat.lt_irrefl _)
    · rcases hJt with ⟨o, ho, _⟩ | ⟨n, hn, _⟩
      · have := kts_self F
        rw [← List.mem_singleton.mp hm] at ho
        rw [this] at ho; cases ho
      · exact (N _ hn).2.1 (List.mem_singleton.mp hm).symm
  · intro b hb
    rw [List.mem_singleton.mp hb]
    exact next_is_new F
  · intro p hp hI
    exact absurd (Heap.lt_size (N p hp).1) ((List.mem_singleton.mp hI) ▸ Nat.lt_irrefl _)
  · rintro i v m₁ news₁ s₁ own ⟨hh', tk', rfl⟩ hin hP hJ hoff hown hget hmem hst F₁ N₁
    obtain ⟨⟨oi, hoi, _⟩, _⟩ := hst
    have hI : (s.heap.objs.size, oi) ∈ own := hmem _ (.head _) (next_is_new F) oi hoi
    have hx : vs[i]? = some v := by simpa using hP
    have hno : ∀ p ∈ news₁, p.1 ≠ s.heap.objs.size := fun p hp e => hoff p hp (List.mem_singleton.mpr e)
    have N₂ : News h₀ env.locals hh' ((s.heap.objs.size, oi) :: news₁) := fun p hp => (List.mem_cons.mp hp).elim (fun e => e ▸ N₁ _ (List.mem_append.mpr (.inl hI))) fun h => N₁ p (List.mem_append.mpr (.inr h))
    refine wpAny_mono (turn i v m₁ news₁ hh' tk' _ oi hx hno hJ F₁ N₂) (fun f s₂ p => ?_) fun _ _ e => e
    have fin : TurnE h₀ env.locals (J (i + 1)) s.heap.objs.size oi { s with heap := hh', toks := tk' } s₂ → LoopStepU h₀ env.locals [s.heap.objs.size] own (J (i + 1)) { s with heap := hh', toks := tk' } .next s₂ := by
      rintro ⟨h', tk, m', news₂, e, F', N', ha, hm⟩
      refine ⟨rfl, h', tk, m', news₂, e, F', fun p hp => ?_, fun p hp hq => ha p hp (List.mem_singleton.mp hq), hm⟩
      rcases List.mem_append.mp hp with hp | hp
      · have hg := hget p hp
        rcases List.mem_cons.mp (hown p hp) with h1 | h1
        · have : p = (s.heap.objs.size, oi) := by
            obtain ⟨pa, po⟩ := p
            simp only at h1 hg
            subst h1
            rw [show hh'.get? s.heap.objs.size = some oi from hoi] at hg
            rw [Option.some.inj hg]
          rw [this]; exact N' _ (.head _)
        · have h2 := List.mem_singleton.mp h1
          rcases hJt with ⟨o, ho, _⟩ | ⟨n, _, hn⟩
          · have h3 := (N₁ p (List.mem_append.mpr (.inl hp))).2.2
            rw [h2, ho] at h3; cases h3
          have hg2 := (N₁ _ (List.mem_append.mpr (.inr (hn _ _ _ hJ)))).1
          have : p = (t, PySem.W.listOf vs.toArray n) := by
            obtain ⟨pa, po⟩ := p
            simp only at h2 hg
            subst h2
            rw [show hh'.get? pa = _ from hg2] at hg
            cases hg; rfl
          rw [this]; exact N' _ (.tail _ (hn _ _ _ hm))
      · exact N' p (.tail _ hp)
    cases f with
    | ret v => exact .ret p
    | brk => exact .brk p
    | next => exact .next (fin p)
    | cont => exact .cont (fin p)
  · rintro h' tk m' news' F' N' _ hJ
    exact done m' news' h' tk hJ F' N'

theorem news_front {h₀ h : Heap} {L : Addr} {c1 c2 c3 c4 c5 : Addr × Obj} {pre l : Led} (N : News h₀ L h (pre ++ c1 :: c2 :: c3 :: c4 :: c5 :: l)) : News h₀ L h (c1 :: c2 :: c3 :: c4 :: c5 :: (pre ++ l)) := fun p hp => N p (by
  simp only [List.mem_cons, List.mem_append] at hp ⊢
  rcases hp with h | h | h | h | h | h | h <;> simp [h])
theorem news_unfront {h₀ h : Heap} {L : Addr} {c1 c2 c3 c4 c5 : Addr × Obj} {pre l : Led} (N : News h₀ L h (c1 :: c2 :: c3 :: c4 :: c5 :: (pre ++ l))) : News h₀ L h (pre ++ c1 :: c2 :: c3 :: c4 :: c5 :: l) := fun p hp => N p (by
  simp only [List.mem_cons, List.mem_append] at hp ⊢
  rcases hp with h | h | h | h | h | h | h <;> simp [h])
theorem iter_one {t : Addr} {n : Nat} {v : Value} {m₀ : Str → Option Value} {news : Led}
    (hh : A.handled = none) (ht : (t, PySem.W.listOf [v].toArray n) ∈ news) (F : Fr h₀ env.locals s.heap m₀) (N : News h₀ env.locals s.heap news)
    (turn : ∀ h tk I oI, (∀ p ∈ news, p.1 ≠ I) → Fr h₀ env.locals h (fun y => if y = x then some v else m₀ y) → News h₀ env.locals h ((I, oI) :: news) →
      wpAny (model prog w) A (execs body env) (TurnP h₀ env.locals (fun _ n' => n' = news) I oI { s with heap := h, toks := tk } Q) E { s with heap := h, toks := tk })
    (done : ∀ m₁ h tk, Fr h₀ env.locals h m₁ → News h₀ env.locals h news → Q .next { s with heap := h, toks := tk }) :
    wpAny (model prog w) A (pyIter (.ref t)) (fun it s₂ => LoopAtV prog w A h₀ env x body Q E it s₂) E s := by
  refine iter_lst (vs := [v]) (news := news) (fun i m₁ n₁ => n₁ = news ∧ (i = 0 → m₁ = m₀)) hh ⟨_, (N _ ht).1, rfl, _, rfl⟩ F N (.inr ⟨_, ht, fun i m n' h => h.1 ▸ ht⟩) ⟨rfl, fun _ => rfl⟩ ?_ ?_
  · rintro i v' m₁ n₁ h tk I oI hv hI ⟨rfl, hm⟩ F1 N1
    have hi : i = 0 := by
      cases i with
      | zero => rfl
      | succ i => simp at hv
    subst hi
    simp at hv
    subst hv
    rw [hm rfl] at F1
    refine wpAny_mono (turn h tk I oI hI F1 N1) (fun f s₂ q => ?_) fun _ _ e => e
    have up : ∀ {s₁ s₂ : Shared}, TurnE h₀ env.locals (fun _ n' => n' = n₁) I oI s₁ s₂ → TurnE h₀ env.locals (fun m' n' => n' = n₁ ∧ (0 + 1 = 0 → m' = m₀)) I oI s₁ s₂ := by
      rintro s₁ s₂ ⟨h', tk', m', n2, e, F', N', ho, hn⟩
      exact ⟨h', tk', m', n2, e, F', N', ho, hn, fun q => absurd q (by decide)⟩
    cases f with
    | ret v => exact q
    | brk => exact q
    | next => exact up q
    | cont => exact up q
  · rintro m₁ n₁ h tk ⟨rfl, _⟩ F1 N1
    exact done m₁ h tk F1 N1
end
section
local macro_rules | `(tactic| k_steps) => `(tactic| repeat' ((fail_if_success (with_reducible show wpAny _ _ (call (Value.ref 107) _) _ _ _)); (fail_if_success (with_reducible show wpAny _ _ (call (Value.ref 136) _) _ _ _)); (fail_if_success (with_reducible show wpAny _ _ (exec (Stmt.For _ _ _ _ _) _) _ _ _)); first | (k_unfold; (try dsimp only)) | (k_end; wrow_close) | walk1 | (dsimp only; walk1) | (dsimp only [List.cons_append, List.nil_append]; walk1) | (leave1; walk_say "STEP leave1"; try dsimp only) | fail "no step"))
local macro_rules | `(tactic| k_all) => `(tactic| assumption)
local macro_rules | `(tactic| size_fits) => `(tactic| ((try simp only [List.size_toArray, List.length_append, List.length_cons, List.length_nil, List.push_toArray]); (have hsz9 := sizeLine_eq); omega))
local macro_rules | `(tactic| ktr_enter) => `(tactic| (k_dflt (refine' code_def ?k1 ?k2 ?k3 ?k4 ?k5 ?kA ?kF ?kK ?k6 ?k7 ?k8 ?k9 ?kB ?_ ?c2 ?c3 ?c4 ?c5; (case kA => assumption); (case kF => assumption); (case kK => assumption); (case k1 => k_asm); (case k2 => k_asm); (case k3 => k_asm); (case k4 => k_asm); (case k5 => k_asm); (case k6 => k_is); (case k7 => k_is); (case k8 => (simp only [recursionLimit]; omega)); (case k9 => exact BindsTo.of_eq rfl); (case c5 => decide); (case kB => exact locs rfl); (case c2 => exact rfl); (case c3 => exact rfl); (case c4 => exact rfl); k_whole; intro g' L' h' FG' F' N' B' X' T'; (try dsimp only); (try k_fold))))
local macro_rules | `(tactic| k_room) => `(tactic| (simp only [depth_mark, depth_under_make, depth_under_kw, depth_in1, depth_deeper, depth_caller, recursionLimit]; omega))
local macro_rules | `(tactic| k_enter) => `(tactic| first
  | (refine' code_def ?k1 ?k2 ?k3 ?k4 ?k5 ?kA ?kF ?kK ?k6 ?k7 ?k8 ?k9 ?kB ?_ ?c2 ?c3 ?c4 ?c5; (case kA => first | assumption | exact Around.frames_deeper (by assumption) | exact Around.frames_deeper (Around.frames_deeper (by assumption)) | exact Around.frames_deeper (Around.frames_deeper (Around.frames_deeper (by assumption))) | exact Around.frames_deeper (Around.frames_deeper (Around.frames_deeper (Around.frames_deeper (by assumption))))); (case kF => first | assumption | exact rfl); (case kK => first | assumption | exact rfl); (case k1 => k_asm); (case k2 => k_asm); (case k3 => k_asm); (case k4 => k_asm); (case k5 => k_asm); (case k6 => k_is); (case k7 => k_is); (case k8 => k_room); (case k9 => first | exact BindsTo.of_eq rfl | exact binds_K (by k_in) rfl (by k_is) rfl rfl rfl | fail "k_enter: no rule for these arguments"); (case c5 => decide); (case kB => exact locs rfl); (case c2 => exact rfl); (case c3 => exact rfl); (case c4 => exact rfl); k_whole; intro g' L' h' FG' F' N' B' X' T'; (try dsimp only); (try k_lift B'); (try k_fold)))
open LCg
def WordCon (w : World) (p : Program) (loose : List Str) (mean : ExcName → Option Value) (mg mb : Str → Option Value) (x : Str) : Prop :=
  ∀ (A : Around) (env : Env) (outer : List Env) (A₀ : Around) (base h₀ : Heap) (L : Addr) (m : Str → Option Value) (rest : Led) (s : Shared) (r dr tl nd a d : Addr) (toks : List Value) (nt : Nat) (k₁ k₂ k₃ it : Tok) (i : Nat) (c₁ c₂ c₃ c₄ u t u0 : Tok)
    (Q E : Value → Shared → Prop),
    A.frames = some (env :: outer) → env.frame = some L → env.scope.kind = .function → A.depth < 880 → A.handled = none →
    Below A₀ base outer h₀ → Fr h₀ L s.heap m → (Mine.cap.heap_1 w.params).In h₀ → Top p loose mean mg mb h₀ →
    News h₀ L s.heap ((dr, rdD w.params k₁ k₂ k₃ tl i it nd) :: (r, instObj 253 dr) :: (tl, W.listOf toks.toArray nt) :: (a, instObj 283 d) :: (d, tokD w.params c₁ c₂ c₃ c₄ x u t) :: rest) → 
    toks.length < 3000 → toks[i]? = some (.ref a) → 
    (∀ h' tk', Fr h₀ L h' m → News h₀ L h' ((dr, rdD w.params k₁ k₂ k₃ tl i it nd) :: (r, instObj 253 dr) :: (tl, W.listOf toks.toArray nt) :: (a, instObj 283 d) :: (d, tokD w.params c₁ c₂ c₃ c₄ x u t) :: rest) → Q (.bool true) { s with heap := h', toks := tk' }) →
    wpAny (model PySem.Challenge.rw_pb0251_01.row.prog w) A (call (.ref 143) [.ref r, .str x u0]) Q E s
theorem word_IF (w : World) (p : Program) (loose : List Str) (mean : ExcName → Option Value) (mg mb : Str → Option Value) (x : Str) (hx : x = Str.ofString "IF" ∨ x = Str.ofString "END-IF") : WordCon w p loose mean mg mb x := by
  unfold WordCon
  have PC := peek_con w p loose mean mg mb
  have KC := kind_con w p loose mean mg mb
  k_fill
  w_on
  intro A env outer A₀ base h₀ L m rest s r dr tl nd a d toks nt k₁ k₂ k₃ it i c₁ c₂ c₃ c₄ u t u0 Q E hA hf hke hd hh B F X T N hlen htok hret
  rcases hx with rfl | rfl
  all_goals
    refine wpAny_call ?_
    w_strict k_enter
    w_strict k_steps
    rename Fr _ _ _ _ => F2
    w_strict (with_unfolding_all refine' For_invVF F2 ?k1 ?k2 ?_; (case k1 => exact rfl); (case k2 => exact rfl))
    w_strict walk1
    w_strict k_steps
    rename Fr _ _ _ _ => F9
    rename News _ _ _ _ => N9
    rename Below _ _ _ _ => B9
    rename Frag.In _ _ => X9
    rename Top _ _ _ _ _ _ => T9
    refine iter_one (n := 0) hh (.head _) F9 N9 ?_ ?_
    · intro h4 tk4 I oI hI F4 N4
      dsimp only
      clear N9 F9
      w_strict k_steps
      refine KC _ _ _ _ _ _ _ _ _ _ _ _ _ _ _ _ _ _ _ _ _ _ _ _ _ _ _ _ _ _ _ _ _ _ (Around.frames_deeper hA) rfl rfl (by show A.depth + 1 < 890; omega) B9 F4 X9 T9 (news_front (pre := [_, _]) N4) hlen htok (.inr ⟨_, rfl⟩) ?_
      intro h5 tk5 F5 N5
      replace N5 := news_unfront (pre := [_, _]) N5
      (try dsimp only [List.cons_append, List.nil_append] at N5)
      clear N4 F4
      (try dsimp only)
      w_strict k_steps
      (try dsimp only [List.cons_append, List.nil_append])
      refine PC _ _ _ _ _ _ _ _ _ _ _ _ _ _ _ _ _ _ _ _ _ _ _ _ _ (Around.frames_deeper hA) rfl rfl (by show A.depth + 1 < 900; omega) B9 F5 X9 T9 (news_front (pre := [_, _]) N5) hlen htok (.inr ⟨_, rfl⟩) ?_
      intro h7 tk7 F7 N7
      replace N7 := news_unfront (pre := [_, _]) N7
      (try dsimp only [List.cons_append, List.nil_append] at N7)
      clear N5 F5
      (try dsimp only)
      w_strict k_steps
      rename Fr _ _ _ _ => F3
      rename News _ _ _ _ => N3
      exact ⟨_, _, _, _, rfl, F3, N3, hI, rfl⟩
    · intro m₁ h4 tk4 F4 N4
      (try dsimp only)
      w_strict k_steps
      rename_i kF kN _ _
      exact hret _ _ kF (news_perm kN fun p hp => .tail _ hp)
end
end Mine
end

section
open PySem PySem.W PySem.Spec PySem.Calls PyProof.Rows
set_option Elab.async false
set_option maxRecDepth 100000
set_option maxHeartbeats 8000000
namespace Mine
section
local macro_rules | `(tactic| k_steps) => `(tactic| repeat' ((fail_if_success (with_reducible show wpAny _ _ (call (Value.ref 143) _) _ _ _)); first | (k_unfold; (try dsimp only)) | (k_end; wrow_close) | walk1 | (dsimp only; walk1) | (dsimp only [List.cons_append, List.nil_append]; walk1) | (leave1; walk_say "STEP leave1"; try dsimp only) | fail "no step"))
local macro_rules | `(tactic| k_all) => `(tactic| assumption)
local macro_rules | `(tactic| size_fits) => `(tactic| ((try simp only [List.size_toArray, List.length_append, List.length_cons, List.length_nil, List.push_toArray]); (have hsz9 := sizeLine_eq); omega))
local macro_rules | `(tactic| ktr_enter) => `(tactic| (k_dflt (refine' code_def ?k1 ?k2 ?k3 ?k4 ?k5 ?kA ?kF ?kK ?k6 ?k7 ?k8 ?k9 ?kB ?_ ?c2 ?c3 ?c4 ?c5; (case kA => assumption); (case kF => assumption); (case kK => assumption); (case k1 => k_asm); (case k2 => k_asm); (case k3 => k_asm); (case k4 => k_asm); (case k5 => k_asm); (case k6 => k_is); (case k7 => k_is); (case k8 => (simp only [recursionLimit]; omega)); (case k9 => exact BindsTo.of_eq rfl); (case c5 => decide); (case kB => exact locs rfl); (case c2 => exact rfl); (case c3 => exact rfl); (case c4 => exact rfl); k_whole; intro g' L' h' FG' F' N' B' X' T'; (try dsimp only); (try k_fold))))
local macro_rules | `(tactic| k_room) => `(tactic| (simp only [depth_mark, depth_under_make, depth_under_kw, depth_in1, depth_deeper, depth_caller, recursionLimit]; omega))
local macro_rules | `(tactic| k_enter) => `(tactic| first
  | (refine' code_def ?k1 ?k2 ?k3 ?k4 ?k5 ?kA ?kF ?kK ?k6 ?k7 ?k8 ?k9 ?kB ?_ ?c2 ?c3 ?c4 ?c5; (case kA => first | assumption | exact Around.frames_deeper (by assumption) | exact Around.frames_deeper (Around.frames_deeper (by assumption)) | exact Around.frames_deeper (Around.frames_deeper (Around.frames_deeper (by assumption))) | exact Around.frames_deeper (Around.frames_deeper (Around.frames_deeper (Around.frames_deeper (by assumption))))); (case kF => first | assumption | exact rfl); (case kK => first | assumption | exact rfl); (case k1 => k_asm); (case k2 => k_asm); (case k3 => k_asm); (case k4 => k_asm); (case k5 => k_asm); (case k6 => k_is); (case k7 => k_is); (case k8 => k_room); (case k9 => first | exact BindsTo.of_eq rfl | exact binds_K (by k_in) rfl (by k_is) rfl rfl rfl | fail "k_enter: no rule for these arguments"); (case c5 => decide); (case kB => exact locs rfl); (case c2 => exact rfl); (case c3 => exact rfl); (case c4 => exact rfl); k_whole; intro g' L' h' FG' F' N' B' X' T'; (try dsimp only); (try k_lift B'); (try k_fold)))

open LCg
theorem news_tail {h₀ h : Heap} {L : Addr} {a : Addr × Obj} {l : Led} (N : News h₀ L h (a :: l)) : News h₀ L h l := fun p hp => N p (.tail _ hp)
def NeedCon (w : World) (p : Program) (loose : List Str) (mean : ExcName → Option Value) (mg mb : Str → Option Value) (x : Str) : Prop :=
  ∀ (A : Around) (env : Env) (outer : List Env) (A₀ : Around) (base h₀ : Heap) (L : Addr) (m : Str → Option Value) (rest : Led) (s : Shared) (r dr tl nd a d : Addr) (toks : List Value) (nt : Nat) (k₁ k₂ k₃ it : Tok) (i : Nat) (c₁ c₂ c₃ c₄ u t u0 : Tok)
    (Q E : Value → Shared → Prop),
    A.frames = some (env :: outer) → env.frame = some L → env.scope.kind = .function → A.depth < 870 → A.handled = none →
    Below A₀ base outer h₀ → Fr h₀ L s.heap m → (Mine.cap.heap_1 w.params).In h₀ → Top p loose mean mg mb h₀ →
    News h₀ L s.heap ((dr, rdD w.params k₁ k₂ k₃ tl i it nd) :: (r, instObj 253 dr) :: (tl, W.listOf toks.toArray nt) :: (a, instObj 283 d) :: (d, tokD w.params c₁ c₂ c₃ c₄ x u t) :: rest) → 
    @Ne Nat r dr → @Ne Nat tl dr → @Ne Nat a dr → @Ne Nat d dr → (∀ p ∈ rest, p.1 ≠ dr) →
    toks.length < 3000 → toks[i]? = some (.ref a) → 
    (∀ h' tk' it', Fr h₀ L h' m → News h₀ L h' ((dr, rdD w.params k₁ k₂ k₃ tl (i + 1 : Nat) it' nd) :: (r, instObj 253 dr) :: (tl, W.listOf toks.toArray nt) :: (a, instObj 283 d) :: (d, tokD w.params c₁ c₂ c₃ c₄ x u t) :: rest) → Q .none { s with heap := h', toks := tk' }) →
    wpAny (model PySem.Challenge.rw_pb0251_01.row.prog w) A (call (.ref 157) [.ref r, .str x u0]) Q E s
theorem need_con (w : World) (p : Program) (loose : List Str) (mean : ExcName → Option Value) (mg mb : Str → Option Value) (x : Str) (hx : x = Str.ofString "IF" ∨ x = Str.ofString "END-IF") : NeedCon w p loose mean mg mb x := by
  unfold NeedCon
  have WC := word_IF w p loose mean mg mb x hx
  k_fill
  w_on
  intro A env outer A₀ base h₀ L m rest s r dr tl nd a d toks nt k₁ k₂ k₃ it i c₁ c₂ c₃ c₄ u t u0 Q E hA hf hke hd hh B F X T N n1 n2 n3 n4 n5 hlen htok hret
  rcases hx with rfl | rfl
  all_goals
    refine wpAny_call ?_
    w_strict k_enter
    w_strict k_steps
    rename Fr _ _ _ _ => F9
    rename News _ _ _ _ => N9
    rename Below _ _ _ _ => B9
    rename Frag.In _ _ => X9
    rename Top _ _ _ _ _ _ => T9
    refine WC _ _ _ _ _ _ _ _ _ _ _ _ _ _ _ _ _ _ _ _ _ _ _ _ _ _ _ _ _ _ _ _ (Around.frames_deeper (Around.frames_deeper hA)) rfl rfl (by show A.depth + 1 + 1 < 880; omega) hh B9 F9 X9 T9 N9 hlen htok ?_
    intro h5 tk5 F5 N5
    clear N9 F9
    (try dsimp only)
    w_strict k_steps
    rename_i kF kN _ _
    have e1 : ((i + 1 : Nat) : Int) = (i : Int) + 1 := by omega
    rw [e1] at hret
    exact hret _ _ _ kF (news_tail kN)
end
end Mine
end

section
open PySem PySem.W PySem.Spec PySem.Calls PyProof.Rows
set_option Elab.async false
set_option maxRecDepth 100000
set_option maxHeartbeats 4000000
namespace Mine
section
variable {prog : Program} {w : World} {A : Around} {R : Result → Shared → Prop} {h : Heap} {g : Array GenState} {d : Drawn} {t : Nat} {os : OsState}
variable {nm q : Str} {C N : Addr} {bs bm bm₀ : List Value} {hdct : Bool} {sn : List Str} {sub : List Value} {ab : Bool} {col : Option Bool} {dd : Option Addr} {k0 k1 k2 k3 k5 : Option Value} {B newId initId : String}
abbrev rawExc (C t : Addr) : Obj := { cls := .ref C, data := .fields #[.ref t, .none, .none, .none, .bool false, .none] }
abbrev rawTup (vs : List Value) : Obj := { cls := .type "tuple", data := .seq vs.toArray }

theorem check_new2 {M : Model} {E : Value → Shared → Prop} (F : ExcBaseFacts B newId initId bm₀) (hB : bm.contains (.type B) = true) {rest : List Value} {Q : Unit → Shared → Prop} (hC : h.get? C = some (excClassObj nm q C N bs bm hdct sn sub ab col dd k0 k1 k2 k3 k5 newId))
    (hq : Q () ⟨h, g, d, t, os⟩) : wpAny M A (checkBuiltinCall newId ⟨.ref C :: rest, []⟩) Q E ⟨h, g, d, t, os⟩ := by
  have hcont : (Value.ref C :: bm).contains (.type B) = true := by rw [List.contains_cons, hB, Bool.or_true]
  have hstar := F.noStar
  simp only [checkBuiltinCall, F.newKind, F.newSplit, F.newRow]
  repeat (first | refine wpAny_loadPart_at hC ?_ | (refine wpAny_isSubtype_exc hC ?_; rw [hcont]) | refine wpAny_staticBase_exc hC ?_ | refine wpAny_madeBy_exc hC ?_ | simp only [bne_self_eq_false, Bool.false_eq_true, if_false] | wp_step)
  exact hq

theorem exc_new2 (F : ExcBaseFacts B newId initId bm₀) (hB : bm.contains (.type B) = true) (hA : bm.contains (.type "AttributeError") = false) (hN : bm.contains (.type "NameError") = false) {rest : List Value} (hC : h.get? C = some (excClassObj nm q C N bs bm hdct sn sub ab col dd k0 k1 k2 k3 k5 newId))
    (hq : R (.ok (.ret (.ref (h.objs.size + 1)))) ⟨(h.push (rawTup rest)).push (rawExc C h.objs.size), g, d, t, os⟩) (hrest : rest.length ≤ sizeLine) :
    codeAny (model prog w) A (.builtin newId ⟨.ref C :: rest, []⟩) R ⟨h, g, d, t, os⟩ := by
  have hends := F.ends
  have hcB : (Value.ref C :: bm).contains (.type B) = true := by rw [List.contains_cons, hB, Bool.or_true]
  have hcA : (Value.ref C :: bm).contains (.type "AttributeError") = false := by rw [List.contains_cons, hA]; rfl
  have hcN : (Value.ref C :: bm).contains (.type "NameError") = false := by rw [List.contains_cons, hN]; rfl
  refine codeAny_builtinAt F.entry ?_
  unfold _root_.PySem.Builtin.«BaseException.__new__»
  refine PySem.wpAt_bind ?_
  show PySem.wpAt _ _ _ (stack >>= _) _ _ _
  refine PySem.wpAt_bind (PySem.wpAt_stack fun p below => PySem.wpAt_of_wpAny ?_)
  wp_walk
  refine PySem.wpAt_of_wpAny ?_
  rw [F.owner]
  repeat (first | with_reducible refine wpAny_madeHere_exc F.canon hC ?_ | with_reducible refine wpAny_loadPart_at hC ?_ | (with_reducible refine wpAny_isSubtype_exc hC ?_; first | rw [hcB] | rw [hcA] | rw [hcN]) | wp_step)
  show R _ _
  rw [Heap.size_push]
  exact hq

theorem exc_type_call {fI : Addr} {rest : List Value} {E : Value → Shared → Prop} {Q : Fin → Shared → Prop} (F : ExcBaseFacts B newId initId bm₀) (hB : bm.contains (.type B) = true) (hA : bm.contains (.type "AttributeError") = false) (hN : bm.contains (.type "NameError") = false)
    (hC : h.get? C = some (excClassObj nm q C N bs bm hdct sn sub ab col dd k0 k1 k2 k3 k5 newId)) (hi : Looks (model prog w) h (typeLookup (.ref C) "__init__") (some (.ref fI))) (hb : ∀ self, Looks (model prog w) h (bindSpecial (.ref fI) self) (.ref fI, [self]))
    (hq : wpAny (model prog w) A (call (.ref fI) (.ref (h.objs.size + 1) :: rest)) (fun v s' => v = .none ∧ Q (.done (.ret (.ref (h.objs.size + 1)))) s') E ⟨(h.push (rawTup rest)).push (rawExc C h.objs.size), g, d, t, os⟩) (hrest : rest.length ≤ sizeLine) :
    wpAny (model prog w) A (Builtin.«type.__call__» ⟨.ref C :: rest, []⟩) Q E ⟨h, g, d, t, os⟩ := by
  repeat (first | with_reducible refine wpAny_loadPart_at hC ?_ | with_reducible refine wpAny_madeBy_exc hC ?_ | wp_step)
  refine codeAny_call_builtin_code (Code.quiet_builtin _ F.quiet) (check_new2 F hB hC ?_)
  refine exc_new2 F hB hA hN hC ?_ hrest
  show wpAny _ _ _ _ _ _
  have k : ∀ b o, h.get? b = some o → ((h.push (rawTup rest)).push (rawExc C h.objs.size)).get? b = some o := fun b o e => Heap.get?_push_of_some _ (Heap.get?_push_of_some _ e)
  have hC₁ := k _ _ hC
  have hget : ((h.push (rawTup rest)).push (rawExc C h.objs.size)).get? (h.objs.size + 1) = some (rawExc C h.objs.size) := by heap_get
  have hcC : (Value.ref C :: bm).contains (.ref C) = true := by simp
  have i1 := hi.keeps k
  have b1 := (hb (.ref (h.objs.size + 1))).keeps k
  unfold isInstance
  repeat (first | with_reducible refine wpAny_loadPart_at hget ?_ | (with_reducible refine wpAny_isSubtype_exc hC₁ ?_; rw [hcC]) | wp_step)
  show wpAny _ _ (typeLookup (.ref C) _) _ _ _
  refine Looks.at i1 ?_
  dsimp only
  refine wpAny_holding (wpAny_bind (Looks.at b1 ?_))
  dsimp only [List.cons_append, List.nil_append]
  refine wpAny_bind (wpAny_mono hq (fun v s' z => ?_) fun _ _ e => e)
  obtain ⟨rfl, z⟩ := z
  exact wpAny_pure (wpAny_pure z)
theorem exc_call {fI : Addr} {rest : List Value} (F : ExcBaseFacts B newId initId bm₀) (hB : bm.contains (.type B) = true) (hA : bm.contains (.type "AttributeError") = false) (hN : bm.contains (.type "NameError") = false)
    (hC : h.get? C = some (excClassObj nm q C N bs bm hdct sn sub ab col dd k0 k1 k2 k3 k5 newId)) (hi : Looks (model prog w) h (typeLookup (.ref C) "__init__") (some (.ref fI))) (hb : ∀ self, Looks (model prog w) h (bindSpecial (.ref fI) self) (.ref fI, [self]))
    (hq : codeAny (model prog w) (A.under (.builtin "type.__call__" ⟨.ref C :: rest, []⟩)) (.call (.ref fI) ⟨.ref (h.objs.size + 1) :: rest, []⟩) (InitBack (h.objs.size + 1) R) ⟨(h.push (rawTup rest)).push (rawExc C h.objs.size), g, d, t, os⟩) (hrest : rest.length ≤ sizeLine) :
    codeAny (model prog w) A (.call (.ref C) ⟨rest, []⟩) R ⟨h, g, d, t, os⟩ := by
  have f1 := tc_lookup
  have f2 := tc_bind (.ref C)
  have hT : (⟨h, g, d, t, os⟩ : Shared).TypeIs (.ref C) "type" := ⟨_, hC, rfl⟩
  refine codeAny_of_tree ?_
  show wpAny _ _ (callAny (.ref C) _) _ _ _
  repeat (any_goals (first | assumption | with_reducible refine wpAny_loadPart_at hC ?_ | wp_step))
  refine ⟨rfl, ?_⟩
  refine codeAny_call_builtin_at (Code.quiet_builtin _ (by decide +kernel)) entry_typeCall (wpAny_check_type_call_sub hC (exc_type_call F hB hA hN hC hi hb (wpAny_call (codeAny_mono hq fun r s' z => ?_)) hrest))
  rcases r with e | (v | _ | _ | _) <;> first | exact z | exact z.elim | skip
theorem check_init2 (F : ExcBaseFacts B newId initId bm₀) (hB : bm.contains (.type B) = true) {M : Model} {E : Value → Shared → Prop} {e : Addr} {oe : Obj} {rest : List Value} {Q : Unit → Shared → Prop}
    (hC : h.get? C = some (excClassObj nm q C N bs bm hdct sn sub ab col dd k0 k1 k2 k3 k5 newId)) (he : h.get? e = some oe) (hcls : oe.cls = .ref C) (hq : Q () ⟨h, g, d, t, os⟩) :
    wpAny M A (checkBuiltinCall initId ⟨.ref e :: rest, []⟩) Q E ⟨h, g, d, t, os⟩ := by
  have hcB : (Value.ref C :: bm).contains (.type B) = true := by rw [List.contains_cons, hB, Bool.or_true]
  have hshort := F.noStar
  simp only [checkBuiltinCall, F.initKind, F.initSplit, F.initRow]
  repeat (first | (with_reducible refine wpAny_loadPart_at he ?_; rw [hcls]) | with_reducible refine wpAny_loadPart_at hC ?_ | (with_reducible refine wpAny_isSubtype_exc hC ?_; rw [hcB]) | wp_step)
  refine wpAny_onRaise ?_
  rw [show ∀ (a b : String) (n : Nat), Bind.check ⟨.positional, "*", B, .self, [⟨"args", .varPos, false⟩]⟩ a b n (List.map (fun x => x.fst) ({ pos := Value.ref e :: rest } : Args).kw) = pure () from
    fun a b n => check_star_args _ _ _ _ _ _]
  exact wpAny_pure hq
abbrev rawExc1 (C t : Addr) : Obj := { cls := .ref C, data := .fields #[.ref t, .none, .none, .none, .bool false, .none] }
theorem exc_init (F : ExcBaseFacts B newId initId bm₀) (hB : bm.contains (.type B) = true) {E : Value → Shared → Prop} {e t₀ : Addr} {rest : List Value} {Q : Value → Shared → Prop}
    (hC : h.get? C = some (excClassObj nm q C N bs bm hdct sn sub ab col dd k0 k1 k2 k3 k5 newId)) (hget : h.get? e = some (rawExc C t₀))
    (hq : Q .none ⟨(h.push (rawTup rest)).update e (Obj.mapFields (·.setIfInBounds 0 (.ref h.objs.size))), g, d, t, os⟩) (hrest : rest.length ≤ sizeLine) :
    wpAny (model prog w) A (call (.builtin initId) (.ref e :: rest)) Q E ⟨h, g, d, t, os⟩ := by
  refine wpAny_call (codeAny_call_builtin F.init.plain F.initEntry (check_init2 F hB hC hget rfl ?_))
  wp_walk
  exact hq
end
end Mine
end

section
open PySem PySem.W PySem.Spec PySem.Calls PyProof.Rows Builtin Builtin.ObjectAttr Builtin.Getset_descriptor
set_option Elab.async false
set_option maxRecDepth 100000
set_option maxHeartbeats 4000000
namespace Mine
section
variable {prog : Program} {w : World} {A : Around} {E : Value → Shared → Prop} {s : Shared} {h₀ : Heap} {L : Addr} {m : Str → Option Value} {rest : Led}
theorem cls82 (P : Params) : ∃ cd, clsIn (cap.heap_1 P) 82 = some cd ∧ cd.mro = [.ref 82, .ref 69, .type "Exception", .type "BaseException", .type "object"] ∧ cd.hasDict = true := ⟨_, rfl, rfl, rfl⟩
theorem refuse_exc (self : Value) : refuseLoop self "__setattr__" [.ref 82, .ref 69, .type "Exception", .type "BaseException", .type "object"] = pure () := by
  rw [refuseLoop_ref, refuseLoop_ref]
  kernel_rfl
theorem exc_store {x : Addr} {ox : Obj} {od : Option Obj} {name : Str} {v : Value} {Q : Unit → Shared → Prop} (X : (cap.heap_1 w.params).In s.heap) (I : InstAt s.heap x ox 82 od) (hn : findIn (cap.heap_1 w.params) (.ref 82) name = some none)
    (h : wpAny (model prog w) A.in1 (storeInOwnDict (.ref x) (.ref 82) (.str name s.toks) name v false) (fun fin s' => match fin with | .done (.ret _) => Q () s' | _ => False) E { s with toks := s.toks + 1 }) :
    wpAny (model prog w) A (setAttr (.ref x) name v) Q E s := by
  refine set_plain X I (by kernel_rfl) ?_
  have X' : (cap.heap_1 w.params).In ({ s with toks := s.toks + 1 } : Shared).heap := X
  have I' : InstAt ({ s with toks := s.toks + 1 } : Shared).heap x ox 82 od := I
  generalize ({ s with toks := s.toks + 1 } : Shared) = s1 at h X' I' ⊢
  have SF := PySem.F.store_object
  obtain ⟨cd, hc, hmro, _⟩ := cls82 w.params
  have hm : Looks (model prog w) s1.heap (mroOf (.ref 82)) cd.mro := (looks_clsIn X' hc).andThen .now
  rw [hmro] at hm
  have sub : Looks (model prog w) s1.heap (isInstance (.ref x) (.type "object")) true := I'.type.andThen (looks_mroIn X' (by unfold mroIn; rw [hc, Option.bind_some, hmro]; rfl))
  refine codeAny_call_builtin SF.slot.plain SF.entry (@check_slot (model prog w) _ _ s1 "object.__setattr__" "object" "__setattr__" (.ref x) [.str name s.toks, v] [] _ SF.kind SF.split sub (SF.args (.ref x) (.str name s.toks) v) ?_)
  rw [osa_eq, refuse_eq]
  refine wpAny_bind (wpAny_bind (I'.type.here (wpAny_bind (hm.here ?_))))
  rw [refuse_exc]
  refine wpAny_pure (wpAny_bind (I'.type.here (wpAny_bind ((looks_findIn X' hn).here ?_))))
  refine wpAny_bind (wpAny_pure ?_)
  refine wpAny_mono h (fun fin s' z => ?_) fun _ _ z => z
  rcases fin with (f | c)
  · rcases f with (v | _ | _ | _) <;> first | exact z | exact z.elim
  · exact z.elim
theorem exc_store0 {x : Addr} {vs : Array Value} {name : Str} {v : Value} {Q : Unit → Shared → Prop} (F : Fr h₀ L s.heap m) (X : (cap.heap_1 w.params).In h₀) (N : News h₀ L s.heap ((x, { cls := .ref 82, data := .fields vs }) :: rest)) (hr : ∀ p ∈ rest, p.1 ≠ x) (hn : findIn (cap.heap_1 w.params) (.ref 82) name = some none)
    (h : ∀ d h' tk t, Fr h₀ L h' m → News h₀ L h' ((d, dictOf [⟨PyData.keyHash w.params name, .str name t, v⟩] 1) :: (x, { cls := .ref 82, dict := some d, data := .fields vs }) :: rest) → x < d → (∀ p ∈ rest, p.1 < d) → Q () { s with heap := h', toks := tk }) :
    wpAny (model prog w) A (setAttr (.ref x) name v) Q E s := by
  have hx := (N _ (.head _)).1
  have XF := X.keeps F.keep
  refine exc_store (od := none) XF ⟨hx, rfl, rfl, trivial⟩ hn ?_
  obtain ⟨cd, hc, hmro, hdict⟩ := cls82 w.params
  obtain ⟨hp, g, d, t, os⟩ := s
  dsimp only at F N hx XF h ⊢
  have hxs : x < hp.objs.size := Heap.lt_size hx
  refine wpAny_bind (wpAny_pure (wpAny_bind (wpAny_bind (wpAny_loadPart hx (wpAny_bind ((looks_clsIn XF hc).here ?_))))))
  rw [hdict]
  have hx1 := Heap.get?_push_of_some emptyDict hx
  refine wpAny_bind (wpAny_alloc (wpAny_bind (wpAny_update hx1 ?_)))
  dsimp only
  refine wpAny_pure ?_
  dsimp only
  obtain ⟨F2, N2⟩ := news_upd (f := fun o : Obj => { cls := o.cls, dict := some hp.objs.size, data := o.data, slots := o.slots }) (pre := [(hp.objs.size, emptyDict)]) (o' := { cls := .ref 82, dict := some hp.objs.size, data := .fields vs }) (F.push emptyDict) (N.push F emptyDict) (fun p hp' => by rw [List.mem_singleton.mp hp']; exact (Nat.ne_of_lt hxs).symm) hr rfl rfl
  generalize hH : ((hp.push emptyDict).update x fun o => { cls := o.cls, dict := some hp.objs.size, data := o.data, slots := o.slots }) = H at F2 N2 ⊢
  have lt : ∀ p ∈ rest, p.1 < hp.objs.size := fun p hp' => Heap.lt_size (N p (.tail _ hp')).1
  have D := (N2 _ (.head _)).1
  obtain ⟨F3, N3⟩ := news_upd (f := Obj.putName name (PyData.keyHash w.params name) (.str name (t + 1)) v) (pre := []) (o := emptyDict) (o' := dictOf [⟨PyData.keyHash w.params name, .str name (t + 1), v⟩] 1) F2 N2 (fun _ h => nomatch h) (fun p hp' => by
    rcases List.mem_cons.mp hp' with rfl | hp'
    · exact Nat.ne_of_lt hxs
    · exact Nat.ne_of_lt (lt p hp')) (by rw [show emptyDict = dictOf [] 0 from rfl, putName_dict]; rfl) rfl
  have D' := (N3 _ (.head _)).1
  refine wpAny_bind (wpAny_pure (wpAny_bind ?_))
  unfold nsSet
  refine wpAny_bind (wpAny_bind (wpAny_askSetting (wpAny_pure (wpAny_bind (wpAny_mkText (wpAny_bind (wpAny_loadPart D ?_)))))))
  dsimp only
  refine wpAny_updatePart D ?_
  refine wpAny_bind (wpAny_lookBehind D' (by exact pastItsLine_dict (by show 1 ≤ _; rw [sizeLine_eq]; decide)) ?_)
  exact wpAny_pure (h _ _ _ _ F3 N3 hxs lt)
theorem exc_store1 {x d : Addr} {vs : Array Value} {name n1 : Str} {v v1 : Value} {t1 : Tok} {hs : Int} {Q : Unit → Shared → Prop} (F : Fr h₀ L s.heap m) (X : (cap.heap_1 w.params).In h₀) (N : News h₀ L s.heap ((d, dictOf [⟨hs, .str n1 t1, v1⟩] 1) :: (x, { cls := .ref 82, dict := some d, data := .fields vs }) :: rest)) (hxd : x ≠ d) (hr : ∀ p ∈ rest, p.1 ≠ d) (hn : findIn (cap.heap_1 w.params) (.ref 82) name = some none) (hne : (n1 == name) = false)
    (h : ∀ o h' tk, Fr h₀ L h' m → News h₀ L h' ((d, o) :: (x, { cls := .ref 82, dict := some d, data := .fields vs }) :: rest) → Q () { s with heap := h', toks := tk }) :
    wpAny (model prog w) A (setAttr (.ref x) name v) Q E s := by
  have hx := (N _ (.tail _ (.head _))).1
  have D := (N _ (.head _)).1
  have XF := X.keeps F.keep
  refine exc_store (od := some (dictOf [⟨hs, .str n1 t1, v1⟩] 1)) XF ⟨hx, rfl, rfl, D⟩ hn ?_
  obtain ⟨cd, hc, hmro, hdict⟩ := cls82 w.params
  obtain ⟨hp, g, dw, t, os⟩ := s
  dsimp only at F N hx XF h D ⊢
  refine wpAny_bind (wpAny_pure (wpAny_bind (wpAny_bind (wpAny_loadPart hx (wpAny_bind ((looks_clsIn XF hc).here ?_))))))
  rw [hdict]
  refine wpAny_pure (a := some d) ?_
  dsimp only
  obtain ⟨F3, N3⟩ := news_upd (f := Obj.putName name (PyData.keyHash w.params name) (.str name (t + 1)) v) (pre := []) (o' := dictOf [⟨hs, .str n1 t1, v1⟩, ⟨PyData.keyHash w.params name, .str name (t + 1), v⟩] 2) F N (fun _ h => nomatch h) (fun p hp' => by
    rcases List.mem_cons.mp hp' with rfl | hp'
    · exact hxd
    · exact hr p hp') (by
      rw [putName_dict]
      have : putL name (PyData.keyHash w.params name) (.str name (t + 1)) v [⟨hs, .str n1 t1, v1⟩] = [⟨hs, .str n1 t1, v1⟩, ⟨PyData.keyHash w.params name, .str name (t + 1), v⟩] := by
        simp [putL, Value.isStr, hne]
      rw [this]
      simp [putN, Value.isStr, hne]) rfl
  have D' := (N3 _ (.head _)).1
  refine wpAny_bind (wpAny_pure (wpAny_bind ?_))
  unfold nsSet
  refine wpAny_bind (wpAny_bind (wpAny_askSetting (wpAny_pure (wpAny_bind (wpAny_mkText (wpAny_bind (wpAny_loadPart D ?_)))))))
  dsimp only
  have c : aRefKeyMayBeTheName name #[⟨hs, .str n1 t1, v1⟩] = false := by
    rw [aRefKeyMayBeTheName_at]; simp; intro _; rfl
  rw [c]
  refine wpAny_updatePart D ?_
  refine wpAny_bind (wpAny_lookBehind D' (by exact pastItsLine_dict (by show 2 ≤ _; rw [sizeLine_eq]; decide)) ?_)
  exact wpAny_pure (h _ _ _ F3 N3)
end
end Mine
end

section
open PySem PySem.W PySem.Spec PySem.Calls PyProof.Rows
set_option Elab.async false
set_option maxRecDepth 100000
set_option maxHeartbeats 8000000
namespace Mine
section
local macro_rules | `(tactic| k_steps) => `(tactic| repeat' ((fail_if_success (with_reducible show wpAny _ _ (setAttr _ _ _) _ _ _)); (fail_if_success (with_reducible show wpAny _ _ (call (Value.builtin "Exception.__init__") _) _ _ _)); first | (k_unfold; (try dsimp only)) | (k_end; wrow_close) | walk1 | (dsimp only; walk1) | (dsimp only [List.cons_append, List.nil_append]; walk1) | (leave1; walk_say "STEP leave1"; try dsimp only) | fail "no step"))
local macro_rules | `(tactic| k_all) => `(tactic| assumption)
local macro_rules | `(tactic| size_fits) => `(tactic| ((try simp only [List.size_toArray, List.length_append, List.length_cons, List.length_nil, List.push_toArray]); (have hsz9 := sizeLine_eq); omega))
local macro_rules | `(tactic| ktr_enter) => `(tactic| (k_dflt (refine' code_def ?k1 ?k2 ?k3 ?k4 ?k5 ?kA ?kF ?kK ?k6 ?k7 ?k8 ?k9 ?kB ?_ ?c2 ?c3 ?c4 ?c5; (case kA => assumption); (case kF => assumption); (case kK => assumption); (case k1 => k_asm); (case k2 => k_asm); (case k3 => k_asm); (case k4 => k_asm); (case k5 => k_asm); (case k6 => k_is); (case k7 => k_is); (case k8 => (simp only [recursionLimit]; omega)); (case k9 => exact BindsTo.of_eq rfl); (case c5 => decide); (case kB => exact locs rfl); (case c2 => exact rfl); (case c3 => exact rfl); (case c4 => exact rfl); k_whole; intro g' L' h' FG' F' N' B' X' T'; (try dsimp only); (try k_fold))))
local macro_rules | `(tactic| k_room) => `(tactic| (simp only [depth_mark, depth_under_make, depth_under_kw, depth_in1, depth_deeper, depth_caller, recursionLimit]; omega))
local macro_rules | `(tactic| k_enter) => `(tactic| first
  | (refine' code_def ?k1 ?k2 ?k3 ?k4 ?k5 ?kA ?kF ?kK ?k6 ?k7 ?k8 ?k9 ?kB ?_ ?c2 ?c3 ?c4 ?c5; (case kA => first | assumption | exact Around.frames_deeper (by assumption) | exact Around.frames_deeper (Around.frames_deeper (by assumption)) | exact Around.frames_deeper (Around.frames_deeper (Around.frames_deeper (by assumption))) | exact Around.frames_deeper (Around.frames_deeper (Around.frames_deeper (Around.frames_deeper (by assumption))))); (case kF => first | assumption | exact rfl); (case kK => first | assumption | exact rfl); (case k1 => k_asm); (case k2 => k_asm); (case k3 => k_asm); (case k4 => k_asm); (case k5 => k_asm); (case k6 => k_is); (case k7 => k_is); (case k8 => k_room); (case k9 => first | exact BindsTo.of_eq rfl | exact binds_K (by k_in) rfl (by k_is) rfl rfl rfl | fail "k_enter: no rule for these arguments"); (case c5 => decide); (case kB => exact locs rfl); (case c2 => exact rfl); (case c3 => exact rfl); (case c4 => exact rfl); k_whole; intro g' L' h' FG' F' N' B' X' T'; (try dsimp only); (try k_lift B'); (try k_fold)))

def ExcCon (w : World) (p : Program) (loose : List Str) (mean : ExcName → Option Value) (mg mb : Str → Option Value) : Prop :=
  ∀ (A : Around) (env : Env) (outer : List Env) (A₀ : Around) (base h₀ : Heap) (L : Addr) (m : Str → Option Value) (rest : Led) (s : Shared) (x : Str) (u : Tok) (b : Addr)
    (Q E : Value → Shared → Prop),
    A.frames = some (env :: outer) → env.frame = some L → env.scope.kind = .function → A.handled = none → A.depth < 900 →
    Below A₀ base outer h₀ → Fr h₀ L s.heap m → (Mine.cap.heap_1 w.params).In h₀ → News h₀ L s.heap rest → Top p loose mean mg mb h₀ →
    (∀ e oe vs a0 h' tk', Fr h₀ L h' m → News h₀ L h' ((e, oe) :: rest) → oe.cls = .ref 82 → oe.data = .fields vs → vs[0]? = some a0 → vs[1]? = some .none → (∀ p ∈ rest, p.1 < e) → Q (.ref e) { s with heap := h', toks := tk' }) →
    wpAny (model PySem.Challenge.rw_pb0251_01.row.prog w) A (call (.ref 82) [.str x u, .ref b]) Q E s
theorem exc_con (w : World) (p : Program) (loose : List Str) (mean : ExcName → Option Value) (mg mb : Str → Option Value) : ExcCon w p loose mean mg mb := by
  unfold ExcCon
  k_fill
  w_on
  intro A env outer A₀ base h₀ L m rest s x u b Q E hA hf hke hh hd B F X N T hret
  obtain ⟨h, g, d, t, os⟩ := s
  have XF := X.keeps F.keep
  refine wpAny_call (exc_call (fI := 59) (bm := [.ref 69, .type "Exception", .type "BaseException", .type "object"]) PySem.F.excBase_Exception (by decide) (by decide) (by decide) (XF 82 _ rfl) (looks_findIn XF (by k_is)) (fun self => bind_fn XF self (by k_is)) ?_ (by simp [sizeLine_eq]))
  have N1 := News.push (F.push (rawTup [.str x u, .ref b])) (news_tail (N.push F (rawTup [.str x u, .ref b]))) (rawExc 82 h.objs.size)
  have F1 := (F.push (rawTup [.str x u, .ref b])).push (rawExc 82 h.objs.size)
  rw [Heap.size_push] at N1
  dsimp only at N1 F1 ⊢
  have hlt : ∀ p ∈ rest, p.1 < h.objs.size + 1 := fun p hp => Nat.lt_succ_of_lt (Heap.lt_size (N p hp).1)
  generalize (h.push (rawTup [.str x u, .ref b])).push (rawExc 82 h.objs.size) = h1 at N1 F1 ⊢
  generalize h.objs.size + 1 = e at N1 hlt ⊢
  generalize h.objs.size = t0 at N1 ⊢
  clear N F XF
  refine' code_def ?k1 ?k2 ?k3 ?k4 ?k5 ?kA ?kF ?kK ?k6 ?k7 ?k8 ?k9 ?kB ?_ ?c2 ?c3 ?c4 ?c5
  case kA => exact hA
  case kF => first | assumption | exact rfl
  case kK => first | assumption | exact rfl
  case k1 => k_asm
  case k2 => exact F1
  case k3 => k_asm
  case k4 => exact N1
  case k5 => k_asm
  case k6 => k_is
  case k7 => k_is
  case k8 => k_room
  case k9 => exact binds_K (X.keeps F1.keep) rfl (by k_is) rfl rfl rfl
  case c5 => decide
  case kB => exact locs rfl
  case c2 => exact rfl
  case c3 => exact rfl
  case c4 => exact rfl
  intro g' L' h' FG' F' N' B' X' T'
  (try dsimp only)
  w_strict k_steps
  rename Fr _ _ _ _ => F9
  rename Frag.In _ _ => X9
  refine method_type (v := .builtin "Exception.__init__") F9 X9 (by kernel_rfl) (by decide +kernel) (by kernel_rfl) (by decide +kernel) ?_
  dsimp only
  w_strict k_steps
  clear F1 N1
  rename Fr _ _ _ _ => F8
  rename News _ _ _ _ => N8
  rename Frag.In _ _ => X8
  have XF8 := X8.keeps F8.keep
  refine exc_init (t₀ := t0) (bm := [.ref 69, .type "Exception", .type "BaseException", .type "object"]) PySem.F.excBase_Exception (by decide) (XF8 82 _ rfl) (N8 _ (.head _)).1 ?_ (by simp [sizeLine_eq])
  have F7 := F8.push (rawTup [.str x u])
  obtain ⟨F6, N6⟩ := news_upd (f := Obj.mapFields (·.setIfInBounds 0 (.ref h'.objs.size))) (pre := []) (o' := { cls := .ref 82, data := .fields #[.ref h'.objs.size, .none, .none, .none, .bool false, .none] }) F7 (news_tail (N8.push F8 (rawTup [.str x u]))) (fun _ h => nomatch h) (fun p hp => Nat.ne_of_lt (hlt p hp)) rfl rfl
  generalize (h'.push (rawTup [.str x u])).update e (Obj.mapFields (·.setIfInBounds 0 (.ref h'.objs.size))) = h2 at F6 N6 ⊢
  generalize h'.objs.size = t1 at N6 ⊢
  clear F7 XF8 N8 F8
  dsimp only [List.nil_append] at N6
  w_strict k_steps
  refine exc_store0 F6 X8 N6 (fun p hp => Nat.ne_of_lt (hlt p hp)) (by kernel_rfl) ?_
  intro d1 h3 tk3 t3 F3 N3 hd1 hld1
  clear F6 N6
  dsimp only
  w_strict k_steps
  refine exc_store1 F3 X8 N3 (Nat.ne_of_lt hd1) (fun p hp => Nat.ne_of_lt (hld1 p hp)) (by kernel_rfl) (by decide) ?_
  intro o4 h4 tk4 F4 N4
  clear F3 N3
  dsimp only
  w_strict k_steps
  rename_i kF kN _ _
  exact hret e _ _ _ _ _ kF (news_tail kN) rfl rfl rfl rfl hlt
end
end Mine
end

section
open PySem PySem.W PySem.Spec PySem.Calls PyProof.Rows
set_option Elab.async false
set_option maxRecDepth 100000
set_option maxHeartbeats 8000000
namespace Mine
section
local macro_rules | `(tactic| k_steps) => `(tactic| repeat' ((fail_if_success (with_reducible show wpAny _ _ (call (Value.ref 82) _) _ _ _)); (fail_if_success (with_reducible show wpAny _ _ (subscriptTail _ _ _ _) _ _ _)); (fail_if_success (with_reducible show wpAny _ _ (call (Value.builtin "len") _) _ _ _)); (fail_if_success (with_reducible show wpAny _ _ (call (Value.builtin "min") _) _ _ _)); (fail_if_success (with_reducible show wpAny _ _ (truthy _) _ _ _)); first | (k_unfold; (try dsimp only)) | (k_end; wrow_close) | walk1 | (dsimp only; walk1) | (dsimp only [List.cons_append, List.nil_append]; walk1) | (leave1; walk_say "STEP leave1"; try dsimp only) | fail "no step"))
local macro_rules | `(tactic| k_all) => `(tactic| assumption)
local macro_rules | `(tactic| size_fits) => `(tactic| ((try simp only [List.size_toArray, List.length_append, List.length_cons, List.length_nil, List.push_toArray]); (have hsz9 := sizeLine_eq); omega))
local macro_rules | `(tactic| ktr_enter) => `(tactic| (k_dflt (refine' code_def ?k1 ?k2 ?k3 ?k4 ?k5 ?kA ?kF ?kK ?k6 ?k7 ?k8 ?k9 ?kB ?_ ?c2 ?c3 ?c4 ?c5; (case kA => assumption); (case kF => assumption); (case kK => assumption); (case k1 => k_asm); (case k2 => k_asm); (case k3 => k_asm); (case k4 => k_asm); (case k5 => k_asm); (case k6 => k_is); (case k7 => k_is); (case k8 => (simp only [recursionLimit]; omega)); (case k9 => exact BindsTo.of_eq rfl); (case c5 => decide); (case kB => exact locs rfl); (case c2 => exact rfl); (case c3 => exact rfl); (case c4 => exact rfl); k_whole; intro g' L' h' FG' F' N' B' X' T'; (try dsimp only); (try k_fold))))
local macro_rules | `(tactic| k_room) => `(tactic| (simp only [depth_mark, depth_under_make, depth_under_kw, depth_in1, depth_deeper, depth_caller, recursionLimit]; omega))
local macro_rules | `(tactic| k_enter) => `(tactic| first
  | (refine' code_def ?k1 ?k2 ?k3 ?k4 ?k5 ?kA ?kF ?kK ?k6 ?k7 ?k8 ?k9 ?kB ?_ ?c2 ?c3 ?c4 ?c5; (case kA => first | assumption | exact Around.frames_deeper (by assumption) | exact Around.frames_deeper (Around.frames_deeper (by assumption)) | exact Around.frames_deeper (Around.frames_deeper (Around.frames_deeper (by assumption))) | exact Around.frames_deeper (Around.frames_deeper (Around.frames_deeper (Around.frames_deeper (by assumption))))); (case kF => first | assumption | exact rfl); (case kK => first | assumption | exact rfl); (case k1 => k_asm); (case k2 => k_asm); (case k3 => k_asm); (case k4 => k_asm); (case k5 => k_asm); (case k6 => k_is); (case k7 => k_is); (case k8 => k_room); (case k9 => first | exact BindsTo.of_eq rfl | exact binds_K (by k_in) rfl (by k_is) rfl rfl rfl | fail "k_enter: no rule for these arguments"); (case c5 => decide); (case kB => exact locs rfl); (case c2 => exact rfl); (case c3 => exact rfl); (case c4 => exact rfl); k_whole; intro g' L' h' FG' F' N' B' X' T'; (try dsimp only); (try k_lift B'); (try k_fold)))

def FaultCon (w : World) (p : Program) (loose : List Str) (mean : ExcName → Option Value) (mg mb : Str → Option Value) : Prop :=
  ∀ (A : Around) (env : Env) (outer : List Env) (A₀ : Around) (base h₀ : Heap) (L : Addr) (m : Str → Option Value) (rest : Led) (s : Shared) (r dr tl nd a d : Addr) (toks : List Value) (nt : Nat) (k₁ k₂ k₃ it : Tok) (i : Nat) (c₁ c₂ c₃ c₄ u t u0 : Tok) (x y : Str)
    (Q E : Value → Shared → Prop),
    A.frames = some (env :: outer) → env.frame = some L → env.scope.kind = .function → A.depth < 870 → A.handled = none →
    Below A₀ base outer h₀ → Fr h₀ L s.heap m → (Mine.cap.heap_1 w.params).In h₀ → Top p loose mean mg mb h₀ →
    News h₀ L s.heap ((dr, rdD w.params k₁ k₂ k₃ tl i it nd) :: (r, instObj 253 dr) :: (tl, W.listOf toks.toArray nt) :: (a, instObj 283 d) :: (d, tokD w.params c₁ c₂ c₃ c₄ x u t) :: rest) → 
    toks.length < 3000 → toks[i]? = some (.ref a) → 
    (∀ e oe vs a0 h' tk', Fr h₀ L h' m → News h₀ L h' ((e, oe) :: (dr, rdD w.params k₁ k₂ k₃ tl i it nd) :: (r, instObj 253 dr) :: (tl, W.listOf toks.toArray nt) :: (a, instObj 283 d) :: (d, tokD w.params c₁ c₂ c₃ c₄ x u t) :: rest) → oe.cls = .ref 82 → oe.data = .fields vs → vs[0]? = some a0 → vs[1]? = some .none → (∀ q ∈ rest, @Ne Nat q.1 e) → Q (.ref e) { s with heap := h', toks := tk' }) →
    wpAny (model PySem.Challenge.rw_pb0251_01.row.prog w) A (call (.ref 121) [.ref r, .str y u0]) Q E s
theorem fault_con (w : World) (p : Program) (loose : List Str) (mean : ExcName → Option Value) (mg mb : Str → Option Value) : FaultCon w p loose mean mg mb := by
  unfold FaultCon
  have EC := exc_con w p loose mean mg mb
  k_fill
  w_on
  intro A env outer A₀ base h₀ L m rest s r dr tl nd a d toks nt k₁ k₂ k₃ it i c₁ c₂ c₃ c₄ u t u0 x y Q E hA hf hke hd hh B F X T N hlen htok hret
  have hi : i < toks.length := (List.getElem?_eq_some_iff.mp htok).1
  refine wpAny_call ?_
  w_strict k_enter
  w_strict k_steps
  have hemp : toks.toArray.isEmpty = false := by
    cases toks with
    | nil => simp at hi
    | cons _ _ => rfl
  rename Fr _ _ _ _ => F9
  rename News _ _ _ _ => N9
  refine wpAny_truthy_list ⟨_, (N9 _ (.tail _ (.tail _ (.head _)))).1, rfl, _, rfl⟩ (by simp; omega) ?_
  rw [hemp]
  dsimp only [Bool.not_false, Bool.not_true]
  w_strict k_steps
  refine len_list ⟨_, (N9 _ (.tail _ (.tail _ (.head _)))).1, rfl, _, rfl⟩ (by simp; omega) ?_
  (try dsimp only)
  w_strict k_steps
  refine min_two_N hh F9 N9 ?_
  intro h8 tk8 F8 N8
  clear F9 N9
  rw [if_neg (show ¬ ((toks.toArray.size : Int) - 1 < (i : Int)) by simp; omega), if_neg (show ¬ ((toks.toArray.size : Int) - 1 < (i : Int)) by simp; omega)]
  (try dsimp only)
  w_strict k_steps
  refine item_at (items := toks.toArray) (v := .ref a) ⟨_, (N8 _ (.tail _ (.tail _ (.head _)))).1, rfl, _, rfl⟩ (by omega) (by omega) (by simpa using htok) ?_
  (try dsimp only)
  w_strict k_steps
  rename Below _ _ _ _ => B7
  rename Frag.In _ _ => X7
  rename Top _ _ _ _ _ _ => T7
  refine EC _ _ _ _ _ _ _ _ _ _ _ _ _ _ _ (Around.frames_deeper hA) rfl rfl hh (by show A.depth + 1 < 900; omega) B7 F8 X7 N8 T7 ?_
  intro e oe vs a0 h6 tk6 F6 N6 e1 e2 e3 e4 hl6
  clear F8 N8
  (try dsimp only)
  w_strict k_steps
  rename_i kF kN _ _
  exact hret e oe vs a0 _ _ kF kN e1 e2 e3 e4 (fun q hq => Nat.ne_of_lt (hl6 q (.tail _ (.tail _ (.tail _ (.tail _ (.tail _ hq)))))))
end
end Mine
end

section
open PySem PySem.W PySem.Spec PySem.Calls PyProof.Rows
set_option Elab.async false
set_option maxRecDepth 100000
namespace Mine
section
variable {M : Model} {A : Around} {E : Value → Shared → Prop} {s' : Shared} {base g g₂ : Heap} {outer : List Env} {env : Env} {L e : Addr} {m : Str → Option Value} {Q : Unit → Shared → Prop} {news news' : Led} {cls : Value}
theorem mem_frames {b : Addr} (hf : env.frame = some L) (hm : b ∈ (env :: outer).filterMap (·.frame)) : b = L ∨ b ∈ outer.filterMap (·.frame) := by
  rw [List.filterMap_cons, hf] at hm
  exact List.mem_cons.mp hm
theorem raised_sub {G : Heap} {l : List Env} {h : Heap} (R : RaisedSN base G l e cls news h) (hs : ∀ q ∈ news', q ∈ news) : RaisedSN base G l e cls news' h := by
  obtain ⟨B, a0, h1, h2, h3, h4⟩ := R
  exact ⟨B, a0, h1, h2, fun q hq => h3 q (hs q hq), h4⟩
theorem leave_on (K : Below A base outer g) (hf : env.frame = some L) (F : Fr g L g₂ m) (R : RaisedSN base g₂ (env :: outer) e cls news s'.heap) (hsm : g₂.UpToSlots s'.heap)
    (hQ : ∀ h', RaisedSN base g outer e cls news h' → g.UpToSlots h' → Q () { s' with heap := h' }) :
    wpAny M (A.deeper env) (leaving env (.ref e)) Q E s' := by
  obtain ⟨B, a0, hB, hBG, hl, hfl⟩ := R
  refine wpAny_leaves_onW (Around.frames_deeper K.stack) hf hfl fun h' x1 x2 => ?_
  refine hQ h' ⟨B, a0, hB, fun b o q nm => hBG b o (F.keep b o q) (fun hm => ?_), fun q hq => ⟨(hl q hq).1, kts_none F.keep (hl q hq).2.1, (hl q hq).2.2⟩, x1⟩ ((Heap.UpToSlots.of_keeps F.keep).trans (hsm.trans x2))
  rcases mem_frames hf hm with z | z
  · rw [z, kts_self F] at q
    cases q
  · exact nm z
theorem leave_first {oe : Obj} {vs : Array Value} {a0 : Value} (K : Below A base outer g) (hf : env.frame = some L) (hk : env.scope.kind = .function) (F : Fr g L s'.heap m) (N : News g L s'.heap ((e, oe) :: news)) (hne : ∀ q ∈ news, q.1 ≠ e)
    (hcls : oe.cls = cls) (hd : oe.data = .fields vs) (h0 : vs[0]? = some a0) (h1 : vs[1]? = some .none)
    (hQ : ∀ h', RaisedSN base g outer e cls news h' → g.UpToSlots h' → Q () { s' with heap := h' }) :
    wpAny M (A.deeper env) (leaving env (.ref e)) Q E s' := by
  have he := N (e, oe) (.head _)
  have hnewL : base.get? L = none := by
    cases hq : base.get? L with
    | none => rfl
    | some o => exact absurd (Nat.lt_of_lt_of_le (Heap.lt_size (K.stays L o hq)) F.above) (Nat.lt_irrefl _)
  have KF : s'.heap.FunFrames base (env :: outer) := by
    refine Heap.FunFrames.cons (by rw [hk]; decide) hf F.ns hnewL (K.frames.of_keeps fun b o q _ => ⟨o, F.keep b o q, rfl⟩)
  obtain ⟨as, has⟩ : ∃ as : List Addr, as = e :: (env :: outer).filterMap (·.frame) := ⟨_, rfl⟩
  have hin : ∀ env' ∈ (env :: outer), ∀ b, env'.frame = some b → b ∈ as := fun env' h' b hb => by rw [has]; exact .tail _ (List.mem_filterMap.mpr ⟨env', h', hb⟩)
  have st : base.StaysIn (hideAll s'.heap as) := fun b o q => hideAll_get _ (F.keep _ _ (K.stays b o q)) fun hm => by
    rw [has] at hm
    rcases List.mem_cons.mp hm with z | z
    · rw [z] at q
      have := K.stays _ _ q
      rw [he.2.2] at this; cases this
    · rw [(KF.mem z).1] at q; cases q
  have sg : ∀ b o, g.get? b = some o → b ∉ outer.filterMap (·.frame) → (hideAll s'.heap as).get? b = some o := fun b o q nm => hideAll_get _ (F.keep b o q) fun hm => by
    rw [has] at hm
    rcases List.mem_cons.mp hm with z | z
    · rw [z, he.2.2] at q; cases q
    · rcases mem_frames hf z with z | z
      · rw [z, kts_self F] at q
        cases q
      · exact nm z
  have hl : ∀ q ∈ news, (hideAll s'.heap as).get? q.1 = some q.2 ∧ g.get? q.1 = none ∧ base.get? q.1 = none := fun q hq => by
    have Nq := N q (.tail _ hq)
    refine ⟨hideAll_get _ Nq.1 fun hm => ?_, Nq.2.2, fresh_of_stays K.stays Nq.2.2⟩
    rw [has] at hm
    rcases List.mem_cons.mp hm with z | z
    · exact hne q hq z
    · rcases mem_frames hf z with z | z
      · exact Nq.2.1 z
      · obtain ⟨o, ho, _⟩ := (K.frames.mem z).2
        rw [Nq.2.2] at ho; cases ho
  have hen : (hideAll s'.heap as).get? e = none := hideAll_none _ (by rw [has]; exact .head _)
  refine wpAny_leaving_firstW (a0 := a0) (Around.frames_deeper K.stack) (funFrames_hide KF hin) hf he.1 (fun b o hb => of_hideAll _ hb) hen hd h1 h0 fun h' hL => ?_
  obtain ⟨k1, ⟨_, _, k2⟩, k3, k4⟩ := hL
  exact hQ h' ⟨_, a0, st, sg, hl, k1, hen, k2, by rw [← hcls]; exact k3⟩ ((Heap.UpToSlots.of_keeps F.keep).trans k4)
end
end Mine
end

section
open PySem PySem.W PySem.Spec PySem.Calls PyProof.Rows
set_option Elab.async false
set_option maxRecDepth 100000
set_option maxHeartbeats 4000000
namespace Mine
section
variable {M : Model} {A : Around} {E : Value → Shared → Prop} {env : Env} {s : Shared}
variable {C : Addr}
theorem raise_stmt {x : Sem Value} {Q : Flow → Shared → Prop} (hh : A.handled = none)
    (h : wpAny M A x (fun v s₁ => ∃ e oe vs, v = .ref e ∧ (∃ nm q N bs bm hdct sn sub ab col dd k0 k1 k2 k3 k5 newId, s₁.heap.get? C = some (excClassObj nm q C N bs bm hdct sn sub ab col dd k0 k1 k2 k3 k5 newId) ∧ bm.contains (.type "BaseException") = true) ∧
      s₁.heap.get? e = some oe ∧ oe.cls = .ref C ∧ oe.data = .fields vs ∧ vs[1]? = some .none ∧ E (.ref e) s₁) E s) :
    wpAny M A (raiseStmt env (some x) none) Q E s := by
  unfold raiseStmt
  refine wpAny_bind (wpAny_mono h (fun v s₁ h₁ => ?_) fun _ _ x => x)
  obtain ⟨e, oe, vs, rfl, ⟨nm, q, N, bs, bm, hdct, sn, sub, ab, col, dd, k0, k1, k2, k3, k5, newId, hC, hbase⟩, he, hcls, hd, hv, hE⟩ := h₁
  obtain ⟨hp, g, d, tk, os⟩ := s₁
  have hcB : (Value.ref C :: bm).contains (.type "BaseException") = true := by rw [List.contains_cons, hbase, Bool.or_true]
  obtain ⟨ocls, odict, odata, oslots⟩ := oe
  dsimp only at hcls hd
  subst hcls hd
  repeat (first | with_reducible refine wpAny_loadPart_at he ?_ | with_reducible refine wpAny_loadPart_at hC ?_ | (with_reducible refine wpAny_isSubtype_exc hC ?_; rw [hcB]) | (with_reducible refine wpAny_field he rfl hv ?_) | wp_step)
  exact wpAny_raiseNew_none hh hE
theorem raise_exec {P : Params} {x : Expr} {pos : Pos} {Q : Flow → Shared → Prop} (hh : A.handled = none)
    (h : wpAny M A (eval x env) (fun v s₁ => ∃ e oe vs, v = .ref e ∧ (cap.heap_1 P).In s₁.heap ∧ s₁.heap.get? e = some oe ∧ oe.cls = .ref 82 ∧ oe.data = .fields vs ∧ vs[1]? = some .none ∧ E (.ref e) s₁) E s) :
    wpAny M A (exec (.Raise (some x) none pos) env) Q E s := by
  rw [arm_exec_Raise]
  simp only [evalOpt, Option.map]
  refine wpAny_bind (wpAny_standAt (raise_stmt (C := 82) hh ?_))
  refine wpAny_bind (wpAny_mono h (fun v s₁ h₁ => wpAny_bind (wpAny_standAt (wpAny_pure ?_))) fun _ _ e => e)
  obtain ⟨e, oe, vs, rfl, X, he, hcls, hd, hv, hE⟩ := h₁
  exact ⟨e, oe, vs, rfl, ⟨_, _, _, _, [.ref 69, .type "Exception", .type "BaseException", .type "object"], _, _, _, _, _, _, _, _, _, _, _, _, X 82 _ rfl, by decide⟩, he, hcls, hd, hv, hE⟩
end
end Mine
end

section
open PySem PySem.W PySem.Spec PySem.Calls PyProof.Rows
set_option Elab.async false
set_option maxRecDepth 100000
set_option maxHeartbeats 8000000
namespace Mine


open LCg
abbrev lamQ (x : Str) : Str := x ++ ".<locals>." ++ "<lambda>"
def TabAt (P : Addr) (l c : Nat) (q : Str) (tab : Led) : Prop := tab = [(P, tabObj #[])] ∨ ∃ c' oc vs tq, tab = [(P, tabObj (#[] ++ #[rawInt l, rawInt c, .ref c'])), (c', oc)] ∧ oc.data = .fields vs ∧ vs[1]? = some (.str q tq)
abbrev Tab38 : Led → Prop := TabAt 38 19 47 (lamQ (Str.ofString "statement_at"))
section
variable {M : Model} {A : Around} {E : Value → Shared → Prop} {s : Shared} {h₀ : Heap} {L a c P : Addr} {m mg mb : Str → Option Value} {cn : Str} {cs : Scope} {cl : List (Str × Addr)} {pre tab rest : Led}
  {p : Program} {loose : List Str} {mean : ExcName → Option Value} {params : Arguments} {body : Expr} {scope : Scope} {pos : Pos} {clos : List (Str × Addr)}
theorem updF_mid {o : Obj} : ∀ {pre : Led}, (∀ p ∈ pre, p.1 ≠ P) → (∀ p ∈ rest, p.1 ≠ P) → UpdF P o (pre ++ (P, o) :: rest) (fun o' => pre ++ (P, o') :: rest)
  | [], _, h => .head h
  | q :: pre, h', h => UpdF.tail (h' q (.head _)) (updF_mid (pre := pre) (fun p hp => h' p (.tail _ hp)) h)
theorem lam_tab {Q : Value → Shared → Prop} (F : Fr h₀ L s.heap m) (N : News h₀ L s.heap (pre ++ (tab ++ rest))) (T : Top p loose mean mg mb h₀) (C : CodeHd h₀ c P) (hT : TabAt P pos.line pos.col (lamQ cn) tab)
    (hpre : ∀ p ∈ pre, p.1 ≠ P) (hrest : ∀ p ∈ rest, p.1 ≠ P) (hdef : defaultsOf params (envX cn cs L a (.ref c) cl) = ([], [])) (hcl : closureFor scope (envX cn cs L a (.ref c) cl) = pure clos)
    (h : ∀ f c' oc vs tq ctv h' tk tab', Fr h₀ L h' m → News h₀ L h' ((f, kla_obj "<lambda>" (lamQ cn) params body scope clos ((mg "__name__").getD .none) c' ctv) :: (pre ++ (tab' ++ rest))) →
      TabAt P pos.line pos.col (lamQ cn) tab' → (c', oc) ∈ tab' → oc.data = .fields vs → vs[1]? = some (.str (lamQ cn) tq) → (∀ d : Addr, (∃ o, (d, o) ∈ pre ++ (tab ++ rest)) → (∀ q ∈ tab, q.1 ≠ d) → ∀ q ∈ tab', q.1 ≠ d) →
      (∀ q ∈ pre ++ (tab ++ rest), q.1 < f) → Q (.ref f) { s with heap := h', toks := tk }) :
    wpAny M A (eval (.Lambda params body scope pos) (envX cn cs L a (.ref c) cl)) Q E s := by
  refine kla_eval hdef ?_
  rcases hT with rfl | ⟨c', oc, vs, tq, rfl, hd, hv⟩
  · have U : UpdF P (tabObj #[]) (pre ++ ([(P, tabObj #[])] ++ rest)) (fun o' => pre ++ (P, o') :: rest) := updF_mid hpre hrest
    refine kla_nest F N T C rfl U True.intro rfl hcl fun f c' oc vs t ctv h' tk F' N' d1 d2 l1 l2 => ?_
    refine h f c' oc vs t ctv h' tk [(P, tabObj (#[] ++ #[rawInt pos.line, rawInt pos.col, .ref c'])), (c', oc)] F' (news_perm N' fun q hq => ?_) (.inr ⟨c', oc, vs, t, rfl, d1, d2⟩) (.tail _ (.head _)) d1 d2 (fun d hd hn q hq => ?_) fun q hq => Nat.lt_trans (l1 q hq) l2
    · simp only [List.mem_cons, List.mem_append, List.not_mem_nil, or_false] at hq ⊢
      rcases hq with h | h | (h | h) | h
      · exact .inl h
      · exact .inr (.inr (.inl h))
      · exact .inr (.inr (.inr (.inl h)))
      · exact .inr (.inl h)
      · exact .inr (.inr (.inr (.inr h)))
    · obtain ⟨o, ho⟩ := hd
      rcases List.mem_cons.mp hq with rfl | hq
      · exact hn (P, tabObj #[]) (.head _)
      · rcases List.mem_cons.mp hq with rfl | hq
        · exact (Nat.ne_of_lt (l1 _ ho)).symm
        · cases hq
  · refine kla_hit (c' := c') F N T C rfl (ps := #[] ++ #[rawInt pos.line, rawInt pos.col, .ref c']) (by simp) (by simp [TriplesOk, rawInt]) (by simp [codeAmong, rawInt]) hcl fun f ctv h' tk F' N' l1 => ?_
    exact h f c' oc vs tq ctv h' tk _ F' N' (.inr ⟨c', oc, vs, tq, rfl, hd, hv⟩) (.tail _ (.head _)) hd hv (fun d _ hn q hq => hn q hq) l1
end
structure Sig (P : Params) (rest : Led) (r dr tl : Addr) (toks : List Value) (nt : Nat) (ws : List Str) : Prop where
  rd : (r, instObj 253 dr) ∈ rest
  tl : (tl, W.listOf toks.toArray nt) ∈ rest
  tk : TokensIn P rest toks ws
  len : toks.length < 3000
  ne : ∀ p ∈ rest, p.1 ≠ dr
  n38 : ∀ p ∈ rest, p.1 ≠ 38
def ChCon (w : World) (p : Program) (loose : List Str) (mean : ExcName → Option Value) (mg mb : Str → Option Value) (c : Addr) (cs : Led) : Prop :=
  (∃ ocl od fd sl, (c, (⟨ocl, od, .func fd, sl⟩ : Obj)) ∈ cs) ∧ ∀ (A : Around) (env : Env) (outer : List Env) (A₀ : Around) (base h₀ : Heap) (L : Addr) (m : Str → Option Value) (rest : Led) (s : Shared) (v : Value)
    (Q E : Value → Shared → Prop),
    A.frames = some (env :: outer) → env.frame = some L → env.scope.kind = .function → A.handled = none → A.depth < 900 →
    Below A₀ base outer h₀ → Fr h₀ L s.heap m → (Mine.cap.heap_1 w.params).In h₀ → News h₀ L s.heap rest → Top p loose mean mg mb h₀ → (∀ p ∈ cs, p ∈ rest) →
    (∀ h' tk', Fr h₀ L h' m → News h₀ L h' rest → Q (.ref 313) { s with heap := h', toks := tk' }) →
    wpAny (model PySem.Challenge.rw_pb0251_01.row.prog w) A (call (.ref c) [v]) Q E s
def BodyCon (w : World) (p : Program) (loose : List Str) (mean : ExcName → Option Value) (mg mb : Str → Option Value) (fo : Fo) : Prop :=
  ∀ (A : Around) (env : Env) (outer : List Env) (A₀ : Around) (base h₀ : Heap) (L : Addr) (m : Str → Option Value) (tab rest cs : Led) (s : Shared) (r dr tl nd c : Addr) (toks : List Value) (nt : Nat) (ws : List Str) (k₁ k₂ k₃ it : Tok) (i k : Nat) (tk : Tok) (z : Str) (more : List Str)
    (Q E : Value → Shared → Prop),
    A.frames = some (env :: outer) → env.frame = some L → env.scope.kind = .function → A.handled = none → A.depth + 6 * fo.deep < 700 →
    Below A₀ base outer h₀ → Fr h₀ L s.heap m → (Mine.cap.heap_1 w.params).In h₀ → Top p loose mean mg mb h₀ → CodeHd base 42 38 →
    News h₀ L s.heap ((dr, rdD w.params k₁ k₂ k₃ tl i it nd) :: (tab ++ rest)) → Tab38 tab → (∀ p ∈ tab, p.1 ≠ dr) → Sig w.params rest r dr tl toks nt ws → ChCon w p loose mean mg mb c cs → (∀ p ∈ cs, p ∈ rest) →
    ws.drop i = fo.words ++ z :: more → verbsL.any (· == z) = false →
    ((fo.deep = 0 ∨ k + fo.deep ≤ 13) → ∀ t vs n tab' new it' h' tk', Fr h₀ L h' m → News h₀ L h' ((dr, rdD w.params k₁ k₂ k₃ tl (i + fo.words.length : Nat) it' nd) :: (tab' ++ (new ++ rest))) → Tab38 tab' → (∀ p ∈ tab', p.1 ≠ dr) → (∀ p ∈ new, p.2.cls = .type "tuple") → (t, tupOf vs n) ∈ new → TreesIn new vs fo → Q (.ref t) { s with heap := h', toks := tk' }) →
    (¬ (fo.deep = 0 ∨ k + fo.deep ≤ 13) → ∀ e g tab' h' tk', Fr h₀ L g m → RaisedSN base g (env :: outer) e (.ref 82) (tab' ++ rest) h' → g.UpToSlots h' → Tab38 tab' → E (.ref e) { s with heap := h', toks := tk' }) →
    wpAny (model PySem.Challenge.rw_pb0251_01.row.prog w) A (call (.ref 36) [.ref r, .int k tk, .ref c]) Q E s
/-- a statement: its words IF .. END-IF, its inner statements fo -/
def StmtCon (w : World) (p : Program) (loose : List Str) (mean : ExcName → Option Value) (mg mb : Str → Option Value) (fo : Fo) : Prop :=
  ∀ (A : Around) (env : Env) (outer : List Env) (A₀ : Around) (base h₀ : Heap) (L : Addr) (m : Str → Option Value) (tab rest cs : Led) (s : Shared) (r dr tl nd c : Addr) (toks : List Value) (nt : Nat) (ws : List Str) (k₁ k₂ k₃ it : Tok) (i k : Nat) (tk : Tok) (more : List Str)
    (Q E : Value → Shared → Prop),
    A.frames = some (env :: outer) → env.frame = some L → env.scope.kind = .function → A.handled = none → A.depth + 6 * fo.deep + 5 < 700 →
    Below A₀ base outer h₀ → Fr h₀ L s.heap m → (Mine.cap.heap_1 w.params).In h₀ → Top p loose mean mg mb h₀ → CodeHd base 42 38 →
    News h₀ L s.heap ((dr, rdD w.params k₁ k₂ k₃ tl i it nd) :: (tab ++ rest)) → Tab38 tab → (∀ p ∈ tab, p.1 ≠ dr) → Sig w.params rest r dr tl toks nt ws → ChCon w p loose mean mg mb c cs → (∀ p ∈ cs, p ∈ rest) →
    ws.drop i = Str.ofString "IF" :: (fo.words ++ Str.ofString "END-IF" :: more) →
    (k + fo.deep ≤ 12 → ∀ t vs n tab' new it' h' tk', Fr h₀ L h' m → News h₀ L h' ((dr, rdD w.params k₁ k₂ k₃ tl (i + (fo.words.length + 2) : Nat) it' nd) :: (tab' ++ (new ++ rest))) → Tab38 tab' → (∀ p ∈ tab', p.1 ≠ dr) → (∀ p ∈ new, p.2.cls = .type "tuple") → (t, tupOf vs n) ∈ new → TreesIn new vs fo → Q (.ref t) { s with heap := h', toks := tk' }) →
    (¬ (k + fo.deep ≤ 12) → ∀ e g tab' h' tk', Fr h₀ L g m → RaisedSN base g (env :: outer) e (.ref 82) (tab' ++ rest) h' → g.UpToSlots h' → Tab38 tab' → E (.ref e) { s with heap := h', toks := tk' }) →
    wpAny (model PySem.Challenge.rw_pb0251_01.row.prog w) A (call (.ref 43) [.ref r, .int k tk, .ref c]) Q E s

theorem sig_tok {P : Params} {rest : Led} {r dr tl : Addr} {toks : List Value} {nt : Nat} {ws : List Str} (S : Sig P rest r dr tl toks nt ws) {i : Nat} {x : Str} (hx : ws[i]? = some x) :
    ∃ a d c₁ c₂ c₃ c₄ u t, toks[i]? = some (.ref a) ∧ (a, instObj 283 d) ∈ rest ∧ (d, tokD P c₁ c₂ c₃ c₄ x u t) ∈ rest := by
  have hi : i < toks.length := by rw [S.tk.1]; exact (List.getElem?_eq_some_iff.mp hx).1
  obtain ⟨a, d, k₁, k₂, k₃, k₄, u, t, e, h1, h2⟩ := S.tk.2 i _ x (List.getElem?_eq_getElem hi) hx
  exact ⟨a, d, k₁, k₂, k₃, k₄, u, t, by rw [List.getElem?_eq_getElem hi, e], h1, h2⟩
theorem tab_head {P : Addr} {l c : Nat} {q : Str} {tab : Led} (hT : TabAt P l c q tab) : ∃ ps, (P, tabObj ps) ∈ tab := by
  rcases hT with rfl | ⟨c', oc, vs, tq, rfl, _⟩
  · exact ⟨_, .head _⟩
  · exact ⟨_, .head _⟩
theorem news_ne {h₀ h : Heap} {L a b : Addr} {news : Led} {o o' : Obj} (N : News h₀ L h news) (h1 : (a, o) ∈ news) (h2 : (b, o') ∈ news) (hne : o ≠ o') : a ≠ b := by
  intro e
  subst e
  have e1 := (N _ h1).1
  have e2 := (N _ h2).1
  rw [e1] at e2
  exact hne (Option.some.inj e2)
theorem ne_cls {o o' : Obj} (h : o.cls ≠ o'.cls) : o ≠ o' := fun e => h (by rw [e])
theorem ne_cell {o o' : Obj} {v : Option Value} (h : o.data = .cell v) (h' : ∀ v, o'.data ≠ .cell v) : o ≠ o' := fun e => h' v (by rw [← e, h])
abbrev lamParams : Arguments := { posonlyargs := [], args := [{ arg := "inner", annotation := none, pos := { line := 19, col := 54, endLine := 19, endCol := 59 } }], vararg := none, kwonlyargs := [], kw_defaults := [], kwarg := none, defaults := [] }
abbrev lamBody : Expr := .Call (.Name "body_at" { line := 19, col := 61, endLine := 19, endCol := 68 })
  [.Name "inner" { line := 19, col := 69, endLine := 19, endCol := 74 }, .BinOp (.Name "depth" { line := 19, col := 76, endLine := 19, endCol := 81 }) .Add (.Constant (.int 1) 0 { line := 19, col := 84, endLine := 19, endCol := 85 }) { line := 19, col := 76, endLine := 19, endCol := 85 }, .Name "choose" { line := 19, col := 87, endLine := 19, endCol := 93 }] [] { line := 19, col := 61, endLine := 19, endCol := 94 }
abbrev lamScope : Scope := { kind := .function, names := [("inner", .local), ("choose", .free), ("depth", .free), ("body_at", .globalImplicit)], isGenerator := false, isCoroutine := false }
abbrev lamFn (pm : Value) (x1 x2 c' : Addr) (ctv : Value) : Obj := kla_obj "<lambda>" (lamQ (Str.ofString "statement_at")) lamParams lamBody lamScope [(Str.ofString "depth", x2), (Str.ofString "choose", x1)] pm c' ctv
/-- _law_one, called with the lambda of a statement -/
def OneCon (w : World) (p : Program) (loose : List Str) (mean : ExcName → Option Value) (mg mb : Str → Option Value) (fo : Fo) : Prop :=
  ∀ (A : Around) (env : Env) (outer : List Env) (A₀ : Around) (base h₀ : Heap) (L : Addr) (m : Str → Option Value) (tab rest cs : Led) (s : Shared) (r dr tl nd c f x1 x2 c' : Addr) (o1 o2 oc : Obj) (pm ctv : Value) (vs : Array Value) (tq : Tok) (toks : List Value) (nt : Nat) (ws : List Str) (k₁ k₂ k₃ it : Tok) (i k : Nat) (tk : Tok) (more : List Str)
    (Q E : Value → Shared → Prop),
    A.frames = some (env :: outer) → env.frame = some L → env.scope.kind = .function → A.handled = none → A.depth + 6 * fo.deep + 4 < 700 →
    Below A₀ base outer h₀ → Fr h₀ L s.heap m → (Mine.cap.heap_1 w.params).In h₀ → Top p loose mean mg mb h₀ → CodeHd base 42 38 →
    News h₀ L s.heap ((dr, rdD w.params k₁ k₂ k₃ tl i it nd) :: (f, lamFn pm x1 x2 c' ctv) :: (x1, o1) :: (x2, o2) :: (tab ++ rest)) →
    o1.data = .cell (some (.ref c)) → o2.data = .cell (some (.int k tk)) → Tab38 tab → (c', oc) ∈ tab → oc.data = .fields vs → vs[1]? = some (.str (lamQ (Str.ofString "statement_at")) tq) → 
    (∀ p ∈ tab, p.1 ≠ dr) → @Ne Nat f dr → @Ne Nat x1 dr → @Ne Nat x2 dr → @Ne Nat f 38 → @Ne Nat x1 38 → @Ne Nat x2 38 → Sig w.params rest r dr tl toks nt ws → ChCon w p loose mean mg mb c cs → (∀ p ∈ cs, p ∈ rest) →
    ws.drop i = Str.ofString "IF" :: (fo.words ++ Str.ofString "END-IF" :: more) →
    ((fo.deep = 0 ∨ k + 1 + fo.deep ≤ 13) → ∀ t vs n tab' new it' h' tk', Fr h₀ L h' m → News h₀ L h' ((dr, rdD w.params k₁ k₂ k₃ tl (i + (fo.words.length + 2) : Nat) it' nd) :: (tab' ++ (new ++ rest))) → Tab38 tab' → (∀ p ∈ tab', p.1 ≠ dr) → (∀ p ∈ new, p.2.cls = .type "tuple") → (t, tupOf vs n) ∈ new → TreesIn new vs fo → Q (.ref t) { s with heap := h', toks := tk' }) →
    (¬ (fo.deep = 0 ∨ k + 1 + fo.deep ≤ 13) → ∀ e g tab' h' tk', Fr h₀ L g m → RaisedSN base g (env :: outer) e (.ref 82) (tab' ++ rest) h' → g.UpToSlots h' → Tab38 tab' → E (.ref e) { s with heap := h', toks := tk' }) →
    wpAny (model PySem.Challenge.rw_pb0251_01.row.prog w) A (call (.ref 313) [.ref r, .ref f]) Q E s
end Mine
end

section
open PySem PySem.W PySem.Spec PySem.Calls PyProof.Rows
set_option Elab.async false
set_option maxRecDepth 100000
set_option maxHeartbeats 8000000
namespace Mine
section
local macro_rules | `(tactic| k_steps) => `(tactic| repeat' ((fail_if_success (with_reducible show wpAny _ _ (call (Value.ref 157) _) _ _ _)); (fail_if_success (with_reducible show wpAny _ _ (call (Value.ref 36) _) _ _ _)); first | (k_unfold; (try dsimp only)) | (k_end; wrow_close) | walk1 | (dsimp only; walk1) | (dsimp only [List.cons_append, List.nil_append]; walk1) | (leave1; walk_say "STEP leave1"; try dsimp only) | fail "no step"))
local macro_rules | `(tactic| k_all) => `(tactic| assumption)
local macro_rules | `(tactic| size_fits) => `(tactic| ((try simp only [List.size_toArray, List.length_append, List.length_cons, List.length_nil, List.push_toArray]); (have hsz9 := sizeLine_eq); omega))
local macro_rules | `(tactic| ktr_enter) => `(tactic| (k_dflt (refine' code_def ?k1 ?k2 ?k3 ?k4 ?k5 ?kA ?kF ?kK ?k6 ?k7 ?k8 ?k9 ?kB ?_ ?c2 ?c3 ?c4 ?c5; (case kA => assumption); (case kF => assumption); (case kK => assumption); (case k1 => k_asm); (case k2 => k_asm); (case k3 => k_asm); (case k4 => k_asm); (case k5 => k_asm); (case k6 => k_is); (case k7 => k_is); (case k8 => (simp only [recursionLimit]; omega)); (case k9 => exact BindsTo.of_eq rfl); (case c5 => decide); (case kB => exact locs rfl); (case c2 => exact rfl); (case c3 => exact rfl); (case c4 => exact rfl); k_whole; intro g' L' h' FG' F' N' B' X' T'; (try dsimp only); (try k_fold))))
local macro_rules | `(tactic| k_room) => `(tactic| (simp only [depth_mark, depth_under_make, depth_under_kw, depth_in1, depth_deeper, depth_caller, recursionLimit]; omega))
local macro_rules | `(tactic| k_enter) => `(tactic| first
  | (refine' code_def ?k1 ?k2 ?k3 ?k4 ?k5 ?kA ?kF ?kK ?k6 ?k7 ?k8 ?k9 ?kB ?_ ?c2 ?c3 ?c4 ?c5; (case kA => first | assumption | exact Around.frames_deeper (by assumption) | exact Around.frames_deeper (Around.frames_deeper (by assumption)) | exact Around.frames_deeper (Around.frames_deeper (Around.frames_deeper (by assumption))) | exact Around.frames_deeper (Around.frames_deeper (Around.frames_deeper (Around.frames_deeper (by assumption))))); (case kF => first | assumption | exact rfl); (case kK => first | assumption | exact rfl); (case k1 => k_asm); (case k2 => k_asm); (case k3 => k_asm); (case k4 => k_asm); (case k5 => k_asm); (case k6 => k_is); (case k7 => k_is); (case k8 => k_room); (case k9 => first | exact BindsTo.of_eq rfl | exact binds_K (by k_in) rfl (by k_is) rfl rfl rfl | fail "k_enter: no rule for these arguments"); (case c5 => decide); (case kB => exact locs rfl); (case c2 => exact rfl); (case c3 => exact rfl); (case c4 => exact rfl); k_whole; intro g' L' h' FG' F' N' B' X' T'; (try dsimp only); (try k_lift B'); (try k_fold))
  | (refine' code_defC ?k1 ?k2 ?k3 ?k4 ?k5 ?kA ?kF ?kK ?k6 ?k7 ?k8 ?k9 ?kB ?kD ?_ ?c2 ?c3 ?c4; (case kA => first | assumption | exact Around.frames_deeper (by assumption) | exact Around.frames_deeper (Around.frames_deeper (by assumption))); (case kF => first | assumption | exact rfl); (case kK => first | assumption | exact rfl); (case k1 => k_asm); (case k2 => k_asm); (case k3 => k_asm); (case k4 => k_asm); (case k5 => k_asm); (case k6 => k_is); (case k7 => k_is); (case k8 => k_room); (case k9 => first | exact BindsTo.of_eq rfl | exact binds_K (by k_in) rfl (by k_is) rfl rfl rfl | fail "k_enter: no rule for these arguments"); (case kB => exact rfl); (case kD => decide +kernel); (case c2 => exact rfl); (case c3 => exact rfl); (case c4 => exact rfl); k_whole; intro g' L' h' tk' cells' FG' F' N' Y' B' X' T' l1; (try k_lt l1); k_cells Y'; (try simp only [List.cons_append, List.nil_append] at N'); (try dsimp only); (try k_lift B'); (try k_fold)))


theorem one_con (w : World) (p : Program) (loose : List Str) (mean : ExcName → Option Value) (mg mb : Str → Option Value) (fo : Fo) (BC : BodyCon w p loose mean mg mb fo) : OneCon w p loose mean mg mb fo := by
  unfold OneCon
  have NC1 := need_con w p loose mean mg mb (Str.ofString "IF") (.inl rfl)
  have NC2 := need_con w p loose mean mg mb (Str.ofString "END-IF") (.inr rfl)
  k_fill
  w_on
  intro A env outer A₀ base h₀ L m tab rest cs s r dr tl nd c f x1 x2 c' o1 o2 oc pm ctv vs tq toks nt ws k₁ k₂ k₃ it i k tk more Q E hA hf hke hh hd B F X T hC N ho1 ho2 hT hcT hdc hvc hTn hfn hx1n hx2n hf38 hx138 hx238 S hCh hcs hws hok hbad
  have hx : ws[i]? = some (Str.ofString "IF") := by
    have := List.getElem?_drop (xs := ws) (i := i) (j := 0)
    rw [hws] at this
    simpa using this.symm
  obtain ⟨a, d, c₁, c₂, c₃, c₄, u, t, htok, ha, hdd⟩ := sig_tok S hx
  obtain ⟨R0, hR0⟩ : ∃ R0 : Led, R0 = (f, lamFn pm x1 x2 c' ctv) :: (x1, o1) :: (x2, o2) :: (tab ++ rest) := ⟨_, rfl⟩
  have N1 : News h₀ L s.heap ((dr, rdD w.params k₁ k₂ k₃ tl i it nd) :: (r, instObj 253 dr) :: (tl, W.listOf toks.toArray nt) :: (a, instObj 283 d) :: (d, tokD w.params c₁ c₂ c₃ c₄ (Str.ofString "IF") u t) :: R0) := news_perm N (fun p hp => by
    subst hR0
    simp only [List.mem_cons, List.mem_append] at hp ⊢
    rcases hp with h | h | h | h | h | h
    · simp [h]
    · exact .inr (.inr (.inr (.inr (.inr (h ▸ S.rd)))))
    · exact .inr (.inr (.inr (.inr (.inr (h ▸ S.tl)))))
    · exact .inr (.inr (.inr (.inr (.inr (h ▸ ha)))))
    · exact .inr (.inr (.inr (.inr (.inr (h ▸ hdd)))))
    · exact .inr h)
  have hRn : ∀ p ∈ R0, p.1 ≠ dr := fun p hp => by
    subst hR0
    simp only [List.mem_cons, List.mem_append] at hp
    rcases hp with h | h | h | h | h
    · rw [h]; exact hfn
    · rw [h]; exact hx1n
    · rw [h]; exact hx2n
    · exact hTn p h
    · exact S.ne p h
  clear N
  refine wpAny_call ?_
  w_strict k_enter
  w_strict k_steps
  rename Fr _ _ _ _ => F2
  rename Fr h₀ L _ m => FG2
  rename News _ _ _ _ => N2
  rename Below _ _ _ _ => B2
  rename Frag.In _ _ => X2
  rename Top _ _ _ _ _ _ => T2
  refine NC1 _ _ _ _ _ _ _ _ _ _ _ _ _ _ _ _ _ _ _ _ _ _ _ _ _ _ _ _ _ _ _ _ (Around.frames_deeper hA) rfl rfl (by show A.depth + 1 < 870; omega) hh B2 F2 X2 T2 N2 (S.ne _ S.rd) (S.ne _ S.tl) (S.ne _ ha) (S.ne _ hdd) hRn S.len htok ?_
  intro h3 tk3 it3 F3 N3
  clear F2 N2
  (try dsimp only)
  w_strict k_steps
  subst hR0
  have hfm : (f, lamFn pm x1 x2 c' ctv) ∈ (f, lamFn pm x1 x2 c' ctv) :: (x1, o1) :: (x2, o2) :: (tab ++ rest) := .head _
  refine callWith_F (FnAt.of N3 (.tail _ (.tail _ (.tail _ (.tail _ (.tail _ hfm)))))) ?_
  w_strict k_steps
  refine wpAny_call ?_
  refine kla_code B2 F3 X2 N3 T2 (Around.frames_deeper hA) rfl rfl (.tail _ (.tail _ (.tail _ (.tail _ (.tail _ hfm))))) (codeRec_news N3 (by simp [hcT]) hdc hvc) (by show A.depth + 1 < 1000; omega) rfl (locs rfl) ?_ rfl rfl rfl (by decide)
  intro g4 L4 h4 FG4 F4 N4 B4 X4 T4
  (try dsimp only)
  (try k_lift B4)
  (try k_fold)
  w_strict k_steps
  have NB := news_perm (b := (dr, rdD w.params k₁ k₂ k₃ tl (i + 1 : Nat) it3 nd) :: (tab ++ ((f, lamFn pm x1 x2 c' ctv) :: (x1, o1) :: (x2, o2) :: rest))) N4 (fun q hq => by
    simp only [List.mem_cons, List.mem_append] at hq ⊢
    rcases hq with h | h | h | h | h | h
    · exact .inl h
    · exact .inr (.inr (.inr (.inr (.inr (.inr (.inr (.inr (.inl h))))))))
    · exact .inr (.inr (.inr (.inr (.inr (.inl h)))))
    · exact .inr (.inr (.inr (.inr (.inr (.inr (.inl h))))))
    · exact .inr (.inr (.inr (.inr (.inr (.inr (.inr (.inl h)))))))
    · exact .inr (.inr (.inr (.inr (.inr (.inr (.inr (.inr (.inr h)))))))))
  have hsub : ∀ q ∈ rest, q ∈ (f, lamFn pm x1 x2 c' ctv) :: (x1, o1) :: (x2, o2) :: rest := fun q hq => .tail _ (.tail _ (.tail _ hq))
  have Sb : Sig w.params ((f, lamFn pm x1 x2 c' ctv) :: (x1, o1) :: (x2, o2) :: rest) r dr tl toks nt ws := ⟨hsub _ S.rd, hsub _ S.tl, S.tk.mono hsub, S.len, fun q hq => by
      simp only [List.mem_cons] at hq
      rcases hq with h | h | h | h
      · rw [h]; exact hfn
      · rw [h]; exact hx1n
      · rw [h]; exact hx2n
      · exact S.ne q h, fun q hq => by
      simp only [List.mem_cons] at hq
      rcases hq with h | h | h | h
      · rw [h]; exact hf38
      · rw [h]; exact hx138
      · rw [h]; exact hx238
      · exact S.n38 q h⟩
  have hws1 : ws.drop (i + 1) = fo.words ++ Str.ofString "END-IF" :: more := by
    rw [← List.drop_drop, hws]; rfl
  refine BC _ _ _ _ _ _ _ _ _ _ _ _ _ _ _ _ _ _ _ _ _ _ _ _ (i + 1) (k + 1) _ _ more _ _ (Around.frames_deeper (Around.frames_deeper hA)) rfl rfl hh (by show A.depth + 1 + 1 + 6 * fo.deep < 700; omega) B4 F4 X4 T4 hC NB hT hTn Sb hCh (fun q hq => hsub _ (hcs q hq)) hws1 rfl ?_ ?_
  · intro hdp v vs1 n1 tab1 new1 it5 h5 tk5 F5 N5 hT1 hTn1 hnew1 ht1 htr1
    have hx2 : ws[i + 1 + fo.words.length]? = some (Str.ofString "END-IF") := by
      have := List.getElem?_drop (xs := ws) (i := i + 1) (j := fo.words.length)
      rw [hws1] at this
      simpa using this.symm
    obtain ⟨a2, d2, e₁, e₂, e₃, e₄, u2, t2, htok2, ha2, hdd2⟩ := sig_tok S hx2
    have hR1n : ∀ q ∈ tab1 ++ (new1 ++ rest), q.1 ≠ dr := fun q hq => by
      rcases List.mem_append.mp hq with h | h
      · exact hTn1 q h
      · rcases List.mem_append.mp h with h | h
        · refine news_ne N5 (o := q.2) (List.mem_cons_of_mem _ (List.mem_append_right _ (List.mem_append_left _ h))) (List.mem_cons_self ..) (ne_cls ?_)
          rw [hnew1 q h]
          intro e; have e1 : Value.type "tuple" = Value.type "dict" := e; simp at e1
        · exact S.ne q h
    obtain ⟨R1, hR1⟩ : ∃ R1 : Led, R1 = tab1 ++ (new1 ++ rest) := ⟨_, rfl⟩
    have N6 : News g4 L4 h5 ((dr, rdD w.params k₁ k₂ k₃ tl (i + 1 + fo.words.length : Nat) it5 nd) :: (r, instObj 253 dr) :: (tl, W.listOf toks.toArray nt) :: (a2, instObj 283 d2) :: (d2, tokD w.params e₁ e₂ e₃ e₄ (Str.ofString "END-IF") u2 t2) :: R1) := news_perm N5 (fun p hp => by
      subst hR1
      simp only [List.mem_cons, List.mem_append] at hp ⊢
      rcases hp with h | h | h | h | h | h | h | h
      · exact .inl h
      · exact .inr (.inr (.inr (.inr (.inr (.inr (h ▸ S.rd))))))
      · exact .inr (.inr (.inr (.inr (.inr (.inr (h ▸ S.tl))))))
      · exact .inr (.inr (.inr (.inr (.inr (.inr (h ▸ ha2))))))
      · exact .inr (.inr (.inr (.inr (.inr (.inr (h ▸ hdd2))))))
      · exact .inr (.inl h)
      · exact .inr (.inr (.inl h))
      · exact .inr (.inr (.inr (.inr (.inr (.inr h))))))
    rw [← hR1] at hR1n
    clear NB F4 N4 N3 F3 N5
    (try dsimp only)
    w_strict k_steps
    rename Fr _ _ _ _ => F7
    rename News _ _ _ _ => N7
    refine NC2 _ _ _ _ _ _ _ _ _ _ _ _ _ _ _ _ _ _ _ _ _ _ _ _ _ _ _ _ _ _ _ _ (Around.frames_deeper hA) rfl rfl (by show A.depth + 1 < 870; omega) hh B2 F7 X2 T2 N7 (S.ne _ S.rd) (S.ne _ S.tl) (S.ne _ ha2) (S.ne _ hdd2) hR1n S.len htok2 ?_
    intro h8 tk8 it8 F8 N8
    clear F7 N7 N6
    (try dsimp only)
    w_strict k_steps
    rename Fr _ _ _ _ => F9
    rename News _ _ _ _ => N9
    refine hok hdp v vs1 n1 tab1 new1 it8 _ _ F9 ?_ hT1 hTn1 hnew1 ht1 htr1
    refine news_perm N9 (fun q hq => ?_)
    rw [show i + (fo.words.length + 2) = i + 1 + fo.words.length + 1 by omega] at hq
    rw [← hR1] at hq
    rcases List.mem_cons.mp hq with h | h
    · exact h ▸ List.mem_cons_self ..
    · exact .tail _ (.tail _ (.tail _ (.tail _ (.tail _ h))))
  · intro hdp e g tab1 h5 tk5 F5 R5 hsm5 hT1
    k_unfold
    refine leave_on B4 rfl F5 R5 hsm5 fun h6 R6 hsm6 => ?_
    k_unfold
    refine leave_on B2 rfl FG4 R6 hsm6 fun h7 R7 hsm7 => ?_
    exact hbad hdp e _ tab1 h7 _ FG2 (raised_sub R7 (fun q hq => by
      simp only [List.mem_cons, List.mem_append] at hq ⊢
      rcases hq with h | h
      · exact .inl h
      · exact .inr (.inr (.inr (.inr h))))) hsm7 hT1
end
end Mine
end

section
open PySem PySem.W PySem.Spec PySem.Calls PyProof.Rows
set_option Elab.async false
set_option maxRecDepth 100000
set_option maxHeartbeats 8000000


namespace Mine
section
local macro_rules | `(tactic| k_steps) => `(tactic| repeat' ((fail_if_success (with_reducible show wpAny _ _ (call (Value.ref 29) _) _ _ _)); (fail_if_success (with_reducible show wpAny _ _ (call (Value.ref 121) _) _ _ _)); (fail_if_success (with_reducible show wpAny _ _ (call (Value.ref 36) _) _ _ _)); (fail_if_success (with_reducible show wpAny _ _ (call (Value.ref 313) _) _ _ _)); (fail_if_success (with_reducible show wpAny _ _ (call (Value.ref 107) _) _ _ _)); (fail_if_success (with_reducible show wpAny _ _ (exec (Stmt.Raise _ _ _) _) _ _ _)); (fail_if_success (with_reducible show wpAny _ _ (eval (Expr.Lambda _ _ _ _) _) _ _ _)); first | (k_unfold; (try dsimp only)) | (k_end; wrow_close) | walk1 | (dsimp only; walk1) | (dsimp only [List.cons_append, List.nil_append]; walk1) | (leave1; walk_say "STEP leave1"; try dsimp only) | fail "no step"))
local macro_rules | `(tactic| k_all) => `(tactic| assumption)
local macro_rules | `(tactic| size_fits) => `(tactic| ((try simp only [List.size_toArray, List.length_append, List.length_cons, List.length_nil, List.push_toArray]); (have hsz9 := sizeLine_eq); omega))
local macro_rules | `(tactic| ktr_enter) => `(tactic| (k_dflt (refine' code_def ?k1 ?k2 ?k3 ?k4 ?k5 ?kA ?kF ?kK ?k6 ?k7 ?k8 ?k9 ?kB ?_ ?c2 ?c3 ?c4 ?c5; (case kA => assumption); (case kF => assumption); (case kK => assumption); (case k1 => k_asm); (case k2 => k_asm); (case k3 => k_asm); (case k4 => k_asm); (case k5 => k_asm); (case k6 => k_is); (case k7 => k_is); (case k8 => (simp only [recursionLimit]; omega)); (case k9 => exact BindsTo.of_eq rfl); (case c5 => decide); (case kB => exact locs rfl); (case c2 => exact rfl); (case c3 => exact rfl); (case c4 => exact rfl); k_whole; intro g' L' h' FG' F' N' B' X' T'; (try dsimp only); (try k_fold))))
local macro_rules | `(tactic| k_room) => `(tactic| (simp only [depth_mark, depth_under_make, depth_under_kw, depth_in1, depth_deeper, depth_caller, recursionLimit]; omega))
local macro_rules | `(tactic| k_enter) => `(tactic| first
  | (refine' code_def ?k1 ?k2 ?k3 ?k4 ?k5 ?kA ?kF ?kK ?k6 ?k7 ?k8 ?k9 ?kB ?_ ?c2 ?c3 ?c4 ?c5; (case kA => first | assumption | exact Around.frames_deeper (by assumption) | exact Around.frames_deeper (Around.frames_deeper (by assumption)) | exact Around.frames_deeper (Around.frames_deeper (Around.frames_deeper (by assumption))) | exact Around.frames_deeper (Around.frames_deeper (Around.frames_deeper (Around.frames_deeper (by assumption))))); (case kF => first | assumption | exact rfl); (case kK => first | assumption | exact rfl); (case k1 => k_asm); (case k2 => k_asm); (case k3 => k_asm); (case k4 => k_asm); (case k5 => k_asm); (case k6 => k_is); (case k7 => k_is); (case k8 => k_room); (case k9 => first | exact BindsTo.of_eq rfl | exact binds_K (by k_in) rfl (by k_is) rfl rfl rfl | fail "k_enter: no rule for these arguments"); (case c5 => decide); (case kB => exact locs rfl); (case c2 => exact rfl); (case c3 => exact rfl); (case c4 => exact rfl); k_whole; intro g' L' h' FG' F' N' B' X' T'; (try dsimp only); (try k_lift B'); (try k_fold))
  | (refine' code_defC ?k1 ?k2 ?k3 ?k4 ?k5 ?kA ?kF ?kK ?k6 ?k7 ?k8 ?k9 ?kB ?kD ?_ ?c2 ?c3 ?c4; (case kA => first | assumption | exact Around.frames_deeper (by assumption) | exact Around.frames_deeper (Around.frames_deeper (by assumption))); (case kF => first | assumption | exact rfl); (case kK => first | assumption | exact rfl); (case k1 => k_asm); (case k2 => k_asm); (case k3 => k_asm); (case k4 => k_asm); (case k5 => k_asm); (case k6 => k_is); (case k7 => k_is); (case k8 => k_room); (case k9 => first | exact BindsTo.of_eq rfl | exact binds_K (by k_in) rfl (by k_is) rfl rfl rfl | fail "k_enter: no rule for these arguments"); (case kB => exact rfl); (case kD => decide +kernel); (case c2 => exact rfl); (case c3 => exact rfl); (case c4 => exact rfl); k_whole; intro g' L' h' tk' cells' FG' F' N' Y' B' X' T' l1; (try k_lt l1); k_cells Y'; (try simp only [List.cons_append, List.nil_append] at N'); (try dsimp only); (try k_lift B'); (try k_fold)))


theorem stmt_con (w : World) (p : Program) (loose : List Str) (mean : ExcName → Option Value) (mg mb : Str → Option Value) (fo : Fo) (OC : OneCon w p loose mean mg mb fo) : StmtCon w p loose mean mg mb fo := by
  unfold StmtCon
  have VC := verb_con w p loose mean mg mb _ _ (in_IF w)
  have FC := fault_con w p loose mean mg mb
  have PC := peek_con w p loose mean mg mb
  k_fill
  w_on
  intro A env outer A₀ base h₀ L m tab rest cs s r dr tl nd c toks nt ws k₁ k₂ k₃ it i k tk more Q E hA hf hke hh hd B F X T hC N hT hTn S hCh hcs hws hok hbad
  have hx : ws[i]? = some (Str.ofString "IF") := by
    have := List.getElem?_drop (xs := ws) (i := i) (j := 0)
    rw [hws] at this
    simpa using this.symm
  obtain ⟨a, d, c₁, c₂, c₃, c₄, u, t, htok, ha, hdd⟩ := sig_tok S hx
  obtain ⟨R0, hR0⟩ : ∃ R0 : Led, R0 = tab ++ rest := ⟨_, rfl⟩
  have N1 : News h₀ L s.heap ((dr, rdD w.params k₁ k₂ k₃ tl i it nd) :: (r, instObj 253 dr) :: (tl, W.listOf toks.toArray nt) :: (a, instObj 283 d) :: (d, tokD w.params c₁ c₂ c₃ c₄ (Str.ofString "IF") u t) :: R0) := news_perm N (fun p hp => by
    subst hR0
    simp only [List.mem_cons, List.mem_append] at hp ⊢
    rcases hp with h | h | h | h | h | h
    · simp [h]
    · exact .inr (.inr (h ▸ S.rd))
    · exact .inr (.inr (h ▸ S.tl))
    · exact .inr (.inr (h ▸ ha))
    · exact .inr (.inr (h ▸ hdd))
    · exact .inr h)
  clear N
  refine wpAny_call ?_
  w_strict k_enter
  w_strict k_steps
  rename Fr _ _ _ _ => F2
  rename Fr h₀ L _ m => FG2
  rename News _ _ _ _ => N2
  rename Below _ _ _ _ => B2
  rename Frag.In _ _ => X2
  rename Top _ _ _ _ _ _ => T2
  rename_i L1 h1 tk1 y1 oCho oDep dCho dDep
  refine VC _ _ _ _ _ _ _ _ _ _ _ _ _ _ _ _ _ _ _ _ _ _ _ _ _ _ _ _ _ _ _ (Around.frames_deeper hA) rfl rfl (by show A.depth + 1 < 880; omega) B2 F2 X2 T2 (news_front (pre := [_, _]) N2) S.len htok ?_
  intro h3 tk3 F3 N3
  replace N3 := news_unfront (pre := [_, _]) N3
  (try dsimp only [List.cons_append, List.nil_append] at N3)
  clear F2 N2
  (try dsimp only)
  by_cases hk : k ≤ 12
  · w_strict k_steps
    obtain ⟨⟨ocl, od, fd, sl, hcm⟩, hCh⟩ := hCh
    refine callWith_F (FnAt.of (q := c) (oc := ocl) (od := od) (fd := fd) (sl := sl) N3 (by subst hR0; simp only [List.mem_cons, List.mem_append]; repeat (first | exact hcs _ hcm | apply Or.inr))) ?_
    w_strict k_steps
    refine PC _ _ _ _ _ _ _ _ _ _ _ _ _ _ _ _ _ _ _ _ _ _ _ _ _ (Around.frames_deeper hA) rfl rfl (by show A.depth + 1 < 900; omega) B2 F3 X2 T2 (news_front (pre := [_, _]) N3) S.len htok (.inl rfl) ?_
    intro h4 tk4 F4 N4
    replace N4 := news_unfront (pre := [_, _]) N4
    (try dsimp only [List.cons_append, List.nil_append] at N4)
    clear F3 N3
    (try dsimp only)
    w_strict k_steps
    any_goals (with_reducible show FnAt _ _; exact FnAt.of (q := c) (oc := ocl) (od := od) (fd := fd) (sl := sl) N4 (by subst hR0; simp only [List.mem_cons, List.mem_append]; repeat (first | exact hcs _ hcm | apply Or.inr)))
    refine hCh _ _ _ _ _ _ _ _ _ _ _ _ _ (Around.frames_deeper hA) rfl rfl hh (by show A.depth + 1 < 900; omega) B2 F4 X2 N4 T2 (fun q hq => by subst hR0; simp only [List.mem_cons, List.mem_append]; repeat (first | exact hcs _ hq | apply Or.inr)) ?_
    intro h5 tk5 F5 N5
    clear F4 N4
    (try dsimp only)
    w_strict k_steps
    subst hR0
    have h38 : ∃ ps, (38, tabObj ps) ∈ tab := tab_head hT
    obtain ⟨ps, h38⟩ := h38
    have n38 : ∀ (q : Addr × Obj), q ∈ ([(L1 + 1 + 1, oCho), (L1 + 1, oDep), (dr, rdD w.params k₁ k₂ k₃ tl i it nd), (r, instObj 253 dr), (tl, W.listOf toks.toArray nt), (a, instObj 283 d), (d, tokD w.params c₁ c₂ c₃ c₄ (Str.ofString "IF") u t)] : Led) → q.1 ≠ 38 := fun q hq => by
      refine news_ne N5 (o := q.2) (o' := tabObj ps) (List.mem_append_left _ hq) (by simp only [List.mem_cons, List.mem_append]; simp [h38]) ?_
      simp only [List.mem_cons, List.not_mem_nil, or_false] at hq
      rcases hq with rfl | rfl | rfl | rfl | rfl | rfl | rfl
      · exact ne_cell dCho (by intro v e; cases e)
      · exact ne_cell dDep (by intro v e; cases e)
      all_goals (refine ne_cls (fun e => ?_); cases e)
    refine lam_tab (P := 38) (tab := tab) (rest := rest) (pre := [(L1 + 1 + 1, oCho), (L1 + 1, oDep), (dr, rdD w.params k₁ k₂ k₃ tl i it nd), (r, instObj 253 dr), (tl, W.listOf toks.toArray nt), (a, instObj 283 d), (d, tokD w.params c₁ c₂ c₃ c₄ (Str.ofString "IF") u t)]) F5 N5 T2 (CodeHd.keeps hC B2.stays) hT n38 S.n38 rfl rfl ?_
    intro f c' oc vs tq ctv h6 tk6 tab' F6 N6 hT' hcT' hd' hv' hsep hlt
    (try dsimp only)
    w_strict k_steps
    have h1d : L1 + 1 + 1 ≠ dr := news_ne N5 (o := oCho) (o' := rdD w.params k₁ k₂ k₃ tl i it nd) (by simp) (by simp) (ne_cell dCho (by intro v e; cases e))
    have h2d : L1 + 1 ≠ dr := news_ne N5 (o := oDep) (o' := rdD w.params k₁ k₂ k₃ tl i it nd) (by simp) (by simp) (ne_cell dDep (by intro v e; cases e))
    have hTn' : ∀ q ∈ tab', q.1 ≠ dr := hsep dr ⟨_, .tail _ (.tail _ (.head _))⟩ hTn
    dsimp only [List.cons_append, List.nil_append] at N6
    have N7 := news_perm (b := (dr, rdD w.params k₁ k₂ k₃ tl i it nd) :: (f, lamFn ((mg (Str.ofString "__name__")).getD .none) (L1 + 1 + 1) (L1 + 1) c' ctv) :: (L1 + 1 + 1, oCho) :: (L1 + 1, oDep) :: (tab' ++ rest)) N6 (fun q hq => by
      simp only [List.mem_cons, List.mem_append] at hq ⊢
      rcases hq with h | h | h | h | h | h
      · exact .inr (.inr (.inr (.inl h)))
      · exact .inl h
      · exact .inr (.inl h)
      · exact .inr (.inr (.inl h))
      · exact .inr (.inr (.inr (.inr (.inr (.inr (.inr (.inr (.inl h))))))))
      · exact .inr (.inr (.inr (.inr (.inr (.inr (.inr (.inr (.inr h)))))))))
    clear N6 N5 F5
    refine OC _ _ _ _ _ _ _ _ _ _ _ _ _ _ _ _ _ _ _ _ _ _ _ _ _ _ _ _ _ _ _ _ _ _ _ _ _ _ _ _ _ (Around.frames_deeper hA) rfl rfl hh (by show A.depth + 1 + 6 * fo.deep + 4 < 700; omega) B2 F6 X2 T2 hC N7 dCho dDep hT' hcT' hd' hv' hTn' (Nat.ne_of_gt (hlt _ (.tail _ (.tail _ (.head _))))) h1d h2d (Nat.ne_of_gt (hlt _ (List.mem_append_right _ (List.mem_append_left _ h38)))) (n38 _ (.head _)) (n38 _ (.tail _ (.head _))) S ⟨⟨ocl, od, fd, sl, hcm⟩, hCh⟩ hcs hws ?_ ?_
    · intro hdp v vs1 n1 tab1 new1 it5 h5 tk5 F5 N5 hT1 hTn1 hnew1 ht1 htr1
      (try dsimp only)
      w_strict k_steps
      rename Fr _ _ _ _ => F9
      rename News _ _ _ _ => N9
      refine hok (by omega) v vs1 n1 tab1 new1 it5 _ _ F9 N9 hT1 hTn1 hnew1 ht1 htr1
    · intro hdp e g tab1 h5 tk5 F5 R5 hsm5 hT1
      (try dsimp only)
      refine leave_on B2 rfl F5 R5 hsm5 fun h6 R6 hsm6 => ?_
      exact hbad (by omega) e _ tab1 h6 _ FG2 R6 hsm6 hT1
  · have hkd : ¬ (k + fo.deep ≤ 12) := by omega
    w_strict k_steps
    refine raise_exec (P := w.params) hh ?_
    w_strict k_steps
    rename Fr _ _ _ _ => F4
    rename News _ _ _ _ => N4
    refine FC _ _ _ _ _ _ _ _ _ _ _ _ _ _ _ _ _ _ _ _ _ _ _ _ _ _ _ _ _ _ _ _ _ _ (Around.frames_deeper hA) rfl rfl (by show A.depth + 1 < 870; omega) hh B2 F4 X2 T2 (news_front (pre := [_, _]) N4) S.len htok ?_
    intro e oe vs a0 h5 tk5 F5 N5 hcls hdat hv0 hv1 hne
    (try dsimp only)
    refine ⟨e, oe, vs, rfl, X2.keeps F5.keep, (N5 _ (.head _)).1, hcls, hdat, hv1, ?_⟩
    have N6 := news_perm (b := (e, oe) :: (tab ++ rest)) N5 (fun q hq => by
      subst hR0
      rcases List.mem_cons.mp hq with h | h
      · exact h ▸ List.mem_cons_self ..
      · exact .tail _ (.tail _ (.tail _ (.tail _ (.tail _ (.tail _ (List.mem_append_right _ h)))))))
    (try dsimp only)
    refine leave_first (news := tab ++ rest) B2 rfl rfl F5 N6 (fun q hq => hne q (by subst hR0; exact List.mem_append_right _ hq)) hcls hdat hv0 hv1 fun h6 R6 hsm6 => ?_
    exact hbad hkd e _ tab h6 _ FG2 R6 hsm6 hT
end
end Mine
end

section
open PySem PySem.W PySem.Spec PySem.Calls PyProof.Rows
set_option Elab.async false
set_option maxRecDepth 100000
set_option maxHeartbeats 8000000
namespace Mine

theorem Fo.deep_app : ∀ a b : Fo, (a.app b).deep = max a.deep b.deep
  | .nil, _ => by simp [Fo.app, Fo.deep]
  | .cons k r, b => by simp only [Fo.app, Fo.deep, Fo.deep_app r b]; omega
theorem Fo.app_assoc : ∀ a b c : Fo, (a.app b).app c = a.app (b.app c)
  | .nil, _, _ => rfl
  | .cons k r, b, c => by simp only [Fo.app, Fo.app_assoc r b c]
theorem Fo.app_nil : ∀ a : Fo, a.app .nil = a
  | .nil => rfl
  | .cons k r => by simp only [Fo.app, Fo.app_nil r]
theorem trees_le {news : Led} {vs : List Value} {f : Fo} (h : TreesIn news vs f) : vs.length ≤ f.size := by
  induction h with
  | nil => exact Nat.le_refl _
  | cons _ _ _ _ ih => simp only [List.length_cons, Fo.size]; omega
theorem tab_fields {P : Addr} {l c : Nat} {q : Str} {tab : Led} (hT : TabAt P l c q tab) : ∀ p ∈ tab, ∃ vs, p.2.data = .fields vs := by
  rcases hT with rfl | ⟨c', oc, vs, tq, rfl, hd, _⟩
  · intro p hp
    rw [List.mem_singleton.mp hp]
    exact ⟨_, rfl⟩
  · intro p hp
    rcases List.mem_cons.mp hp with rfl | hp
    · exact ⟨_, rfl⟩
    · rw [List.mem_singleton.mp hp]
      exact ⟨_, hd⟩
theorem ne_list {o : Obj} {l : List Value} {n : Nat} {vs : Array Value} (h : o.data = .fields vs) : o ≠ W.listOf l.toArray n := fun e => by
  rw [e] at h
  cases h
theorem ne_list2 {o : Obj} {l : List Value} {n : Nat} (h : o.cls = .type "tuple") : o ≠ W.listOf l.toArray n := fun e => by
  rw [e] at h
  have e1 : Value.type "list" = Value.type "tuple" := h
  simp at e1
theorem news_pull {h₀ h : Heap} {L : Addr} {c1 c2 p3 p4 p5 p6 : Addr × Obj} {R : Led} (N : News h₀ L h (c1 :: c2 :: R)) (h3 : p3 ∈ R) (h4 : p4 ∈ R) (h5 : p5 ∈ R) (h6 : p6 ∈ R) : News h₀ L h (c2 :: p3 :: p4 :: p5 :: p6 :: c1 :: R) := news_perm N fun p hp => by
  simp only [List.mem_cons] at hp ⊢
  rcases hp with h | h | h | h | h | h | h
  · exact .inr (.inl h)
  · exact .inr (.inr (h ▸ h3))
  · exact .inr (.inr (h ▸ h4))
  · exact .inr (.inr (h ▸ h5))
  · exact .inr (.inr (h ▸ h6))
  · exact .inl h
  · exact .inr (.inr h)
theorem news_unpull {h₀ h : Heap} {L : Addr} {c1 c2 p3 p4 p5 p6 : Addr × Obj} {R : Led} (N : News h₀ L h (c2 :: p3 :: p4 :: p5 :: p6 :: c1 :: R)) : News h₀ L h (c1 :: c2 :: R) := news_perm N fun p hp => by
  simp only [List.mem_cons] at hp ⊢
  rcases hp with h | h | h
  · simp [h]
  · simp [h]
  · simp [h]
section
variable {prog : Program} {w : World} {A : Around} {E : Value → Shared → Prop} {Q : Flow → Shared → Prop} {s : Shared} {env : Env} {h₀ : Heap} {L : Addr}
def StepF (h₀ : Heap) (L : Addr) (m : Str → Option Value) (s : Shared) (J : Nat → Led → Prop) (n : Nat) (f : Flow) (s₃ : Shared) : Prop :=
  f = .next ∧ ∃ h' tk news₂ n', s₃ = { s with heap := h', toks := tk } ∧ Fr h₀ L h' m ∧ News h₀ L h' news₂ ∧ n' < n ∧ J n' news₂
theorem While_fixed {test : Expr} {body : List Stmt} {pos : Pos} {m : Str → Option Value} {news : Led} (J : Nat → Led → Prop) {n₀ : Nat}
    (F : Fr h₀ L s.heap m) (N : News h₀ L s.heap news) (hE : PassesOwn (model prog w) A env E) (hJ : J n₀ news)
    (turn : ∀ n news₁ h₁ tk₁, Fr h₀ L h₁ m → News h₀ L h₁ news₁ → J n news₁ →
      wpAny (model prog w) A (isTrue test env (eval test env)) (fun b s₂ =>
        if b = true then wpAny (model prog w) A (execs body env) (StepF h₀ L m s J n) E s₂ else Q .next s₂) E { s with heap := h₁, toks := tk₁ }) :
    wpAny (model prog w) A (exec (.While test body [] pos) env) Q E s := by
  refine While_inv (fun n m₁ nw => m₁ = m ∧ J n nw) F N ⟨rfl, hJ⟩ (fun n m₁ nw h₁ tk₁ F₁ N₁ J₁ => ?_) hE
  obtain ⟨rfl, J₁⟩ := J₁
  refine wpAny_mono (turn n nw h₁ tk₁ F₁ N₁ J₁) (fun b s₂ h₂ => ?_) fun _ _ x => x
  split
  · rename_i hb
    rw [if_pos hb] at h₂
    refine wpAny_mono h₂ (fun f s₃ h₃ => ?_) fun _ _ x => x
    obtain ⟨rfl, h', tk, nw₂, n', rfl, F₂, N₂, hn, J₂⟩ := h₃
    exact ⟨rfl, h', tk, _, nw₂, n', rfl, F₂, N₂, hn, rfl, J₂⟩
  · rename_i hb
    rw [if_neg hb] at h₂
    exact h₂
end
section
local macro_rules | `(tactic| k_steps) => `(tactic| repeat' ((fail_if_success (with_reducible show wpAny _ _ (call (Value.ref 29) _) _ _ _)); (fail_if_success (with_reducible show wpAny _ _ (call (Value.ref 43) _) _ _ _)); (fail_if_success (with_reducible show wpAny _ _ (exec (Stmt.While _ _ _ _) _) _ _ _)); (fail_if_success (with_reducible show wpAny _ _ (call (Value.type "tuple") _) _ _ _)); first | (k_unfold; (try dsimp only)) | (k_end; wrow_close) | walk1 | (dsimp only; walk1) | (dsimp only [List.cons_append, List.nil_append]; walk1) | (leave1; walk_say "STEP leave1"; try dsimp only) | fail "no step"))
local macro_rules | `(tactic| k_all) => `(tactic| assumption)
local macro_rules | `(tactic| size_fits) => `(tactic| ((try simp only [List.size_toArray, List.length_append, List.length_cons, List.length_nil, List.push_toArray]); (have hsz9 := sizeLine_eq); omega))
local macro_rules | `(tactic| ktr_enter) => `(tactic| (k_dflt (refine' code_def ?k1 ?k2 ?k3 ?k4 ?k5 ?kA ?kF ?kK ?k6 ?k7 ?k8 ?k9 ?kB ?_ ?c2 ?c3 ?c4 ?c5; (case kA => assumption); (case kF => assumption); (case kK => assumption); (case k1 => k_asm); (case k2 => k_asm); (case k3 => k_asm); (case k4 => k_asm); (case k5 => k_asm); (case k6 => k_is); (case k7 => k_is); (case k8 => (simp only [recursionLimit]; omega)); (case k9 => exact BindsTo.of_eq rfl); (case c5 => decide); (case kB => exact locs rfl); (case c2 => exact rfl); (case c3 => exact rfl); (case c4 => exact rfl); k_whole; intro g' L' h' FG' F' N' B' X' T'; (try dsimp only); (try k_fold))))
local macro_rules | `(tactic| k_room) => `(tactic| (simp only [depth_mark, depth_under_make, depth_under_kw, depth_in1, depth_deeper, depth_caller, recursionLimit]; omega))
local macro_rules | `(tactic| k_enter) => `(tactic| first
  | (refine' code_def ?k1 ?k2 ?k3 ?k4 ?k5 ?kA ?kF ?kK ?k6 ?k7 ?k8 ?k9 ?kB ?_ ?c2 ?c3 ?c4 ?c5; (case kA => first | assumption | exact Around.frames_deeper (by assumption) | exact Around.frames_deeper (Around.frames_deeper (by assumption)) | exact Around.frames_deeper (Around.frames_deeper (Around.frames_deeper (by assumption))) | exact Around.frames_deeper (Around.frames_deeper (Around.frames_deeper (Around.frames_deeper (by assumption))))); (case kF => first | assumption | exact rfl); (case kK => first | assumption | exact rfl); (case k1 => k_asm); (case k2 => k_asm); (case k3 => k_asm); (case k4 => k_asm); (case k5 => k_asm); (case k6 => k_is); (case k7 => k_is); (case k8 => k_room); (case k9 => first | exact BindsTo.of_eq rfl | exact binds_K (by k_in) rfl (by k_is) rfl rfl rfl | fail "k_enter: no rule for these arguments"); (case c5 => decide); (case kB => exact locs rfl); (case c2 => exact rfl); (case c3 => exact rfl); (case c4 => exact rfl); k_whole; intro g' L' h' FG' F' N' B' X' T'; (try dsimp only); (try k_lift B'); (try k_fold))
  | (refine' code_defC ?k1 ?k2 ?k3 ?k4 ?k5 ?kA ?kF ?kK ?k6 ?k7 ?k8 ?k9 ?kB ?kD ?_ ?c2 ?c3 ?c4; (case kA => first | assumption | exact Around.frames_deeper (by assumption) | exact Around.frames_deeper (Around.frames_deeper (by assumption))); (case kF => first | assumption | exact rfl); (case kK => first | assumption | exact rfl); (case k1 => k_asm); (case k2 => k_asm); (case k3 => k_asm); (case k4 => k_asm); (case k5 => k_asm); (case k6 => k_is); (case k7 => k_is); (case k8 => k_room); (case k9 => first | exact BindsTo.of_eq rfl | exact binds_K (by k_in) rfl (by k_is) rfl rfl rfl | fail "k_enter: no rule for these arguments"); (case kB => exact rfl); (case kD => decide +kernel); (case c2 => exact rfl); (case c3 => exact rfl); (case c4 => exact rfl); k_whole; intro g' L' h' tk' cells' FG' F' N' Y' B' X' T' l1; (try k_lt l1); k_cells Y'; (try simp only [List.cons_append, List.nil_append] at N'); (try dsimp only); (try k_lift B'); (try k_fold)))


theorem body_step (w : World) (p : Program) (loose : List Str) (mean : ExcName → Option Value) (mg mb : Str → Option Value) (fo : Fo) (hsz : fo.size ≤ 1000) (SC : ∀ k : Fo, k.size < fo.size → StmtCon w p loose mean mg mb k) : BodyCon w p loose mean mg mb fo := by
  unfold BodyCon
  have VC := verb_con w p loose mean mg mb _ _ (in_IF w)
  k_fill
  w_on
  intro A env outer A₀ base h₀ L m tab rest cs s r dr tl nd c toks nt ws k₁ k₂ k₃ it i k tk z more Q E hA hf hke hh hd B F X T hC N hT hTn S hCh hcs hws hzv hok hbad
  obtain ⟨R0, hR0⟩ : ∃ R0 : Led, R0 = tab ++ rest := ⟨_, rfl⟩
  rw [← hR0] at N
  refine wpAny_call ?_
  w_strict k_enter
  w_strict k_steps
  rename Fr _ _ _ _ => F2
  rename Fr h₀ L _ m => FG2
  rename News _ _ _ _ => N2
  rename Below _ _ _ _ => B2
  rename Frag.In _ _ => X2
  rename Top _ _ _ _ _ _ => T2
  rename_i tk0 g1 L1 x1 D h9 lD h10
  have hDdr : D ≠ dr := Nat.ne_of_gt lD.1
  obtain ⟨m0, hm0⟩ : ∃ m0 : Str → Option Value, m0 = fun _ => none := ⟨_, rfl⟩
  refine While_fixed (n₀ := fo.size) (fun n nw => ∃ done rem vs cap tab' new it', fo = Fo.app done rem ∧ n = rem.size ∧ TreesIn new vs done ∧ (done.deep = 0 ∨ k + done.deep ≤ 13) ∧ nw = (D, W.listOf vs.toArray cap) :: (dr, rdD w.params k₁ k₂ k₃ tl (i + done.words.length : Nat) it' nd) :: (tab' ++ (new ++ rest)) ∧ Tab38 tab' ∧ (∀ q ∈ tab', q.1 ≠ dr) ∧ (∀ q ∈ new, q.2.cls = .type "tuple")) F2 N2 PassesOwn.leaving ⟨.nil, fo, [], 0, tab, [], it, rfl, rfl, .nil, .inl rfl, by subst hR0; rfl, hT, hTn, fun _ h => nomatch h⟩ ?_
  rintro n nw h3 tk3 F3 N3 ⟨done, rem, vs, cap, tab', new, it3, hfo, hn, htr, hdp, rfl, hT', hTn', hnew⟩
  have hwi : ws.drop (i + done.words.length) = rem.words ++ z :: more := by
    rw [← List.drop_drop, hws, hfo, Fo.words_app, List.append_assoc, List.drop_left]
  have hvl : vs.length ≤ 1000 := by
    have h1 := trees_le htr
    have h2 := Fo.size_app done rem
    rw [← hfo] at h2
    omega
  have hR1n : ∀ q ∈ tab' ++ (new ++ rest), q.1 ≠ dr := fun q hq => by
    rcases List.mem_append.mp hq with h | h
    · exact hTn' q h
    · rcases List.mem_append.mp h with h | h
      · refine news_ne N3 (o := q.2) (List.mem_cons_of_mem _ (List.mem_cons_of_mem _ (List.mem_append_right _ (List.mem_append_left _ h)))) (List.mem_cons_of_mem _ (List.mem_cons_self ..)) (ne_cls ?_)
        rw [hnew q h]
        intro e; have e1 : Value.type "tuple" = Value.type "dict" := e; simp at e1
      · exact S.ne q h
  have up : ∀ {q : Addr × Obj}, q ∈ rest → q ∈ tab' ++ (new ++ rest) := fun h => List.mem_append_right _ (List.mem_append_right _ h)
  cases rem with
  | nil =>
    have hx : ws[i + done.words.length]? = some z := by
      have := List.getElem?_drop (xs := ws) (i := i + done.words.length) (j := 0)
      rw [hwi] at this
      simpa [Fo.words] using this.symm
    obtain ⟨a, d, c₁, c₂, c₃, c₄, u, t, htok, ha, hdd⟩ := sig_tok S hx
    replace N3 := news_pull N3 (up S.rd) (up S.tl) (up ha) (up hdd)
    obtain ⟨R1, hR1⟩ : ∃ R1 : Led, R1 = tab' ++ (new ++ rest) := ⟨_, rfl⟩
    rw [← hR1] at N3 hR1n
    clear F2 N2
    w_strict k_steps
    refine verb_con w p loose mean mg mb _ _ (in_verbs w z false hzv) _ _ _ _ _ _ _ _ _ _ _ _ _ _ _ _ _ _ _ _ _ _ _ _ _ _ _ _ _ _ _ (Around.frames_deeper hA) rfl rfl (by show A.depth + 1 < 880; omega) B2 F3 X2 T2 N3 S.len htok ?_
    intro h4 tk4 F4 N4
    replace N4 := news_unpull N4
    clear F3 N3
    (try dsimp only)
    w_strict k_steps
    rename Fr _ _ _ _ => F5
    rename News _ _ _ _ => N5
    refine tuple_ofL F5 N5 (News.isList N5 (.head _)) ?_ (by rw [sizeLine_eq]; omega)
    intro t5 h5 F6 N6 k6
    clear F5 N5
    (try dsimp only)
    w_strict k_steps
    rename Fr _ _ _ _ => F7
    rename News _ _ _ _ => N7
    rw [Fo.app_nil] at hfo
    subst hfo
    refine hok hdp t5 vs 0 tab' ((t5, tupOf vs 0) :: new) it3 _ _ F7 (news_perm N7 fun q hq => ?_) hT' hTn' (fun q hq => ?_) (.head _) (htr.mono fun q hq => .tail _ hq)
    · rw [hR1]
      simp only [List.cons_append, List.mem_cons, List.mem_append] at hq ⊢
      rcases hq with h | h | h | h | h
      · exact .inr (.inr (.inl h))
      · exact .inr (.inr (.inr (.inl h)))
      · exact .inl h
      · exact .inr (.inr (.inr (.inr (.inl h))))
      · exact .inr (.inr (.inr (.inr (.inr h))))
    · rcases List.mem_cons.mp hq with h | h
      · rw [h]
      · exact hnew q h
  | cons k1 r1 =>
    have hx : ws[i + done.words.length]? = some (Str.ofString "IF") := by
      have := List.getElem?_drop (xs := ws) (i := i + done.words.length) (j := 0)
      rw [hwi] at this
      simpa [Fo.words] using this.symm
    obtain ⟨a, d, c₁, c₂, c₃, c₄, u, t, htok, ha, hdd⟩ := sig_tok S hx
    replace N3 := news_pull N3 (up S.rd) (up S.tl) (up ha) (up hdd)
    obtain ⟨R1, hR1⟩ : ∃ R1 : Led, R1 = tab' ++ (new ++ rest) := ⟨_, rfl⟩
    rw [← hR1] at N3
    clear F2 N2
    w_strict k_steps
    refine VC _ _ _ _ _ _ _ _ _ _ _ _ _ _ _ _ _ _ _ _ _ _ _ _ _ _ _ _ _ _ _ (Around.frames_deeper hA) rfl rfl (by show A.depth + 1 < 880; omega) B2 F3 X2 T2 N3 S.len htok ?_
    intro h4 tk4 F4 N4
    replace N4 := news_unpull N4
    clear F3 N3
    (try dsimp only)
    w_strict k_steps
    have hfd : fo.deep = max done.deep (max (k1.deep + 1) r1.deep) := by rw [hfo, Fo.deep_app]; rfl
    have hfs : fo.size = done.size + (k1.size + r1.size + 1) := by rw [hfo, Fo.size_app]; rfl
    obtain ⟨ps, h38⟩ := tab_head hT'
    have nD38 : D ≠ 38 := news_ne N4 (o := W.listOf vs.toArray cap) (o' := tabObj ps) (.head _) (by rw [hR1]; exact .tail _ (.tail _ (List.mem_append_left _ h38))) (fun e => by
      have e1 : Value.type "list" = Value.none := congrArg Obj.cls e
      cases e1)
    have subn : ∀ q ∈ rest, q ∈ (D, W.listOf vs.toArray cap) :: (new ++ rest) := fun q hq => .tail _ (List.mem_append_right _ hq)
    have Sb : Sig w.params ((D, W.listOf vs.toArray cap) :: (new ++ rest)) r dr tl toks nt ws := ⟨subn _ S.rd, subn _ S.tl, S.tk.mono subn, S.len, fun q hq => by
        rcases List.mem_cons.mp hq with h | h
        · rw [h]; exact hDdr
        · exact hR1n q (List.mem_append_right _ h), fun q hq => by
        rcases List.mem_cons.mp hq with h | h
        · rw [h]; exact nD38
        · rcases List.mem_append.mp h with h | h
          · refine news_ne N4 (o := q.2) (o' := tabObj ps) (by rw [hR1]; exact .tail _ (.tail _ (List.mem_append_right _ (List.mem_append_left _ h)))) (by rw [hR1]; exact .tail _ (.tail _ (List.mem_append_left _ h38))) (fun e => ?_)
            have e1 := hnew q h
            rw [e] at e1
            cases e1
          · exact S.n38 q h⟩
    have N5 := news_perm (b := (dr, rdD w.params k₁ k₂ k₃ tl (i + done.words.length : Nat) it3 nd) :: (tab' ++ ((D, W.listOf vs.toArray cap) :: (new ++ rest)))) N4 (fun q hq => by
      rw [hR1]
      simp only [List.mem_cons, List.mem_append] at hq ⊢
      rcases hq with h | h | h | h
      · exact .inr (.inl h)
      · exact .inr (.inr (.inl h))
      · exact .inl h
      · exact .inr (.inr (.inr h)))
    refine SC k1 (by omega) _ _ _ _ _ _ _ _ _ _ _ _ _ _ _ _ _ _ _ _ _ _ _ _ (i + done.words.length) k _ (r1.words ++ z :: more) _ _ (Around.frames_deeper hA) rfl rfl hh (by show A.depth + 1 + 6 * k1.deep + 5 < 700; omega) B2 F4 X2 T2 hC N5 hT' hTn' Sb hCh (fun q hq => subn _ (hcs q hq)) (by rw [hwi]; simp [Fo.words]) ?_ ?_
    · intro hk1 v vs1 n1 tab1 new1 it5 h5 tk5 F5 N6 hT1 hTn1 hnew1 ht1 htr1
      obtain ⟨R2, hR2⟩ : ∃ R2 : Led, R2 = (dr, rdD w.params k₁ k₂ k₃ tl (i + done.words.length + (k1.words.length + 2) : Nat) it5 nd) :: (tab1 ++ ((new1 ++ new) ++ rest)) := ⟨_, rfl⟩
      have hRD : ∀ q ∈ R2, q.1 ≠ D := fun q hq => by
        rw [hR2] at hq
        have hDm : (D, W.listOf vs.toArray cap) ∈ (dr, rdD w.params k₁ k₂ k₃ tl (i + done.words.length + (k1.words.length + 2) : Nat) it5 nd) :: (tab1 ++ (new1 ++ ((D, W.listOf vs.toArray cap) :: (new ++ rest)))) := .tail _ (List.mem_append_right _ (List.mem_append_right _ (.head _)))
        rcases List.mem_cons.mp hq with h | h
        · rw [h]; exact Ne.symm hDdr
        · rcases List.mem_append.mp h with h | h
          · obtain ⟨vf, hvf⟩ := tab_fields hT1 q h
            exact news_ne N6 (o := q.2) (.tail _ (List.mem_append_left _ h)) hDm (ne_list hvf)
          · rcases List.mem_append.mp h with h | h
            · rcases List.mem_append.mp h with h | h
              · exact news_ne N6 (o := q.2) (.tail _ (List.mem_append_right _ (List.mem_append_left _ h))) hDm (ne_list2 (hnew1 q h))
              · exact news_ne N6 (o := q.2) (.tail _ (List.mem_append_right _ (List.mem_append_right _ (.tail _ (List.mem_append_left _ h))))) hDm (ne_list2 (hnew q h))
            · exact Nat.ne_of_lt (allLt_mem lD.2 q (by rw [hR0]; exact List.mem_append_right _ h))
      have N7 := news_perm (b := (D, W.listOf vs.toArray cap) :: R2) N6 (fun q hq => by
        rw [hR2] at hq
        simp only [List.mem_cons, List.mem_append] at hq ⊢
        rcases hq with h | h | h | (h | h) | h
        · exact .inr (.inr (.inr (.inl h)))
        · exact .inl h
        · exact .inr (.inl h)
        · exact .inr (.inr (.inl h))
        · exact .inr (.inr (.inr (.inr (.inl h))))
        · exact .inr (.inr (.inr (.inr (.inr h)))))
      clear N6 N5 N4 F4
      (try dsimp only)
      w_strict k_steps
      rename Fr _ _ _ _ => F9
      rename News _ _ _ _ => N9
      rw [List.push_toArray] at N9
      have hda : (done.app (.cons k1 .nil)).deep = max done.deep (max (k1.deep + 1) 0) := by rw [Fo.deep_app]; rfl
      have hwa : (done.app (.cons k1 .nil)).words.length = done.words.length + (k1.words.length + 2) := by rw [Fo.words_app]; simp [Fo.words]
      refine (fun (key : ∀ c9, News g1 L1 _ ((D, W.listOf (vs ++ [Value.ref v]).toArray c9) :: R2) → _) => key _ N9) ?_
      intro c9 N10
      refine ⟨rfl, _, _, (D, W.listOf (vs ++ [Value.ref v]).toArray c9) :: R2, r1.size, rfl, F9, N10, by rw [hn]; simp [Fo.size]; omega, done.app (.cons k1 .nil), r1, vs ++ [Value.ref v], c9, tab1, new1 ++ new, it5, ?_, rfl, ?_, by omega, ?_, hT1, hTn1, ?_⟩
      · rw [hfo, Fo.app_assoc]; rfl
      · exact (htr.mono fun q hq => List.mem_append_right _ hq).app (.cons (List.mem_append_left _ ht1) (htr1.mono fun q hq => List.mem_append_left _ hq) .nil)
      · rw [hR2, hwa, Nat.add_assoc]
      · intro q hq
        rcases List.mem_append.mp hq with h | h
        · exact hnew1 q h
        · exact hnew q h
    · intro hk1 e g tab1 h5 tk5 F5 R5 hsm5 hT1
      k_unfold
      refine leave_on B2 rfl F5 R5 hsm5 fun h6 R6 hsm6 => ?_
      refine hbad (by omega) e _ tab1 h6 _ FG2 (raised_sub R6 (fun q hq => ?_)) hsm6 hT1
      simp only [List.mem_cons, List.mem_append] at hq ⊢
      rcases hq with h | h
      · exact .inl h
      · exact .inr (.inr (.inr h))
end
end Mine
end

section
open PySem PySem.W PySem.Spec PySem.Calls PyProof.Rows
set_option Elab.async false
set_option maxRecDepth 100000
set_option maxHeartbeats 8000000
namespace Mine

theorem body_all (w : World) (p : Program) (loose : List Str) (mean : ExcName → Option Value) (mg mb : Str → Option Value) (fo : Fo) (hz : fo.size ≤ 1000) : BodyCon w p loose mean mg mb fo := by
  have all : ∀ n, ∀ f : Fo, f.size < n → f.size ≤ 1000 → BodyCon w p loose mean mg mb f := by
    intro n
    induction n with
    | zero => intro f h; exact absurd h (Nat.not_lt_zero _)
    | succ n ih => exact fun f h hf => body_step w p loose mean mg mb f hf fun k hk => stmt_con w p loose mean mg mb k (one_con w p loose mean mg mb k (ih k (by omega) (by omega)))
  exact all _ fo (Nat.lt_succ_self _) hz
theorem stmt_all (w : World) (p : Program) (loose : List Str) (mean : ExcName → Option Value) (mg mb : Str → Option Value) (fo : Fo) (hz : fo.size ≤ 1000) : StmtCon w p loose mean mg mb fo :=
  stmt_con w p loose mean mg mb fo (one_con w p loose mean mg mb fo (body_all w p loose mean mg mb fo hz))
end Mine
end

section
open PySem PySem.W PySem.Spec PySem.Calls PyProof.Rows
set_option Elab.async false
set_option maxRecDepth 100000
set_option maxHeartbeats 8000000
namespace Mine
section
local macro_rules | `(tactic| k_steps) => `(tactic| repeat' (first | (k_unfold; (try dsimp only)) | (k_end; wrow_close) | walk1 | (dsimp only; walk1) | (dsimp only [List.cons_append, List.nil_append]; walk1) | (leave1; walk_say "STEP leave1"; try dsimp only) | fail "no step"))
local macro_rules | `(tactic| k_all) => `(tactic| assumption)
local macro_rules | `(tactic| size_fits) => `(tactic| ((try simp only [List.size_toArray, List.length_append, List.length_cons, List.length_nil, List.push_toArray]); (have hsz9 := sizeLine_eq); omega))
local macro_rules | `(tactic| ktr_enter) => `(tactic| (k_dflt (refine' code_def ?k1 ?k2 ?k3 ?k4 ?k5 ?kA ?kF ?kK ?k6 ?k7 ?k8 ?k9 ?kB ?_ ?c2 ?c3 ?c4 ?c5; (case kA => assumption); (case kF => assumption); (case kK => assumption); (case k1 => k_asm); (case k2 => k_asm); (case k3 => k_asm); (case k4 => k_asm); (case k5 => k_asm); (case k6 => k_is); (case k7 => k_is); (case k8 => (simp only [recursionLimit]; omega)); (case k9 => exact BindsTo.of_eq rfl); (case c5 => decide); (case kB => exact locs rfl); (case c2 => exact rfl); (case c3 => exact rfl); (case c4 => exact rfl); k_whole; intro g' L' h' FG' F' N' B' X' T'; (try dsimp only); (try k_fold))))
local macro_rules | `(tactic| k_room) => `(tactic| (simp only [depth_mark, depth_under_make, depth_under_kw, depth_in1, depth_deeper, depth_caller, recursionLimit]; omega))
local macro_rules | `(tactic| k_enter) => `(tactic| first
  | (refine' code_def ?k1 ?k2 ?k3 ?k4 ?k5 ?kA ?kF ?kK ?k6 ?k7 ?k8 ?k9 ?kB ?_ ?c2 ?c3 ?c4 ?c5; (case kA => first | assumption | exact Around.frames_deeper (by assumption) | exact Around.frames_deeper (Around.frames_deeper (by assumption)) | exact Around.frames_deeper (Around.frames_deeper (Around.frames_deeper (by assumption))) | exact Around.frames_deeper (Around.frames_deeper (Around.frames_deeper (Around.frames_deeper (by assumption))))); (case kF => first | assumption | exact rfl); (case kK => first | assumption | exact rfl); (case k1 => k_asm); (case k2 => k_asm); (case k3 => k_asm); (case k4 => k_asm); (case k5 => k_asm); (case k6 => k_is); (case k7 => k_is); (case k8 => k_room); (case k9 => first | exact BindsTo.of_eq rfl | exact binds_K (by k_in) rfl (by k_is) rfl rfl rfl | fail "k_enter: no rule for these arguments"); (case c5 => decide); (case kB => exact locs rfl); (case c2 => exact rfl); (case c3 => exact rfl); (case c4 => exact rfl); k_whole; intro g' L' h' FG' F' N' B' X' T'; (try dsimp only); (try k_lift B'); (try k_fold))
  | (refine' code_defC ?k1 ?k2 ?k3 ?k4 ?k5 ?kA ?kF ?kK ?k6 ?k7 ?k8 ?k9 ?kB ?kD ?_ ?c2 ?c3 ?c4; (case kA => first | assumption | exact Around.frames_deeper (by assumption) | exact Around.frames_deeper (Around.frames_deeper (by assumption))); (case kF => first | assumption | exact rfl); (case kK => first | assumption | exact rfl); (case k1 => k_asm); (case k2 => k_asm); (case k3 => k_asm); (case k4 => k_asm); (case k5 => k_asm); (case k6 => k_is); (case k7 => k_is); (case k8 => k_room); (case k9 => first | exact BindsTo.of_eq rfl | exact binds_K (by k_in) rfl (by k_is) rfl rfl rfl | fail "k_enter: no rule for these arguments"); (case kB => exact rfl); (case kD => decide +kernel); (case c2 => exact rfl); (case c3 => exact rfl); (case c4 => exact rfl); k_whole; intro g' L' h' tk' cells' FG' F' N' Y' B' X' T' l1; (try k_lt l1); k_cells Y'; (try simp only [List.cons_append, List.nil_append] at N'); (try dsimp only); (try k_lift B'); (try k_fold)))


abbrev verbParams (p1 : Pos) : Arguments := { posonlyargs := [], args := [{ arg := "verb", annotation := none, pos := p1 }], vararg := none, kwonlyargs := [], kw_defaults := [], kwarg := none, defaults := [] }
abbrev verbScope : Scope := { kind := .function, names := [("verb", .local), ("_law_one", .globalImplicit)], isGenerator := false, isCoroutine := false }
abbrev verbFn (q : Str) (p1 p2 : Pos) (pm : Value) (c' : Addr) (ctv : Value) : Obj := kla_obj "<lambda>" q (verbParams p1) (.Name "_law_one" p2) verbScope [] pm c' ctv
theorem ch_con (w : World) (p : Program) (loose : List Str) (mean : ExcName → Option Value) (mg mb : Str → Option Value) {q : Str} {p1 p2 : Pos} {c c' : Addr} {pm ctv : Value} {oc : Obj} {vs : Array Value} {tq : Tok} {cs : Led}
    (hd : oc.data = .fields vs) (hv : vs[1]? = some (.str q tq)) (h1 : (c, verbFn q p1 p2 pm c' ctv) ∈ cs) (h2 : (c', oc) ∈ cs) : ChCon w p loose mean mg mb c cs := by
  unfold ChCon
  refine ⟨⟨_, _, _, _, h1⟩, ?_⟩
  k_fill
  w_on
  intro A env outer A₀ base h₀ L m rest s v Q E hA hf hke hh hdp B F X N T hcs hQ
  refine wpAny_call ?_
  refine kla_code B F X N T hA hf hke (hcs _ h1) (codeRec_news N (hcs _ h2) hd hv) (by simp only [recursionLimit]; omega) rfl (locs rfl) ?_ rfl rfl rfl (by decide)
  intro g4 L4 h4 FG4 F4 N4 B4 X4 T4
  (try dsimp only)
  (try k_lift B4)
  (try k_fold)
  w_strict k_steps
  rename_i kF kN _ _
  exact hQ _ _ kF kN
end
end Mine
end

section
open PySem PySem.W PySem.Spec PySem.Calls PyProof.Rows
set_option Elab.async false
set_option maxRecDepth 100000
set_option maxHeartbeats 8000000
namespace Mine
section
local macro_rules | `(tactic| k_steps) => `(tactic| repeat' ((fail_if_success (with_reducible show wpAny _ _ (call (Value.ref 318) _) _ _ _)); (fail_if_success (with_reducible show wpAny _ _ (call (Value.ref 36) _) _ _ _)); (fail_if_success (with_reducible show wpAny _ _ (binaryOp Operator.Add (Value.ref _) (Value.ref _)) _ _ _)); (fail_if_success (with_reducible show wpAny _ _ (eval (Expr.Lambda _ _ _ _) _) _ _ _)); first | (k_unfold; (try dsimp only)) | (k_end; wrow_close) | walk1 | (dsimp only; walk1) | (dsimp only [List.cons_append, List.nil_append]; walk1) | (leave1; walk_say "STEP leave1"; try dsimp only) | fail "no step"))
local macro_rules | `(tactic| k_all) => `(tactic| assumption)
local macro_rules | `(tactic| size_fits) => `(tactic| ((try simp only [List.size_toArray, List.length_append, List.length_cons, List.length_nil, List.push_toArray]); (have hsz9 := sizeLine_eq); omega))
local macro_rules | `(tactic| ktr_enter) => `(tactic| (k_dflt (refine' code_def ?k1 ?k2 ?k3 ?k4 ?k5 ?kA ?kF ?kK ?k6 ?k7 ?k8 ?k9 ?kB ?_ ?c2 ?c3 ?c4 ?c5; (case kA => assumption); (case kF => assumption); (case kK => assumption); (case k1 => k_asm); (case k2 => k_asm); (case k3 => k_asm); (case k4 => k_asm); (case k5 => k_asm); (case k6 => k_is); (case k7 => k_is); (case k8 => (simp only [recursionLimit]; omega)); (case k9 => exact BindsTo.of_eq rfl); (case c5 => decide); (case kB => exact locs rfl); (case c2 => exact rfl); (case c3 => exact rfl); (case c4 => exact rfl); k_whole; intro g' L' h' FG' F' N' B' X' T'; (try dsimp only); (try k_fold))))
local macro_rules | `(tactic| k_room) => `(tactic| (simp only [depth_mark, depth_under_make, depth_under_kw, depth_in1, depth_deeper, depth_caller, recursionLimit]; omega))
local macro_rules | `(tactic| k_enter) => `(tactic| first
  | (refine' code_def ?k1 ?k2 ?k3 ?k4 ?k5 ?kA ?kF ?kK ?k6 ?k7 ?k8 ?k9 ?kB ?_ ?c2 ?c3 ?c4 ?c5; (case kA => first | assumption | exact Around.frames_deeper (by assumption) | exact Around.frames_deeper (Around.frames_deeper (by assumption)) | exact Around.frames_deeper (Around.frames_deeper (Around.frames_deeper (by assumption))) | exact Around.frames_deeper (Around.frames_deeper (Around.frames_deeper (Around.frames_deeper (by assumption))))); (case kF => first | assumption | exact rfl); (case kK => first | assumption | exact rfl); (case k1 => k_asm); (case k2 => k_asm); (case k3 => k_asm); (case k4 => k_asm); (case k5 => k_asm); (case k6 => k_is); (case k7 => k_is); (case k8 => k_room); (case k9 => first | exact BindsTo.of_eq rfl | exact binds_K (by k_in) rfl (by k_is) rfl rfl rfl | fail "k_enter: no rule for these arguments"); (case c5 => decide); (case kB => exact locs rfl); (case c2 => exact rfl); (case c3 => exact rfl); (case c4 => exact rfl); k_whole; intro g' L' h' FG' F' N' B' X' T'; (try dsimp only); (try k_lift B'); (try k_fold))
  | (refine' code_defC ?k1 ?k2 ?k3 ?k4 ?k5 ?kA ?kF ?kK ?k6 ?k7 ?k8 ?k9 ?kB ?kD ?_ ?c2 ?c3 ?c4; (case kA => first | assumption | exact Around.frames_deeper (by assumption) | exact Around.frames_deeper (Around.frames_deeper (by assumption))); (case kF => first | assumption | exact rfl); (case kK => first | assumption | exact rfl); (case k1 => k_asm); (case k2 => k_asm); (case k3 => k_asm); (case k4 => k_asm); (case k5 => k_asm); (case k6 => k_is); (case k7 => k_is); (case k8 => k_room); (case k9 => first | exact BindsTo.of_eq rfl | exact binds_K (by k_in) rfl (by k_is) rfl rfl rfl | fail "k_enter: no rule for these arguments"); (case kB => exact rfl); (case kD => decide +kernel); (case c2 => exact rfl); (case c3 => exact rfl); (case c4 => exact rfl); k_whole; intro g' L' h' tk' cells' FG' F' N' Y' B' X' T' l1; (try k_lt l1); k_cells Y'; (try simp only [List.cons_append, List.nil_append] at N'); (try dsimp only); (try k_lift B'); (try k_fold)))


theorem tab_apart {h₀ h : Heap} {L P1 P2 : Addr} {l1 c1 l2 c2 : Nat} {q1 q2 : Str} {t1 t2 news : Led} (N : News h₀ L h news) (h1 : TabAt P1 l1 c1 q1 t1) (h2 : TabAt P2 l2 c2 q2 t2) (s1 : ∀ p ∈ t1, p ∈ news) (s2 : ∀ p ∈ t2, p ∈ news) (hne : P1 ≠ P2) : ∀ p ∈ t1, p.1 ≠ P2 := by
  have h2' : ∃ ps : Array Value, (P2, tabObj ps) ∈ t2 ∧ ∀ q tq, ps[1]? ≠ some (.str q tq) := by
    rcases h2 with rfl | ⟨c', oc, vs, tq, rfl, _⟩
    · exact ⟨_, .head _, by simp⟩
    · exact ⟨_, .head _, by simp [rawInt]⟩
  obtain ⟨ps, hps, hno⟩ := h2'
  rcases h1 with rfl | ⟨c', oc, vs, tq, rfl, hd, hv⟩
  · intro p hp
    rw [List.mem_singleton.mp hp]
    exact hne
  · intro p hp
    rcases List.mem_cons.mp hp with rfl | hp
    · exact hne
    · rw [List.mem_singleton.mp hp]
      refine news_ne N (o := oc) (o' := tabObj ps) (s1 _ (.tail _ (.head _))) (s2 _ hps) (fun e => ?_)
      rw [e] at hd
      cases hd
      exact hno _ _ hv
abbrev Tab320 : Led → Prop := TabAt 320 159 39 (lamQ (Str.ofString "_law_read"))
def ReadCon (w : World) (p : Program) (loose : List Str) (mean : ExcName → Option Value) (mg mb : Str → Option Value) (fo : Fo) : Prop :=
  ∀ (A : Around) (cn : Str) (cs : Scope) (L a : Addr) (ccd : Value) (A₀ : Around) (h₀ : Heap) (m : Str → Option Value) (tab20 tab38 rest : Led) (s : Shared) (wl : Addr) (n : Nat) (vs : List Value) (k : Nat) (tk : Tok)
    (Q E : Value → Shared → Prop),
    A.frames = some [envOf cn cs L a ccd] → cs.kind = .function → A.handled = none → A.depth < 400 → 
    Below A₀ h₀ [] h₀ → Fr h₀ L s.heap m → (Mine.cap.heap_1 w.params).In h₀ → Top p loose mean mg mb h₀ → CodeHd h₀ 42 38 → CodeHd h₀ 324 320 →
    News h₀ L s.heap (tab20 ++ (tab38 ++ rest)) → Tab320 tab20 → Tab38 tab38 → (∀ p ∈ tab38, p.1 ≠ 320) → (∀ p ∈ tab20, p.1 ≠ 38) → (∀ p ∈ rest, p.1 ≠ 320) → (∀ p ∈ rest, p.1 ≠ 38) →
    (wl, W.listOf vs.toArray n) ∈ rest → StrsAre vs fo.words →
    ((fo.deep = 0 ∨ k + fo.deep ≤ 13) → ∀ q b u ws nb tab20' tab38' new h' tk', Fr h₀ L h' m → News h₀ L h' (tab20' ++ (tab38' ++ (new ++ rest))) → Tab320 tab20' → Tab38 tab38' → (∀ p ∈ tab38', p.1 ≠ 320) → (∀ p ∈ tab20', p.1 ≠ 38) → (∀ p ∈ new, p.2.cls = .type "tuple") →
      (q, tupOf [.ref b, .int (fo.words.length : Nat) u] 0) ∈ new → (b, tupOf ws nb) ∈ new → TreesIn new ws fo → Q (.ref q) { s with heap := h', toks := tk' }) →
    (¬ (fo.deep = 0 ∨ k + fo.deep ≤ 13) → ∀ tab20' tab38' h' tk', Fr h₀ L h' m → News h₀ L h' (tab20' ++ (tab38' ++ rest)) → Tab320 tab20' → Tab38 tab38' → (∀ p ∈ tab38', p.1 ≠ 320) → (∀ p ∈ tab20', p.1 ≠ 38) → Q .none { s with heap := h', toks := tk' }) →
    wpAny (model PySem.Challenge.rw_pb0251_01.row.prog w) A (call (.ref 325) [.ref wl, .int k tk]) Q E s
theorem read_con (w : World) (p : Program) (loose : List Str) (mean : ExcName → Option Value) (mg mb : Str → Option Value) (fo : Fo) (hsz : fo.size ≤ 400) (hdeep : fo.deep ≤ 20) : ReadCon w p loose mean mg mb fo := by
  unfold ReadCon
  have RC := reader_con w p loose mean mg mb
  have BC := body_all w p loose mean mg mb fo (by omega)
  k_fill
  w_on
  intro A cn cs L a ccd A₀ h₀ m tab20 tab38 rest s wl n vs k tk Q E hA hke hh hd B F X T hC hC2 N hT20 hT38 h3820 h2038 hr20 hr38 hwl hvs hok hbad
  have hlen := strsAre_len hvs
  have hwle := Fo.words_length fo
  obtain ⟨R0, hR0⟩ : ∃ R0 : Led, R0 = tab20 ++ (tab38 ++ rest) := ⟨_, rfl⟩
  have N1 : News h₀ L s.heap ((wl, W.listOf vs.toArray n) :: R0) := news_perm N (fun q hq => by
    rw [hR0] at hq
    rcases List.mem_cons.mp hq with h | h
    · rw [h]; exact List.mem_append_right _ (List.mem_append_right _ hwl)
    · exact h)
  refine wpAny_call ?_
  w_strict (refine' code_defS0 ?k1 ?k2 ?k3 ?k4 ?k5 ?kA ?k6 ?k7 ?k8 ?k9 ?kB ?_ ?cK ?c2 ?c3 ?c4 ?c5; (case kA => exact hA); (case k2 => exact F); (case k1 => exact B); (case k3 => exact X); (case k4 => exact N1); (case k5 => exact T); (case k6 => k_is); (case k7 => k_is); (case k8 => (simp only [recursionLimit]; omega)); (case k9 => first | exact binds_K (by k_in) rfl (by k_is) rfl rfl rfl | exact BindsTo.of_eq rfl | fail "kts_go: no rule for these arguments"); (case kB => exact locs rfl); (case cK => exact hke); (case c2 => exact rfl); (case c3 => exact rfl); (case c4 => exact rfl); (case c5 => decide); k_whole; intro g' L' h' FG' F' N' B' X' T' D'; (try dsimp only); (try k_lift B'); (try k_fold))
  w_strict k_steps
  rename Fr g' L' _ _ => F3
  rename News g' L' _ _ => N3
  refine add_lists F3 N3 (vs := vs) (News.isList N3 (.tail _ (.head _))) (News.isList N3 (.head _)) ?_ (by rw [sizeLine_eq]; simp only [List.length_cons, List.length_nil]; omega)
  intro h4 F4 N4
  dsimp only at F4 N4 ⊢
  generalize (Array.size _ : Nat) = wl2 at N4 ⊢
  clear F3 N3
  w_strict k_steps
  rename Below _ _ _ _ => B2
  rename Frag.In _ _ => X2
  rename Top _ _ _ _ _ _ => T2
  refine RC _ _ _ _ _ _ _ _ _ _ _ _ _ (fo.words ++ [Str.ofString "ELSE", Str.ofString "IF"]) _ _ (Around.frames_deeper hA) rfl rfl hh (by show A.depth + 1 < 800; omega) B2 F4 X2 N4 T2 (.head _) (strsAre_app hvs (.cons _ _ (.cons _ _ .nil))) (by simp only [List.length_append, List.length_cons, List.length_nil]; omega) ?_
  intro r dr tl nd toks nt R k₁ k₂ k₃ it h5 tk5 F5 N5 hr htl htok hsub hRn
  clear F4 N4
  (try dsimp only)
  w_strict k_steps
  rename Fr g' L' _ _ => F6
  rename News g' L' _ _ => N6
  have subR : ∀ q ∈ R0, q ∈ R := fun q hq => hsub q (.tail _ (.tail _ (.tail _ hq)))
  obtain ⟨ps38, h38⟩ := tab_head hT38
  obtain ⟨ps20, h20⟩ := tab_head hT20
  have m38 : (38, tabObj ps38) ∈ R := subR _ (by rw [hR0]; exact List.mem_append_right _ (List.mem_append_left _ h38))
  have m20 : (320, tabObj ps20) ∈ R := subR _ (by rw [hR0]; exact List.mem_append_left _ h20)
  obtain ⟨Rf, hRf⟩ : ∃ Rf : Led, Rf = R.filter (fun q => q.1 != 38 && q.1 != 320) := ⟨_, rfl⟩
  have fin : ∀ q ∈ Rf, q ∈ R ∧ q.1 ≠ 38 ∧ q.1 ≠ 320 := fun q hq => by
    rw [hRf, List.mem_filter] at hq
    simpa using hq
  have toF : ∀ q ∈ R, q.1 ≠ 38 → q.1 ≠ 320 → q ∈ Rf := fun q hq h1 h2 => by
    rw [hRf, List.mem_filter]
    exact ⟨hq, by simp [h1, h2]⟩
  have pl : ∀ q ∈ R, q.2.cls ≠ Value.none → q ∈ Rf := fun q hq hc => toF q hq
    (news_ne N6 (o := q.2) (o' := tabObj ps38) (.tail _ hq) (.tail _ m38) (ne_cls hc)) (news_ne N6 (o := q.2) (o' := tabObj ps20) (.tail _ hq) (.tail _ m20) (ne_cls hc))
  have resF : ∀ q ∈ rest, q ∈ Rf := fun q hq => toF q (subR q (by rw [hR0]; exact List.mem_append_right _ (List.mem_append_right _ hq))) (hr38 q hq) (hr20 q hq)
  have hrF := pl _ hr (by intro e; cases e)
  have htlF := pl _ htl (by intro e; cases e)
  have htokF : TokensIn w.params Rf toks (fo.words ++ [Str.ofString "ELSE", Str.ofString "IF"]) := ⟨htok.1, fun i v x e1 e2 => by
    obtain ⟨a, d, k₁, k₂, k₃, k₄, u, t, e, h1, h2⟩ := htok.2 i v x e1 e2
    exact ⟨a, d, k₁, k₂, k₃, k₄, u, t, e, pl _ h1 (by intro e; cases e), pl _ h2 (by intro e; cases e)⟩⟩
  have htl2 : toks.length < 3000 := by
    rw [htok.1]
    simp only [List.length_append, List.length_cons, List.length_nil]; omega
  have ndr20 : dr ≠ 320 := fun e => hRn _ m20 e.symm
  have ndr38 : dr ≠ 38 := fun e => hRn _ m38 e.symm
  have N7 : News g' L' _ ([(dr, rdD w.params k₁ k₂ k₃ tl 0 it nd)] ++ (tab20 ++ (tab38 ++ Rf))) := news_perm N6 (fun q hq => by
    simp only [List.mem_cons, List.mem_append, List.not_mem_nil, or_false] at hq ⊢
    rcases hq with h | h | h | h
    · exact .inl h
    · exact .inr (subR q (by rw [hR0]; exact List.mem_append_left _ h))
    · exact .inr (subR q (by rw [hR0]; exact List.mem_append_right _ (List.mem_append_left _ h)))
    · exact .inr (fin q h).1)
  clear N6
  refine lam_tab (P := 320) (pre := [(dr, rdD w.params k₁ k₂ k₃ tl 0 it nd)]) (tab := tab20) (rest := tab38 ++ Rf) F6 N7 T2 (CodeHd.keeps hC2 B2.stays) hT20 (fun q hq => by rw [List.mem_singleton.mp hq]; exact ndr20) (fun q hq => by
    rcases List.mem_append.mp hq with h | h
    · exact h3820 q h
    · exact (fin q h).2.2) rfl rfl ?_
  intro f c' oc vsc tq ctv h8 tk8 tab20' F8 N8 hT20' hcT hdc hvc hsep hlt
  clear F6 N7
  (try dsimp only)
  w_strict k_steps
  rename Fr g' L' _ _ => F9
  have n20dr : ∀ q ∈ tab20', q.1 ≠ dr := hsep dr ⟨_, .head _⟩ (fun q hq => hRn q (subR q (by rw [hR0]; exact List.mem_append_left _ hq)))
  have n2038 : ∀ q ∈ tab20', q.1 ≠ 38 := hsep 38 ⟨_, List.mem_append_right _ (List.mem_append_right _ (List.mem_append_left _ h38))⟩ h2038
  have hf38 : f ≠ 38 := Nat.ne_of_gt (hlt _ (List.mem_append_right _ (List.mem_append_right _ (List.mem_append_left _ h38))))
  have hfdr : f ≠ dr := Nat.ne_of_gt (hlt _ (.head _))
  obtain ⟨fo', hfo'⟩ : ∃ o : Obj, o = verbFn (lamQ (Str.ofString "_law_read")) { line := 159, col := 46, endLine := 159, endCol := 50 } { line := 159, col := 52, endLine := 159, endCol := 60 } ((mg (Str.ofString "__name__")).getD .none) c' ctv := ⟨_, rfl⟩
  have CC := ch_con w p loose mean mg mb (c := f) (cs := [(f, fo'), (c', oc)]) hdc hvc (by rw [hfo']; exact .head _) (.tail _ (.head _))
  have N10 : News g' L' _ ((dr, rdD w.params k₁ k₂ k₃ tl 0 it nd) :: (tab38 ++ ((f, fo') :: (tab20' ++ Rf)))) := news_perm N8 (fun q hq => by
    simp only [List.cons_append, List.nil_append, List.mem_cons, List.mem_append] at hq ⊢
    rcases hq with h | h | h | h | h
    · exact .inr (.inl h)
    · exact .inr (.inr (.inr (.inl h)))
    · exact .inl (by rw [h, hfo'])
    · exact .inr (.inr (.inl h))
    · exact .inr (.inr (.inr (.inr h))))
  have inF : ∀ q ∈ Rf, q ∈ (f, fo') :: (tab20' ++ Rf) := fun q hq => .tail _ (List.mem_append_right _ hq)
  have Sb : Sig w.params ((f, fo') :: (tab20' ++ Rf)) r dr tl toks nt (fo.words ++ [Str.ofString "ELSE", Str.ofString "IF"]) := ⟨inF _ hrF, inF _ htlF, htokF.mono inF, htl2, fun q hq => by
      rcases List.mem_cons.mp hq with h | h
      · rw [h]; exact hfdr
      · rcases List.mem_append.mp h with h | h
        · exact n20dr q h
        · exact hRn q (fin q h).1, fun q hq => by
      rcases List.mem_cons.mp hq with h | h
      · rw [h]; exact hf38
      · rcases List.mem_append.mp h with h | h
        · exact n2038 q h
        · exact (fin q h).2.1⟩
  refine BC _ _ _ _ _ _ _ _ _ _ _ _ _ _ _ _ _ _ _ _ _ _ _ _ 0 k _ (Str.ofString "ELSE") [Str.ofString "IF"] _ _ (Around.frames_deeper hA) rfl rfl hh (by show A.depth + 1 + 6 * fo.deep < 700; omega) B2 F9 X2 T2 hC N10 hT38 (fun q hq => hRn q (subR q (by rw [hR0]; exact List.mem_append_right _ (List.mem_append_left _ hq)))) Sb CC (fun q hq => by
    rcases List.mem_cons.mp hq with h | h
    · rw [h]; exact .head _
    · rw [List.mem_singleton.mp h]; exact .tail _ (List.mem_append_left _ hcT)) (by simp) rfl ?_ ?_
  · intro hdp t vs1 n1 tab1 new1 it7 h7 tk7 F7 N7 hT1 hTn1 hnew1 ht1 htr1
    clear N10 N8 F9
    rw [Nat.zero_add] at N7
    obtain ⟨R9, hR9⟩ : ∃ R9 : Led, R9 = tab1 ++ (new1 ++ ((f, fo') :: (tab20' ++ Rf))) := ⟨_, rfl⟩
    have N11 : News g' L' h7 ((dr, rdD w.params k₁ k₂ k₃ tl (fo.words.length : Nat) it7 nd) :: (r, instObj 253 dr) :: R9) := news_perm N7 (fun q hq => by
      rw [hR9] at hq
      rcases List.mem_cons.mp hq with h | h
      · rw [h]; exact .head _
      · rcases List.mem_cons.mp h with h | h
        · rw [h]; exact .tail _ (List.mem_append_right _ (List.mem_append_right _ (inF _ hrF)))
        · exact .tail _ h)
    have a1 : ∀ q ∈ tab1, q.1 ≠ 320 := tab_apart N7 hT1 hT20' (fun q hq => .tail _ (List.mem_append_left _ hq)) (fun q hq => .tail _ (List.mem_append_right _ (List.mem_append_right _ (.tail _ (List.mem_append_left _ hq))))) (by decide)
    clear N7
    (try dsimp only)
    w_strict k_steps
    rename Fr h₀ L _ m => F12
    rename News h₀ L _ _ => N12
    rename_i D1 _ _ _ _ _ _
    refine hok hdp D1 t _ vs1 n1 tab20' tab1 ((D1, tupOf [.ref t, .int (fo.words.length : Nat) it7] 0) :: new1) _ _ F12 (news_perm N12 (fun q hq => ?_)) hT20' hT1 a1 n2038 (fun q hq => ?_) (.head _) (.tail _ ht1) (htr1.mono fun q hq => .tail _ hq)
    · rw [hR9]
      simp only [List.cons_append, List.mem_cons, List.mem_append] at hq ⊢
      rcases hq with h | h | h | h | h
      · exact .inr (.inr (.inr (.inr (.inr (.inr (.inl h))))))
      · exact .inr (.inr (.inr (.inl h)))
      · exact .inl h
      · exact .inr (.inr (.inr (.inr (.inl h))))
      · exact .inr (.inr (.inr (.inr (.inr (.inr (.inr (resF q h)))))))
    · rcases List.mem_cons.mp hq with h | h
      · rw [h]
      · exact hnew1 q h
  · intro hdp e g tab1 h7 tk7 F7 R7 hsm7 hT1
    clear N10 N8 F9
    (try dsimp only)
    w_strict k_steps
    rename Fr h₀ L _ m => F12
    rename News h₀ L _ _ => N12
    refine hbad hdp tab20' tab1 _ _ F12 ?_ hT20' hT1 ?_ n2038
    · refine news_perm N12 (fun q hq => ?_)
      rcases List.mem_append.mp hq with h | h
      · exact List.mem_append_right _ (.tail _ (List.mem_append_left _ h))
      · rcases List.mem_append.mp h with h | h
        · exact List.mem_append_left _ h
        · exact List.mem_append_right _ (inF _ (resF q h))
    · exact tab_apart N12 hT1 hT20' (fun q hq => List.mem_append_left _ hq) (fun q hq => List.mem_append_right _ (.tail _ (List.mem_append_left _ hq))) (by decide)
end
end Mine
end

section
open PySem PySem.W PySem.Spec PySem.Calls PyProof.Rows
set_option Elab.async false
set_option maxRecDepth 100000
set_option maxHeartbeats 8000000
namespace Mine
section
local macro_rules | `(tactic| k_steps) => `(tactic| repeat' ((fail_if_success (with_reducible show wpAny _ _ (call (Value.ref 294) _) _ _ _)); (fail_if_success (with_reducible show wpAny _ _ (exec (Stmt.For _ _ _ _ _) _) _ _ _)); (fail_if_success (with_reducible show wpAny _ _ (call (Value.type "tuple") _) _ _ _)); (fail_if_success (with_reducible show wpAny _ _ (call (Value.type "range") _) _ _ _)); first | (k_unfold; (try dsimp only)) | (k_end; wrow_close) | walk1 | (dsimp only; walk1) | (dsimp only [List.cons_append, List.nil_append]; walk1) | (leave1; walk_say "STEP leave1"; try dsimp only) | fail "no step"))
local macro_rules | `(tactic| k_all) => `(tactic| assumption)
local macro_rules | `(tactic| size_fits) => `(tactic| ((try simp only [List.size_toArray, List.length_append, List.length_cons, List.length_nil, List.push_toArray]); (have hsz9 := sizeLine_eq); omega))
local macro_rules | `(tactic| ktr_enter) => `(tactic| (k_dflt (refine' code_def ?k1 ?k2 ?k3 ?k4 ?k5 ?kA ?kF ?kK ?k6 ?k7 ?k8 ?k9 ?kB ?_ ?c2 ?c3 ?c4 ?c5; (case kA => assumption); (case kF => assumption); (case kK => assumption); (case k1 => k_asm); (case k2 => k_asm); (case k3 => k_asm); (case k4 => k_asm); (case k5 => k_asm); (case k6 => k_is); (case k7 => k_is); (case k8 => (simp only [recursionLimit]; omega)); (case k9 => exact BindsTo.of_eq rfl); (case c5 => decide); (case kB => exact locs rfl); (case c2 => exact rfl); (case c3 => exact rfl); (case c4 => exact rfl); k_whole; intro g' L' h' FG' F' N' B' X' T'; (try dsimp only); (try k_fold))))
local macro_rules | `(tactic| k_room) => `(tactic| (simp only [depth_mark, depth_under_make, depth_under_kw, depth_in1, depth_deeper, depth_caller, recursionLimit]; omega))
local macro_rules | `(tactic| k_enter) => `(tactic| first
  | (refine' code_def ?k1 ?k2 ?k3 ?k4 ?k5 ?kA ?kF ?kK ?k6 ?k7 ?k8 ?k9 ?kB ?_ ?c2 ?c3 ?c4 ?c5; (case kA => first | assumption | exact Around.frames_deeper (by assumption) | exact Around.frames_deeper (Around.frames_deeper (by assumption)) | exact Around.frames_deeper (Around.frames_deeper (Around.frames_deeper (by assumption))) | exact Around.frames_deeper (Around.frames_deeper (Around.frames_deeper (Around.frames_deeper (by assumption))))); (case kF => first | assumption | exact rfl); (case kK => first | assumption | exact rfl); (case k1 => k_asm); (case k2 => k_asm); (case k3 => k_asm); (case k4 => k_asm); (case k5 => k_asm); (case k6 => k_is); (case k7 => k_is); (case k8 => k_room); (case k9 => first | exact BindsTo.of_eq rfl | exact binds_K (by k_in) rfl (by k_is) rfl rfl rfl | fail "k_enter: no rule for these arguments"); (case c5 => decide); (case kB => exact locs rfl); (case c2 => exact rfl); (case c3 => exact rfl); (case c4 => exact rfl); k_whole; intro g' L' h' FG' F' N' B' X' T'; (try dsimp only); (try k_lift B'); (try k_fold))
  | (refine' code_defC ?k1 ?k2 ?k3 ?k4 ?k5 ?kA ?kF ?kK ?k6 ?k7 ?k8 ?k9 ?kB ?kD ?_ ?c2 ?c3 ?c4; (case kA => first | assumption | exact Around.frames_deeper (by assumption) | exact Around.frames_deeper (Around.frames_deeper (by assumption))); (case kF => first | assumption | exact rfl); (case kK => first | assumption | exact rfl); (case k1 => k_asm); (case k2 => k_asm); (case k3 => k_asm); (case k4 => k_asm); (case k5 => k_asm); (case k6 => k_is); (case k7 => k_is); (case k8 => k_room); (case k9 => first | exact BindsTo.of_eq rfl | exact binds_K (by k_in) rfl (by k_is) rfl rfl rfl | fail "k_enter: no rule for these arguments"); (case kB => exact rfl); (case kD => decide +kernel); (case c2 => exact rfl); (case c3 => exact rfl); (case c4 => exact rfl); k_whole; intro g' L' h' tk' cells' FG' F' N' Y' B' X' T' l1; (try k_lt l1); k_cells Y'; (try simp only [List.cons_append, List.nil_append] at N'); (try dsimp only); (try k_lift B'); (try k_fold)))


theorem fr_say3 {h₀ h : Heap} {L : Addr} {m : Str → Option Value} {x1 x2 x3 : Str} {v1 v2 v3 : Value} (F : Fr h₀ L h m) (e1 : m x1 = some v1) (e2 : m x2 = some v2) (e3 : m x3 = some v3) :
    Fr h₀ L h (fun z => if z = x1 then some v1 else if z = x2 then some v2 else if z = x3 then some v3 else m z) := by
  have : (fun z => if z = x1 then some v1 else if z = x2 then some v2 else if z = x3 then some v3 else m z) = m := by
    funext z
    by_cases h1 : z = x1
    · rw [if_pos h1, h1, e1]
    · rw [if_neg h1]
      by_cases h2 : z = x2
      · rw [if_pos h2, h2, e2]
      · rw [if_neg h2]
        by_cases h3 : z = x3
        · rw [if_pos h3, h3, e3]
        · rw [if_neg h3]
  rw [this]; exact F
def TreeCon (w : World) (p : Program) (loose : List Str) (mean : ExcName → Option Value) (mg mb : Str → Option Value) (k : Nat) (S : Nat) : Prop :=
  ∀ (A : Around) (env : Env) (outer : List Env) (A₀ : Around) (base h₀ : Heap) (L : Addr) (m : Str → Option Value) (rest : Led) (s : Shared) (dg : Addr) (d : Int) (nd : Nat) (td tk : Tok)
    (Q E : Value → Shared → Prop),
    A.frames = some (env :: outer) → env.frame = some L → env.scope.kind = .function → A.handled = none → A.depth + (4 - k) < 800 →
    Below A₀ base outer h₀ → Fr h₀ L s.heap m → (Mine.cap.heap_1 w.params).In h₀ → Top p loose mean mg mb h₀ →
    News h₀ L s.heap ((dg, W.listOf #[.int d td] nd) :: rest) → (∀ q ∈ rest, q.1 ≠ dg) → 0 ≤ d →
    (∀ t vs n fo new d' td' nd' h' tk', Fr h₀ L h' m → News h₀ L h' ((dg, W.listOf #[.int d' td'] nd') :: (new ++ rest)) → 0 ≤ d' → (∀ q ∈ new, q.2.cls = .type "tuple") → (∀ q ∈ new, ∀ p ∈ rest, p.1 < q.1) → (t, tupOf vs n) ∈ new → TreesIn new vs fo → fo.deep ≤ 4 - k → fo.size ≤ S → (k = 0 → fo.deep ≠ 0) → Q (.ref t) { s with heap := h', toks := tk' }) →
    wpAny (model PySem.Challenge.rw_pb0251_01.row.prog w) A (call (.ref 294) [.ref dg, .int k tk]) Q E s
def TJ (k S : Nat) (tk0 : Tok) (l dg : Addr) (rest : Led) (i : Nat) (m₁ : Str → Option Value) (n₁ : Led) : Prop :=
  ∃ vs cap d' td' nd' new fo, m₁ (Str.ofString "found") = some (.ref l) ∧ m₁ (Str.ofString "depth") = some (.int k tk0) ∧ m₁ (Str.ofString "digits") = some (.ref dg) ∧
    n₁ = (dg, W.listOf #[.int d' td'] nd') :: (l, W.listOf (List.toArray vs) cap) :: (new ++ rest) ∧ 0 ≤ d' ∧ (∀ q ∈ new, q.2.cls = .type "tuple") ∧ (∀ q ∈ new, ∀ p ∈ rest, p.1 < q.1) ∧ TreesIn new vs fo ∧ fo.deep ≤ 4 - k ∧ fo.size ≤ i * (S + 1) ∧ (1 ≤ i → fo.deep ≠ 0)
theorem tree_turn {g1 h5 : Heap} {L1 : Addr} {s1 : Shared} {tk5 : Nat} {m' : Str → Option Value} {k S : Nat} {tk0 : Tok} {l dg I t : Addr} {oI : Obj} {rest new new2 : Led} {i : Nat} {vs ts : List Value} {cap2 n2 nd2 : Nat} {d2 : Int} {td2 : Tok} {fo fk : Fo}
    (F : Fr g1 L1 h5 m') (e1 : m' (Str.ofString "found") = some (.ref l)) (e2 : m' (Str.ofString "depth") = some (.int k tk0)) (e3 : m' (Str.ofString "digits") = some (.ref dg))
    (N : News g1 L1 h5 ((l, W.listOf (vs ++ [Value.ref t]).toArray cap2) :: (dg, W.listOf #[.int d2 td2] nd2) :: (I, oI) :: (new2 ++ (new ++ rest)))) (hd2 : 0 ≤ d2) (hn2 : ∀ q ∈ new2, q.2.cls = .type "tuple") (hf2 : ∀ q ∈ new2, I < q.1 ∧ ∀ p ∈ rest, p.1 < q.1)
    (ht : (t, tupOf ts n2) ∈ new2) (htr2 : TreesIn new2 ts fk) (hdk : fk.deep + 1 ≤ 4 - k) (hsk : fk.size ≤ S) (hIdg : dg ≠ I) (hIl : l ≠ I) (hIr : ∀ q ∈ new ++ rest, q.1 ≠ I)
    (hnew : ∀ q ∈ new, q.2.cls = .type "tuple") (hfr : ∀ q ∈ new, ∀ p ∈ rest, p.1 < q.1) (htr : TreesIn new vs fo) (hdp : fo.deep ≤ 4 - k) (hsz : fo.size ≤ i * (S + 1)) :
    TurnE g1 L1 (TJ k S tk0 l dg rest (i + 1)) I oI s1 { s1 with heap := h5, toks := tk5 } := by
  have hda : (fo.app (.cons fk .nil)).deep = max fo.deep (max (fk.deep + 1) 0) := by rw [Fo.deep_app]; rfl
  have hsa : (fo.app (.cons fk .nil)).size = fo.size + (fk.size + 0 + 1) := by rw [Fo.size_app]; rfl
  refine ⟨h5, tk5, m', (dg, W.listOf #[.int d2 td2] nd2) :: (l, W.listOf (vs ++ [Value.ref t]).toArray cap2) :: ((new2 ++ new) ++ rest), rfl, F, news_perm N (fun q hq => ?_), fun q hq => ?_, vs ++ [Value.ref t], cap2, d2, td2, nd2, new2 ++ new, fo.app (.cons fk .nil), e1, e2, e3, rfl, hd2, fun q hq => ?_, fun q hq => ?_, ?_, by omega, by rw [hsa, Nat.succ_mul]; omega, fun _ => by omega⟩
  · simp only [List.mem_cons, List.mem_append] at hq ⊢
    rcases hq with h | h | h | (h | h) | h
    · exact .inr (.inr (.inl h))
    · exact .inr (.inl h)
    · exact .inl h
    · exact .inr (.inr (.inr (.inl h)))
    · exact .inr (.inr (.inr (.inr (.inl h))))
    · exact .inr (.inr (.inr (.inr (.inr h))))
  · rcases List.mem_cons.mp hq with h | h
    · rw [h]; exact hIdg
    · rcases List.mem_cons.mp h with h | h
      · rw [h]; exact hIl
      · rcases List.mem_append.mp h with h | h
        · rcases List.mem_append.mp h with h | h
          · exact Nat.ne_of_gt (hf2 q h).1
          · exact hIr q (List.mem_append_left _ h)
        · exact hIr q (List.mem_append_right _ h)
  · rcases List.mem_append.mp hq with h | h
    · exact hn2 q h
    · exact hnew q h
  · rcases List.mem_append.mp hq with h | h
    · exact (hf2 q h).2
    · exact hfr q h
  · exact (htr.mono fun q hq => List.mem_append_right _ hq).app (.cons (List.mem_append_left _ ht) (htr2.mono fun q hq => List.mem_append_left _ hq) .nil)
theorem tree_step (w : World) (p : Program) (loose : List Str) (mean : ExcName → Option Value) (mg mb : Str → Option Value) (k S : Nat) (hk : k ≤ 3) (hS : S ≤ 100) (IH : k < 3 → TreeCon w p loose mean mg mb (k + 1) S) : TreeCon w p loose mean mg mb k (3 * (S + 1)) := by
  unfold TreeCon
  k_fill
  w_on
  intro A env outer A₀ base h₀ L m rest s dg d nd td tk Q E hA hf hke hh hdp B F X T N hne hd0 hret
  refine wpAny_call ?_
  w_strict k_enter
  w_strict k_steps
  rename Fr _ _ _ _ => F2
  rename Fr h₀ L _ m => FG2
  rename News _ _ _ _ => N2
  rename Below _ _ _ _ => B2
  rename Frag.In _ _ => X2
  rename Top _ _ _ _ _ _ => T2
  rename_i tk0 g1 L1 x1 l h9 ll h10
  obtain ⟨m0, ⟨q1, q2, q3⟩, F3⟩ : ∃ m0 : Str → Option Value, (m0 (Str.ofString "found") = some (.ref l) ∧ m0 (Str.ofString "depth") = some (.int k tk0) ∧ m0 (Str.ofString "digits") = some (.ref dg)) ∧ Fr g1 L1 _ m0 := ⟨_, ⟨rfl, rfl, rfl⟩, F2⟩
  clear F2
  have F4 := fr_say3 F3 q1 q2 q3
  clear F3
  w_strict (with_unfolding_all refine' For_invVF F4 ?k1 ?k2 ?_; (case k1 => exact rfl); (case k2 => exact rfl))
  have e3 : d.fmod 3 = d % 3 := Int.fmod_eq_emod_of_nonneg d (by decide)
  refine wpAny_mono (Q := fun xv s₁ => ∃ (r : Addr) (N : Nat) (h' : Heap) (tk' t1 t2 t3 : Tok), xv = .ref r ∧ s₁ = ⟨h', s.gens, s.drawn, tk', s.os⟩ ∧ IsRange h' r 0 (N : Int) 1 t1 t2 t3 ∧
    Fr g1 L1 h' (fun z => if z = Str.ofString "found" then some (Value.ref l) else if z = Str.ofString "depth" then some (Value.int k tk0) else if z = Str.ofString "digits" then some (Value.ref dg) else m0 z) ∧ News g1 L1 h' ((l, W.listOf #[] 0) :: (dg, W.listOf #[.int d td] nd) :: rest) ∧ N ≤ 3 ∧ (k = 0 → 1 ≤ N)) ?_ (fun xv s1 hx => ?_) (fun _ _ x => x)
  · rcases Nat.eq_zero_or_pos k with hk0 | hk0
    · walk1
      w_strict k_steps
      rename Fr _ _ _ _ => F5
      refine range1_rows F5 N2 ?_
      intro h11 tk11 t1 t2 t3 hR F6 N6 _
      refine ⟨_, (1 + d.fmod 3).toNat, _, _, t1, t2, t3, rfl, rfl, ?_, F6, N6, by rw [e3]; omega, fun _ => by rw [e3]; omega⟩
      rw [Int.toNat_of_nonneg (by rw [e3]; omega)]
      exact hR
    · walk1
      w_strict k_steps
      rename Fr _ _ _ _ => F5
      refine range1_rows F5 N2 ?_
      intro h11 tk11 t1 t2 t3 hR F6 N6 _
      refine ⟨_, (d.fmod 3).toNat, _, _, t1, t2, t3, rfl, rfl, ?_, F6, N6, by rw [e3]; omega, fun _ => by omega⟩
      rw [Int.toNat_of_nonneg (by rw [e3]; omega)]
      exact hR
  · obtain ⟨r, N, h11, tk11, t1, t2, t3, rfl, rfl, hR, F5, N5, hN3, hN1⟩ := hx
    clear F4 N2
    refine iter_rng (n := N) (TJ k S tk0 l dg rest) hh hR (small_one (by decide) (by decide) (by omega) (by omega)) (by rw [rangeSize_one]; by_cases h : (0 : Int) < (N : Int) <;> simp only [h, if_true, if_false] <;> omega) F5 (news_perm N5 (b := (dg, W.listOf #[.int d td] nd) :: (l, W.listOf (List.toArray []) 0) :: ([] ++ rest)) (fun q hq => by
        simp only [List.mem_cons, List.nil_append] at hq ⊢
        rcases hq with h | h | h
        · exact .inr (.inl h)
        · exact .inl h
        · exact .inr (.inr h))) ⟨[], 0, d, td, nd, [], .nil, rfl, rfl, rfl, rfl, hd0, fun _ h => (nomatch h), fun _ h => (nomatch h), .nil, Nat.zero_le _, Nat.zero_le _, fun h => absurd h (by decide)⟩ ?_ ?_
    · rintro i ti m₁ n₁ h3 tk3 I oI hiN hI ⟨vs, cap, d', td', nd', new, fo, p1, p2, p3, rfl, hd', hnew, hfr, htr, hdp', hsz', hne'⟩ F6 N6
      have F7 := fr_say3 (x1 := Str.ofString "found") (x2 := Str.ofString "depth") (x3 := Str.ofString "digits") (v1 := .ref l) (v2 := .int k tk0) (v3 := .ref dg) F6 (by rw [if_neg (by decide)]; exact p1) (by rw [if_neg (by decide)]; exact p2) (by rw [if_neg (by decide)]; exact p3)
      have hldg : l ≠ dg := Nat.ne_of_gt ll.1
      have nne : ∀ q ∈ new, q.1 ≠ dg ∧ q.1 ≠ l := fun q hq =>
        ⟨news_ne N6 (o := q.2) (.tail _ (.tail _ (.tail _ (List.mem_append_left _ hq)))) (.tail _ (.head _)) (ne_list2 (l := [.int d' td']) (hnew q hq)), news_ne N6 (o := q.2) (.tail _ (.tail _ (.tail _ (List.mem_append_left _ hq)))) (.tail _ (.tail _ (.head _))) (ne_list2 (hnew q hq))⟩
      obtain ⟨R, hR⟩ : ∃ R : Led, R = (I, oI) :: (new ++ rest) := ⟨_, rfl⟩
      have hRd : ∀ q ∈ R, q.1 ≠ dg := fun q hq => by
        rw [hR] at hq
        rcases List.mem_cons.mp hq with h | h
        · rw [h]; exact Ne.symm (hI _ (.head _))
        · rcases List.mem_append.mp h with h | h
          · exact (nne q h).1
          · exact hne q h
      have hRl : ∀ q ∈ R, q.1 ≠ l := fun q hq => by
        rw [hR] at hq
        rcases List.mem_cons.mp hq with h | h
        · rw [h]; exact Ne.symm (hI _ (.tail _ (.head _)))
        · rcases List.mem_append.mp h with h | h
          · exact (nne q h).2
          · exact Nat.ne_of_lt (allLt_mem ll.2 q h)
      have N7 : News g1 L1 h3 ((dg, W.listOf #[.int d' td'] nd') :: (l, W.listOf vs.toArray cap) :: R) := news_perm N6 (fun q hq => by
        rw [hR] at hq
        simp only [List.mem_cons] at hq ⊢
        rcases hq with h | h | h | h
        · exact .inr (.inl h)
        · exact .inr (.inr (.inl h))
        · exact .inl h
        · exact .inr (.inr (.inr h)))
      clear N6 F6
      have hIdg : dg ≠ I := hI _ (.head _)
      have hIl : l ≠ I := hI _ (.tail _ (.head _))
      have hIr : ∀ q ∈ new ++ rest, q.1 ≠ I := fun q hq => hI q (.tail _ (.tail _ hq))
      have hvl : vs.length ≤ 1000 := by
        have h1 := trees_le htr
        have h2 : i * (S + 1) ≤ 3 * (S + 1) := Nat.mul_le_mul_right _ (by omega)
        omega
      have hd1 : 0 ≤ (d' * 5).fdiv 7 + 13 * (k : Int) + (0 + (i : Int)) := by
        rw [Int.fdiv_eq_ediv_of_nonneg _ (by decide)]; omega
      by_cases hk3 : k < 3
      · w_strict k_steps
        · rename Fr _ _ _ _ => F8
          rename News _ _ _ _ => N8
          obtain ⟨d1, td1, hd1', N9⟩ : ∃ (d1 : Int) (td1 : Tok), 0 ≤ d1 ∧ News g1 L1 _ ((dg, W.listOf #[.int d1 td1] nd') :: (l, W.listOf vs.toArray cap) :: R) := ⟨_, _, hd1, N8⟩
          clear N8
          refine IH hk3 _ _ _ _ _ _ _ _ _ _ _ _ _ _ _ _ _ (Around.frames_deeper hA) rfl rfl hh (by show A.depth + 1 + (4 - (k + 1)) < 800; omega) B2 F8 X2 T2 N9 (fun q hq => by
            rcases List.mem_cons.mp hq with h | h
            · rw [h]; exact hldg
            · exact hRd q h) hd1' ?_
          intro t2 ts n2 fk new2 d2 td2 nd2 h5 tk5 F10 N10 hd2 hn2 hf2 ht2 htr2 hdk hsk hnz
          obtain ⟨R2, hR2⟩ : ∃ R2 : Led, R2 = (dg, W.listOf #[.int d2 td2] nd2) :: (new2 ++ R) := ⟨_, rfl⟩
          have hR2l : ∀ q ∈ R2, q.1 ≠ l := fun q hq => by
            rw [hR2] at hq
            rcases List.mem_cons.mp hq with h | h
            · rw [h]; exact Ne.symm hldg
            · rcases List.mem_append.mp h with h | h
              · exact Nat.ne_of_gt (hf2 q h _ (.head _))
              · exact hRl q h
          have N11 : News g1 L1 h5 ((l, W.listOf vs.toArray cap) :: R2) := news_perm N10 (fun q hq => by
            rw [hR2] at hq
            simp only [List.mem_cons, List.mem_append] at hq ⊢
            rcases hq with h | h | h | h
            · exact .inr (.inr (.inl h))
            · exact .inl h
            · exact .inr (.inl h)
            · exact .inr (.inr (.inr h)))
          clear N10 N9 F8
          (try dsimp only)
          w_strict k_steps
          rename Fr _ _ _ _ => F12
          rename News _ _ _ _ => N12
          rw [List.push_toArray] at N12
          refine tree_turn (d2 := d2) (td2 := td2) (nd2 := nd2) (cap2 := cap + 1) (new2 := new2) (new := new) (rest := rest) F12 rfl rfl rfl (news_perm N12 (fun q hq => ?_)) hd2 hn2 (fun q hq => ⟨hf2 q hq (I, oI) (by rw [hR]; exact .tail _ (.head _)), fun p hp => hf2 q hq p (by rw [hR]; exact .tail _ (.tail _ (List.mem_append_right _ hp)))⟩) ht2 htr2 (by omega) hsk hIdg hIl hIr hnew hfr htr hdp' hsz'
          rw [hR2, hR]
          simp only [List.mem_cons, List.mem_append] at hq ⊢
          rcases hq with h | h | h | h | h | h
          · exact .inl h
          · exact .inr (.inl h)
          · exact .inr (.inr (.inr (.inl h)))
          · exact .inr (.inr (.inl h))
          · exact .inr (.inr (.inr (.inr (.inl h))))
          · exact .inr (.inr (.inr (.inr (.inr h))))
        · rename Fr _ _ _ _ => F8
          rename News _ _ _ _ => N8
          rename_i D1 _ l1 _
          rw [List.push_toArray] at N8
          obtain ⟨d1, td1, hd1', N9⟩ : ∃ (d1 : Int) (td1 : Tok), 0 ≤ d1 ∧ News g1 L1 _ ((D1, tupOf [] 0) :: (dg, W.listOf #[.int d1 td1] nd') :: (l, W.listOf (vs ++ [Value.ref D1]).toArray (cap + 1)) :: R) := ⟨_, _, hd1, N8⟩
          clear N8
          refine tree_turn (d2 := d1) (td2 := td1) (nd2 := nd') (cap2 := cap + 1) (new2 := [(D1, tupOf [] 0)]) (new := new) (rest := rest) (fk := .nil) F8 rfl rfl rfl (news_perm N9 (fun q hq => ?_)) hd1' (fun q hq => by rw [List.mem_singleton.mp hq]) (fun q hq => ?_) (.head _) .nil (by show 0 + 1 ≤ 4 - k; omega) (Nat.zero_le _) hIdg hIl hIr hnew hfr htr hdp' hsz'
          · rw [hR]
            simp only [List.mem_cons, List.mem_append, List.not_mem_nil, or_false] at hq ⊢
            rcases hq with h | h | h | h | h | h
            · exact .inr (.inr (.inl h))
            · exact .inr (.inl h)
            · exact .inr (.inr (.inr (.inl h)))
            · exact .inl h
            · exact .inr (.inr (.inr (.inr (.inl h))))
            · exact .inr (.inr (.inr (.inr (.inr h))))
          · rw [List.mem_singleton.mp hq]
            rw [hR] at l1
            exact ⟨allLt_mem l1.2.2 (I, oI) (.head _), fun p hp => allLt_mem l1.2.2 p (.tail _ (List.mem_append_right _ hp))⟩
      · w_strict k_steps
        rename Fr _ _ _ _ => F8
        rename News _ _ _ _ => N8
        rename_i D1 _ l1 _
        rw [List.push_toArray] at N8
        obtain ⟨d1, td1, hd1', N9⟩ : ∃ (d1 : Int) (td1 : Tok), 0 ≤ d1 ∧ News g1 L1 _ ((D1, tupOf [] 0) :: (dg, W.listOf #[.int d1 td1] nd') :: (l, W.listOf (vs ++ [Value.ref D1]).toArray (cap + 1)) :: R) := ⟨_, _, hd1, N8⟩
        clear N8
        refine tree_turn (d2 := d1) (td2 := td1) (nd2 := nd') (cap2 := cap + 1) (new2 := [(D1, tupOf [] 0)]) (new := new) (rest := rest) (fk := .nil) F8 rfl rfl rfl (news_perm N9 (fun q hq => ?_)) hd1' (fun q hq => by rw [List.mem_singleton.mp hq]) (fun q hq => ?_) (.head _) .nil (by show 0 + 1 ≤ 4 - k; omega) (Nat.zero_le _) hIdg hIl hIr hnew hfr htr hdp' hsz'
        · rw [hR]
          simp only [List.mem_cons, List.mem_append, List.not_mem_nil, or_false] at hq ⊢
          rcases hq with h | h | h | h | h | h
          · exact .inr (.inr (.inl h))
          · exact .inr (.inl h)
          · exact .inr (.inr (.inr (.inl h)))
          · exact .inl h
          · exact .inr (.inr (.inr (.inr (.inl h))))
          · exact .inr (.inr (.inr (.inr (.inr h))))
        · rw [List.mem_singleton.mp hq]
          rw [hR] at l1
          exact ⟨allLt_mem l1.2.2 (I, oI) (.head _), fun p hp => allLt_mem l1.2.2 p (.tail _ (List.mem_append_right _ hp))⟩
    · rintro m₁ n₁ h3 tk3 ⟨vs, cap, d', td', nd', new, fo, p1, p2, p3, rfl, hd', hnew, hfr, htr, hdp', hsz', hne'⟩ F6 N6
      have F7 := fr_say3 F6 p1 p2 p3
      clear F6
      have hvl : vs.length ≤ 1000 := by
        have h1 := trees_le htr
        have h2 : N * (S + 1) ≤ 3 * (S + 1) := Nat.mul_le_mul_right _ hN3
        omega
      (try dsimp only)
      w_strict k_steps
      rename Fr _ _ _ _ => F8
      refine kde_tupleOf (zs := vs) F8 N6 (News.isList N6 (.tail _ (.head _))) (by simp; omega) (by simp) ?_
      intro t5 h5 F9 N9 l9
      (try dsimp only)
      w_strict k_steps
      rename Fr h₀ L _ m => F10
      rename News h₀ L _ _ => N10
      refine hret t5 vs 0 fo ((t5, tupOf vs 0) :: new) d' td' nd' _ _ F10 (news_perm N10 (fun q hq => ?_)) hd' (fun q hq => ?_) (fun q hq p hp => ?_) (.head _) (htr.mono fun q hq => .tail _ hq) hdp' (Nat.le_trans hsz' (Nat.mul_le_mul_right _ hN3)) (fun h => hne' (hN1 h))
      · simp only [List.cons_append, List.mem_cons, List.mem_append] at hq ⊢
        rcases hq with h | h | h | h
        · exact .inr (.inl h)
        · exact .inl h
        · exact .inr (.inr (.inr (.inl h)))
        · exact .inr (.inr (.inr (.inr h)))
      · rcases List.mem_cons.mp hq with h | h
        · rw [h]
        · exact hnew q h
      · rcases List.mem_cons.mp hq with h | h
        · rw [h]; exact l9 p (.tail _ (.tail _ (List.mem_append_right _ hp)))
        · exact hfr q h p hp
end
end Mine
end

section
open PySem PySem.W PySem.Spec PySem.Calls PyProof.Rows
set_option Elab.async false
set_option maxRecDepth 100000
set_option maxHeartbeats 8000000
namespace Mine

def pairD (f : Fo) (n : Int) : PyData := .tuple [.tuple f.data, .int n]
theorem pair_shaped (f : Fo) (n : Int) (h : f.deep < 50) : SeqAt.shaped (pairD f n) = true := by
  simp [pairD, SeqAt.shaped, PyData.canLay0, PyData.canLayAll0, PyData.depth, PyData.depthAll, Fo.canLay f, Fo.depthAll f]; omega
theorem pair_eqv (f : Fo) (n : Int) : PyData.eqv (pairD f n) (pairD f n) = true := by
  simp [pairD, PyData.eqvAll, PyData.eqv, Fo.eqv_self f]
theorem tree_eqv (f : Fo) : PyData.eqv (.tuple f.data) (.tuple f.data) = true := by
  simp [PyData.eqv, Fo.eqv_self f]
theorem pair_reads {h₀ h : Heap} {L q : Addr} {news : Led} {b : Value} {f : Fo} {n : Int} {t : Tok} {k : Nat} (N : News h₀ L h news) (hq : (q, tupOf [b, .int n t] k) ∈ news) (hb : TreeIn news b f) : Reads h (.ref q) (pairD f n) [] :=
  reads_tuple_at (N.get hq) rfl rfl (ReadsAll.cons (as := []) (hb.reads N) (ReadsAll.cons (as := []) (.int n t) .nil))
def Keep6 (m : Str → Option Value) (wl tr du : Addr) (fd kd ex : Nat) (t1 t2 t3 : Tok) : Prop :=
  m (Str.ofString "words") = some (.ref wl) ∧ m (Str.ofString "deepest") = some (.int fd t1) ∧ m (Str.ofString "trees") = some (.ref tr) ∧ m (Str.ofString "due") = some (.ref du) ∧ m (Str.ofString "depth") = some (.int kd t2) ∧ m (Str.ofString "extra") = some (.int ex t3)
theorem fr_keep6 {h₀ h : Heap} {L : Addr} {m : Str → Option Value} {wl tr du : Addr} {fd kd ex : Nat} {t1 t2 t3 : Tok} (F : Fr h₀ L h m) (K : Keep6 m wl tr du fd kd ex t1 t2 t3) :
    Fr h₀ L h (fun z => if z = Str.ofString "words" then some (.ref wl) else if z = Str.ofString "deepest" then some (.int fd t1) else if z = Str.ofString "trees" then some (.ref tr) else
      if z = Str.ofString "due" then some (.ref du) else if z = Str.ofString "depth" then some (.int kd t2) else if z = Str.ofString "extra" then some (.int ex t3) else m z) := by
  obtain ⟨k1, k2, k3, k4, k5, k6⟩ := K
  refine fr_say3 (fr_say3 F k4 k5 k6) ?_ ?_ ?_
  · rw [if_neg (by decide), if_neg (by decide), if_neg (by decide)]; exact k1
  · rw [if_neg (by decide), if_neg (by decide), if_neg (by decide)]; exact k2
  · rw [if_neg (by decide), if_neg (by decide), if_neg (by decide)]; exact k3
theorem Keep6.other {m : Str → Option Value} {wl tr du : Addr} {fd kd ex : Nat} {t1 t2 t3 : Tok} {x : Str} {v : Value} (K : Keep6 m wl tr du fd kd ex t1 t2 t3)
    (hx : x ≠ Str.ofString "words" ∧ x ≠ Str.ofString "deepest" ∧ x ≠ Str.ofString "trees" ∧ x ≠ Str.ofString "due" ∧ x ≠ Str.ofString "depth" ∧ x ≠ Str.ofString "extra") : Keep6 (fun y => if y = x then some v else m y) wl tr du fd kd ex t1 t2 t3 := by
  obtain ⟨k1, k2, k3, k4, k5, k6⟩ := K
  obtain ⟨h1, h2, h3, h4, h5, h6⟩ := hx
  exact ⟨by show (if _ = x then _ else _) = _; rw [if_neg (Ne.symm h1)]; exact k1, by show (if _ = x then _ else _) = _; rw [if_neg (Ne.symm h2)]; exact k2, by show (if _ = x then _ else _) = _; rw [if_neg (Ne.symm h3)]; exact k3,
    by show (if _ = x then _ else _) = _; rw [if_neg (Ne.symm h4)]; exact k4, by show (if _ = x then _ else _) = _; rw [if_neg (Ne.symm h5)]; exact k5, by show (if _ = x then _ else _) = _; rw [if_neg (Ne.symm h6)]; exact k6⟩
theorem levels {fd kd : Nat} {t1 t2 t3 t4 : Tok} (hk : kd ≤ 13) (hf : fd ≤ 13) : ∀ (i : Nat) (v : Value), [Value.int kd t1, .int (13 - (fd : Int)) t2, .int (14 - (fd : Int)) t3, .int 0 t4][i]? = some v → ∃ (k : Nat) (t : Tok), v = .int k t ∧ k ≤ 14 := by
  intro i v h
  match i with
  | 0 => simp at h; exact ⟨kd, t1, h.symm, by omega⟩
  | 1 => simp at h; exact ⟨13 - fd, t2, by rw [← h]; congr 1; omega, by omega⟩
  | 2 => simp at h; exact ⟨14 - fd, t3, by rw [← h]; congr 1; omega, by omega⟩
  | 3 => simp at h; exact ⟨0, t4, h.symm, by omega⟩
  | (i + 4) => simp at h
theorem tab_off {h₀ h : Heap} {L P I : Addr} {l c : Nat} {q : Str} {tab news : Led} {oI : Obj} (N : News h₀ L h news) (hT : TabAt P l c q tab) (hs : ∀ p ∈ tab, p ∈ news) (hI : (I, oI) ∈ news) (hP : P ≠ I) (hoI : ∀ vs q tq, oI.data = .fields vs → vs[1]? ≠ some (.str q tq)) : ∀ p ∈ tab, p.1 ≠ I := by
  rcases hT with rfl | ⟨c', oc, vs, tq, rfl, hd, hv⟩
  · intro p hp
    rw [List.mem_singleton.mp hp]
    exact hP
  · intro p hp
    rcases List.mem_cons.mp hp with rfl | hp
    · exact hP
    · rw [List.mem_singleton.mp hp]
      refine news_ne N (o := oc) (o' := oI) (hs _ (.tail _ (.head _))) hI (fun e => ?_)
      rw [e] at hd
      exact hoI _ _ _ hd hv
section loops
variable {prog : Program} {w : World} {A : Around} {E : Value → Shared → Prop} {s : Shared} {env : Env} {h₀ : Heap} {x : Str} {body : List Stmt} {Q : Flow → Shared → Prop}

theorem iter_tup2 {t : Addr} {n : Nat} {vs : List Value} {m₀ : Str → Option Value} {news : Led} (J : Nat → (Str → Option Value) → Led → Prop)
    (hh : A.handled = none) (ht : (t, tupOf vs n) ∈ news) (F : Fr h₀ env.locals s.heap m₀) (N : News h₀ env.locals s.heap news)
    (hJt : ∀ i m n', J i m n' → (t, tupOf vs n) ∈ n') (hj : J 0 m₀ news)
    (turn : ∀ i v m₁ news₁ h tk I oI, (∀ vs q tq, oI.data = .fields vs → vs[1]? ≠ some (.str q tq)) → vs[i]? = some v → (∀ p ∈ news₁, p.1 ≠ I) → J i m₁ news₁ → Fr h₀ env.locals h (fun y => if y = x then some v else m₁ y) → News h₀ env.locals h ((I, oI) :: news₁) →
      wpAny (model prog w) A (execs body env) (TurnP h₀ env.locals (J (i + 1)) I oI { s with heap := h, toks := tk } Q) E { s with heap := h, toks := tk })
    (done : ∀ m₁ news₁ h tk, J vs.length m₁ news₁ → Fr h₀ env.locals h m₁ → News h₀ env.locals h news₁ → Q .next { s with heap := h, toks := tk }) :
    wpAny (model prog w) A (pyIter (.ref t)) (fun it s₂ => LoopAtV prog w A h₀ env x body Q E it s₂) E s := by
  have hts : s.heap.IsTuple t vs.toArray := ⟨_, (N _ ht).1, rfl, n, rfl⟩
  have hlt : t < s.heap.objs.size := Heap.lt_size (N _ ht).1
  have hne : t ≠ s.heap.objs.size := Nat.ne_of_lt hlt
  refine wpAny_pyIter_tuple hts ?_
  have W := Walks.tuple (prog := prog) (w := w) hh s.heap.objs.size t hne vs.toArray
  have hlen : vs.toArray.size = vs.length := by simp
  rw [hlen] at W
  refine ⟨_, _, _, vs.length, _, _, m₀, news, J, rfl, W, ?_, ?_, ?_, ⟨⟨_, Heap.get?_push_size _ rfl, rfl, rfl⟩, ⟨_, Heap.get?_push_of_some _ (N _ ht).1, rfl, n, rfl⟩⟩, F.push _, (fun p hp => ⟨Heap.get?_push_of_some _ (N p hp).1, (N p hp).2⟩), hj, ?_, ?_⟩
  · intro hm
    rcases List.mem_cons.mp hm with e | hm
    · exact absurd F.ns.lt (e ▸ Nat.lt_irrefl _)
    · exact (N _ ht).2.1 (List.mem_singleton.mp hm).symm
  · intro b hb
    rw [List.mem_singleton.mp hb]
    exact next_is_new F
  · intro p hp hI
    exact absurd (Heap.lt_size (N p hp).1) ((List.mem_singleton.mp hI) ▸ Nat.lt_irrefl _)
  · rintro i v m₁ news₁ s₁ own ⟨hh', tk', rfl⟩ hin hP hJ hoff hown hget hmem hst F₁ N₁
    obtain ⟨⟨oi, hoi, hic, hid⟩, _⟩ := hst
    have hI : (s.heap.objs.size, oi) ∈ own := hmem _ (.head _) (next_is_new F) oi hoi
    have hx : vs[i]? = some v := by simpa using hP
    have hno : ∀ p ∈ news₁, p.1 ≠ s.heap.objs.size := fun p hp e => hoff p hp (List.mem_singleton.mpr e)
    have N₂ : News h₀ env.locals hh' ((s.heap.objs.size, oi) :: news₁) := fun p hp => (List.mem_cons.mp hp).elim (fun e => e ▸ N₁ _ (List.mem_append.mpr (.inl hI))) fun h => N₁ p (List.mem_append.mpr (.inr h))
    refine wpAny_mono (turn i v m₁ news₁ hh' tk' _ oi (by intro vs q tq e; rw [hid] at e; cases e; simp) hx hno hJ F₁ N₂) (fun f s₂ p => ?_) fun _ _ e => e
    have fin : TurnE h₀ env.locals (J (i + 1)) s.heap.objs.size oi { s with heap := hh', toks := tk' } s₂ → LoopStepU h₀ env.locals [s.heap.objs.size] own (J (i + 1)) { s with heap := hh', toks := tk' } .next s₂ := by
      rintro ⟨h', tk, m', news₂, e, F', N', ha, hm⟩
      refine ⟨rfl, h', tk, m', news₂, e, F', fun p hp => ?_, fun p hp hq => ha p hp (List.mem_singleton.mp hq), hm⟩
      rcases List.mem_append.mp hp with hp | hp
      · have hg := hget p hp
        rcases List.mem_cons.mp (hown p hp) with h1 | h1
        · have : p = (s.heap.objs.size, oi) := by
            obtain ⟨pa, po⟩ := p
            simp only at h1 hg
            subst h1
            rw [show hh'.get? s.heap.objs.size = some oi from hoi] at hg
            rw [Option.some.inj hg]
          rw [this]; exact N' _ (.head _)
        · have h2 := List.mem_singleton.mp h1
          have hg2 := (N₁ _ (List.mem_append.mpr (.inr (hJt _ _ _ hJ)))).1
          have : p = (t, tupOf vs n) := by
            obtain ⟨pa, po⟩ := p
            simp only at h2 hg
            subst h2
            rw [show hh'.get? pa = _ from hg2] at hg
            cases hg; rfl
          rw [this]; exact N' _ (.tail _ (hJt _ _ _ hm))
      · exact N' p (.tail _ hp)
    cases f with
    | ret v => exact .ret p
    | brk => exact .brk p
    | next => exact .next (fin p)
    | cont => exact .cont (fin p)
  · rintro h' tk m' news' F' N' _ hJ
    exact done m' news' h' tk hJ F' N'

end loops
end Mine
end

section
open PySem PySem.W PySem.Spec PySem.Calls PyProof.Rows
set_option Elab.async false
set_option maxRecDepth 100000
set_option maxHeartbeats 8000000
namespace Mine
theorem noFill_tuple_mul : fillsNumberSlot (.type "tuple") "mul" = pure false :=
  PySem.fillsNumberSlot_seq (id := "tuple.__mul__") (r := some (.builtin "tuple.__rmul__")) F.slot_tuple_mul.lookup (by decide +kernel) F.slot_tuple_rmul.lookup (by decide +kernel)
theorem repeat_tuple : seqRepeat? (.type "tuple") = pure (some (.builtin "tuple.__mul__")) := by
  unfold seqRepeat?
  rw [PySem.seqSlot_of (T := "tuple") (name := "__mul__") (id := "tuple.__mul__") F.slot_tuple_mul.lookup (by decide +kernel), PySem.seqSlot_of (T := "tuple") (name := "__rmul__") (id := "tuple.__rmul__") F.slot_tuple_rmul.lookup (by decide +kernel)]
  rfl
theorem int_rmul_tuple (a : Int) (t : Tok) (l : Addr) (items : Array Value) (n : Nat) :
    Meets (Builtin.«int.__rmul__» ⟨[.int a t, .ref l], []⟩) (fun _ R s => s.heap.get? l = some { cls := .type "tuple", dict := none, data := .seq items n, slots := #[] } ∧ R (.ok (.ret Value.notImplemented)) s) :=
  .of_wp fun prog w A R s h => by obtain ⟨hp, g, d, tk, os⟩ := s; obtain ⟨hl, h⟩ := h; wp_walk; exact ⟨_, rfl, h⟩
theorem tuple_mul_0 (l : Addr) (v : Value) (n : Nat) (u : Tok) :
    Meets (Builtin.«tuple.__mul__» ⟨[.ref l, .int 0 u], []⟩) (fun _ R s => s.heap.get? l = some { cls := .type "tuple", dict := none, data := .seq #[v] n, slots := #[] } ∧ R (.ok (.ret (.ref s.heap.objs.size))) { s with heap := s.heap.push { cls := .type "tuple", data := .seq #[] } }) :=
  .of_wp fun prog w A R s h => by
    obtain ⟨hp, g, d, tk, os⟩ := s
    obtain ⟨hl, h⟩ := h
    wp_walk
    exact ⟨_, rfl, h⟩
theorem tuple_mul_1 (l : Addr) (v : Value) (n : Nat) (u : Tok) :
    Meets (Builtin.«tuple.__mul__» ⟨[.ref l, .int 1 u], []⟩) (fun _ R s => s.heap.get? l = some { cls := .type "tuple", dict := none, data := .seq #[v] n, slots := #[] } ∧ R (.ok (.ret (.ref l))) s) :=
  .of_wp fun prog w A R s h => by
    obtain ⟨hp, g, d, tk, os⟩ := s
    obtain ⟨hl, h⟩ := h
    wp_walk
    exact ⟨_, rfl, h⟩
theorem tuple_mul_2 (l : Addr) (v : Value) (n : Nat) (u : Tok) :
    Meets (Builtin.«tuple.__mul__» ⟨[.ref l, .int 2 u], []⟩) (fun _ R s => s.heap.get? l = some { cls := .type "tuple", dict := none, data := .seq #[v] n, slots := #[] } ∧ R (.ok (.ret (.ref s.heap.objs.size))) { s with heap := s.heap.push { cls := .type "tuple", data := .seq #[v, v] } }) :=
  .of_wp fun prog w A R s h => by
    obtain ⟨hp, g, d, tk, os⟩ := s
    obtain ⟨hl, h⟩ := h
    wp_walk
    exact ⟨_, rfl, h⟩
section
variable {prog : Program} {w : World} {A : Around} {E : Value → Shared → Prop} {s : Shared} {h₀ : Heap} {L : Addr} {m : Str → Option Value} {news : Led}
theorem mul_tup {o1 : Addr} {e0 : Value} {ex n : Nat} {u : Tok} {Q : Value → Shared → Prop} (hex : ex ≤ 2) (Fm : Fr h₀ L s.heap m) (N : News h₀ L s.heap news) (hm : (o1, tupOf [e0] n) ∈ news)
    (h : ∀ t2 k2 h', Fr h₀ L h' m → News h₀ L h' ((t2, tupOf (List.replicate ex e0) k2) :: news) → Q (.ref t2) { s with heap := h' }) : wpAny (model prog w) A (binaryOp .Mult (.ref o1) (.int (ex : Int) u)) Q E s := by
  have hl : s.heap.get? o1 = some { cls := .type "tuple", dict := none, data := .seq #[e0] n, slots := #[] } := (N _ hm).1
  refine wpAny_binaryOp_repeat_ref (T := "tuple") (U := "int") (by decide) ⟨_, hl, rfl⟩ (fun s' => typeIs_int s' _ u) noFill_tuple_mul F.fills_int_mul F.slot_int_rmul repeat_tuple F.slot_int_index.lookup
    (call_meets F.slot_int_rmul (typeIs_int s _ u) F.entry_int_rmul (F.args_int_rmul_2 _ _) (int_rmul_tuple _ u o1 #[e0] n) ⟨hl, rfl, ⟨_, hl, rfl⟩, ?_⟩)
  match ex, hex with
  | 0, _ => exact call_meets F.slot_tuple_mul ⟨_, hl, rfl⟩ F.entry_tuple_mul (F.args_tuple_mul_2 _ _) (tuple_mul_0 o1 e0 n u) ⟨hl, h _ 0 _ (Fm.push _) (N.push Fm _)⟩
  | 1, _ => exact call_meets F.slot_tuple_mul ⟨_, hl, rfl⟩ F.entry_tuple_mul (F.args_tuple_mul_2 _ _) (tuple_mul_1 o1 e0 n u) ⟨hl, h o1 n _ Fm (news_perm N fun q hq => by
      rcases List.mem_cons.mp hq with h | h
      · rw [h]; exact hm
      · exact h)⟩
  | 2, _ => exact call_meets F.slot_tuple_mul ⟨_, hl, rfl⟩ F.entry_tuple_mul (F.args_tuple_mul_2 _ _) (tuple_mul_2 o1 e0 n u) ⟨hl, h _ 0 _ (Fm.push _) (N.push Fm _)⟩
theorem add_trees {a b : Addr} {va vb : List Value} {na nb : Nat} {f g : Fo} {Q : Value → Shared → Prop} (F : Fr h₀ L s.heap m) (N : News h₀ L s.heap news) (ha : (a, tupOf va na) ∈ news) (hta : TreesIn news va f) (hb : (b, tupOf vb nb) ∈ news) (htb : TreesIn news vb g)
    (hz : va.length + vb.length ≤ sizeLine) (h : ∀ t v k h', Fr h₀ L h' m → News h₀ L h' ((t, tupOf v k) :: news) → TreesIn news v (f.app g) → Q (.ref t) { s with heap := h' }) : wpAny (model prog w) A (binaryOp .Add (.ref a) (.ref b)) Q E s := by
  refine add_tuples F N (News.isTup N ha) (News.isTup N hb) (fun e => ?_) (fun _ e => ?_) (fun _ _ h' F' N' => h _ _ 0 h' F' N' (hta.app htb)) hz
  · subst e
    cases hta
    exact h b vb nb s.heap F (news_perm N fun q hq => by
      rcases List.mem_cons.mp hq with h | h
      · rw [h]; exact hb
      · exact h) htb
  · subst e
    cases htb
    exact h a va na s.heap F (news_perm N fun q hq => by
      rcases List.mem_cons.mp hq with h | h
      · rw [h]; exact ha
      · exact h) (by rw [Fo.app_nil]; exact hta)
/-- n empty statements -/
def empties : Nat → Fo
  | 0 => .nil
  | n + 1 => .cons .nil (empties n)
theorem empties_trees {e0 : Addr} {n : Nat} {l : Led} (h : (e0, tupOf [] n) ∈ l) : ∀ k : Nat, TreesIn l (List.replicate k (.ref e0)) (empties k)
  | 0 => .nil
  | k + 1 => by rw [List.replicate_succ]; exact .cons h .nil (empties_trees h k)
theorem empties_size : ∀ k, (empties k).size = k
  | 0 => rfl
  | k + 1 => by show 0 + (empties k).size + 1 = k + 1; rw [empties_size k]; omega
theorem empties_deep : ∀ k, (empties k).deep ≤ 1
  | 0 => Nat.zero_le _
  | k + 1 => by show max (0 + 1) (empties k).deep ≤ 1; have := empties_deep k; omega
end
end Mine
end

section
open PySem PySem.W PySem.Spec PySem.Calls PyProof.Rows
set_option Elab.async false
set_option maxRecDepth 100000
set_option maxHeartbeats 8000000
namespace Mine
section
local macro_rules | `(tactic| k_steps) => `(tactic| repeat' ((fail_if_success (with_reducible show wpAny _ _ (call (Value.ref 294) _) _ _ _)); (fail_if_success (with_reducible show wpAny _ _ (call (Value.ref 301) _) _ _ _)); (fail_if_success (with_reducible show wpAny _ _ (call (Value.ref 306) _) _ _ _)); (fail_if_success (with_reducible show wpAny _ _ (call (Value.ref 325) _) _ _ _)); (fail_if_success (with_reducible show wpAny _ _ (call (Value.ref 318) _) _ _ _)); (fail_if_success (with_reducible show wpAny _ _ (call (Value.ref 43) _) _ _ _)); (fail_if_success (with_reducible show wpAny _ _ (exec (Stmt.For _ _ _ _ _) _) _ _ _)); (fail_if_success (with_reducible show wpAny _ _ (exec (Stmt.While _ _ _ _) _) _ _ _)); (fail_if_success (with_reducible show wpAny _ _ (eval (Expr.Lambda _ _ _ _) _) _ _ _)); (fail_if_success (with_reducible show wpAny _ _ (binaryOp Operator.Mult (Value.ref _) _) _ _ _)); (fail_if_success (with_reducible show wpAny _ _ (binaryOp Operator.Add (Value.ref _) (Value.ref _)) _ _ _)); (fail_if_success (with_reducible show wpAny _ _ (compareOp _ (Value.ref _) (Value.ref _)) _ _ _)); (fail_if_success (with_reducible show wpAny _ _ (call (Value.type "tuple") _) _ _ _)); (fail_if_success (with_reducible show wpAny _ _ (pyIter _) _ _ _)); (fail_if_success (with_reducible show wpAny _ _ (call (Value.builtin "len") [Value.ref _]) _ _ _)); first | (k_unfold; (try dsimp only)) | (k_end; wrow_close) | walk1 | (dsimp only; walk1) | (dsimp only [List.cons_append, List.nil_append]; walk1) | (leave1; walk_say "STEP leave1"; try dsimp only) | fail "no step"))
local macro_rules | `(tactic| k_all) => `(tactic| assumption)
local macro_rules | `(tactic| size_fits) => `(tactic| ((try simp only [List.size_toArray, List.length_append, List.length_cons, List.length_nil, List.push_toArray]); (have hsz9 := sizeLine_eq); omega))
local macro_rules | `(tactic| ktr_enter) => `(tactic| (k_dflt (refine' code_def ?k1 ?k2 ?k3 ?k4 ?k5 ?kA ?kF ?kK ?k6 ?k7 ?k8 ?k9 ?kB ?_ ?c2 ?c3 ?c4 ?c5; (case kA => assumption); (case kF => assumption); (case kK => assumption); (case k1 => k_asm); (case k2 => k_asm); (case k3 => k_asm); (case k4 => k_asm); (case k5 => k_asm); (case k6 => k_is); (case k7 => k_is); (case k8 => (simp only [recursionLimit]; omega)); (case k9 => exact BindsTo.of_eq rfl); (case c5 => decide); (case kB => exact locs rfl); (case c2 => exact rfl); (case c3 => exact rfl); (case c4 => exact rfl); k_whole; intro g' L' h' FG' F' N' B' X' T'; (try dsimp only); (try k_fold))))
local macro_rules | `(tactic| k_room) => `(tactic| (simp only [depth_mark, depth_under_make, depth_under_kw, depth_in1, depth_deeper, depth_caller, recursionLimit]; omega))
local macro_rules | `(tactic| k_enter) => `(tactic| first
  | (refine' code_def ?k1 ?k2 ?k3 ?k4 ?k5 ?kA ?kF ?kK ?k6 ?k7 ?k8 ?k9 ?kB ?_ ?c2 ?c3 ?c4 ?c5; (case kA => first | assumption | exact Around.frames_deeper (by assumption) | exact Around.frames_deeper (Around.frames_deeper (by assumption)) | exact Around.frames_deeper (Around.frames_deeper (Around.frames_deeper (by assumption))) | exact Around.frames_deeper (Around.frames_deeper (Around.frames_deeper (Around.frames_deeper (by assumption))))); (case kF => first | assumption | exact rfl); (case kK => first | assumption | exact rfl); (case k1 => k_asm); (case k2 => k_asm); (case k3 => k_asm); (case k4 => k_asm); (case k5 => k_asm); (case k6 => k_is); (case k7 => k_is); (case k8 => k_room); (case k9 => first | exact BindsTo.of_eq rfl | exact binds_K (by k_in) rfl (by k_is) rfl rfl rfl | fail "k_enter: no rule for these arguments"); (case c5 => decide); (case kB => exact locs rfl); (case c2 => exact rfl); (case c3 => exact rfl); (case c4 => exact rfl); k_whole; intro g' L' h' FG' F' N' B' X' T'; (try dsimp only); (try k_lift B'); (try k_fold))
  | (refine' code_defC ?k1 ?k2 ?k3 ?k4 ?k5 ?kA ?kF ?kK ?k6 ?k7 ?k8 ?k9 ?kB ?kD ?_ ?c2 ?c3 ?c4; (case kA => first | assumption | exact Around.frames_deeper (by assumption) | exact Around.frames_deeper (Around.frames_deeper (by assumption))); (case kF => first | assumption | exact rfl); (case kK => first | assumption | exact rfl); (case k1 => k_asm); (case k2 => k_asm); (case k3 => k_asm); (case k4 => k_asm); (case k5 => k_asm); (case k6 => k_is); (case k7 => k_is); (case k8 => k_room); (case k9 => first | exact BindsTo.of_eq rfl | exact binds_K (by k_in) rfl (by k_is) rfl rfl rfl | fail "k_enter: no rule for these arguments"); (case kB => exact rfl); (case kD => decide +kernel); (case c2 => exact rfl); (case c3 => exact rfl); (case c4 => exact rfl); k_whole; intro g' L' h' tk' cells' FG' F' N' Y' B' X' T' l1; (try k_lt l1); k_cells Y'; (try simp only [List.cons_append, List.nil_append] at N'); (try dsimp only); (try k_lift B'); (try k_fold)))

theorem ints_nth {vs : List Value} {ns : List Int} (h : IntsAre vs ns) : ∀ (i : Nat) (v : Value), vs[i]? = some v → ∃ n t, v = .int n t := by
  induction h with
  | nil => intro i v h; simp at h
  | cons n t _ ih =>
    intro i v hv
    cases i with
    | zero => simp at hv; exact ⟨_, _, hv.symm⟩
    | succ i => exact ih i v (by simpa using hv)
theorem post_true (script : List Int) : PySem.Challenge.rw_pb0251_01.row.claim.post [ofPy (PyData.list (List.map PyData.int script))] (WData.bool true) [ofPy (PyData.list (List.map PyData.int script))] = true := by
  wrow_post
theorem tree_all (w : World) (p : Program) (loose : List Str) (mean : ExcName → Option Value) (mg mb : Str → Option Value) : TreeCon w p loose mean mg mb 0 120 :=
  tree_step w p loose mean mg mb 0 39 (by decide) (by decide) fun _ => tree_step w p loose mean mg mb 1 12 (by decide) (by decide) fun _ => tree_step w p loose mean mg mb 2 3 (by decide) (by decide) fun _ => tree_step w p loose mean mg mb 3 0 (by decide) (by decide) fun h => absurd h (by decide)
theorem law_ok : PySem.Challenge.rw_pb0251_01.Holds := hd (by
  w_strict (k_go0; (all_goals try k_fold))
  rename World => w
  rename List Int => script
  rename IntsAre _ _ => hI
  rename Heap.IsList (ghostOf _ _) _ _ => hL
  rename News _ _ _ _ => N1
  rename Fr _ _ _ _ => F1
  rename Below _ _ _ _ => B1
  rename Frag.In _ _ => X1
  rename Top topProg _ _ _ _ _ => T1
  generalize hG : ghostOf _ _ = G at *
  w_strict k_steps
  walk1
  w_strict k_steps
  rename Fr _ _ _ _ => F2
  rename News _ _ _ _ => N2
  rename_i dg h9 l1 h10
  obtain ⟨m0, q1, q2, F3⟩ : ∃ m0 : Str → Option Value, m0 (Str.ofString "digits") = some (.ref dg) ∧ m0 (Str.ofString "script") = some (.ref _) ∧ Fr _ _ h10 m0 := ⟨_, rfl, rfl, F2⟩
  clear F2
  obtain ⟨d0, td0, hd0, N3⟩ : ∃ (d : Int) (td : Tok), 0 ≤ d ∧ News _ _ h10 [(dg, W.listOf #[.int d td] 0), (320, tabObj #[]), (38, tabObj #[]), (327, tabObj #[])] := ⟨_, _, by omega, N2⟩
  clear N2
  have F4 := fr_say (x := Str.ofString "digits") (v := .ref dg) (fr_say (x := Str.ofString "script") F3 q2) (by rw [if_neg (by decide)]; exact q1)
  clear F3
  w_strict (with_unfolding_all refine' For_invVF F4 ?k1 ?k2 ?_; (case k1 => exact rfl); (case k2 => exact rfl))
  walk1
  w_strict k_steps
  refine iter_lst (fun i m₁ n₁ => m₁ (Str.ofString "digits") = some (.ref dg) ∧ ∃ (d : Int) (td : Tok) (nd : Nat), 0 ≤ d ∧ n₁ = [(dg, W.listOf #[.int d td] nd), (320, tabObj #[]), (38, tabObj #[]), (327, tabObj #[])]) rfl (let ⟨o, e, c, n, d⟩ := hL; ⟨o, F4.keep _ _ e, c, n, d⟩) F4 N3 (.inl hL) ⟨rfl, d0, td0, 0, hd0, rfl⟩ ?_ ?_
  · rintro i v m₁ n₁ h3 tk3 I oI hv hI' ⟨q3, d, td, nd, hd, rfl⟩ F6 N6
    obtain ⟨n, tn, rfl⟩ := ints_nth hI i v hv
    have F7 := fr_say (x := Str.ofString "digits") (v := .ref dg) F6 (by rw [if_neg (by decide)]; exact q3)
    obtain ⟨R, hR⟩ : ∃ R : Led, R = [(I, oI), (320, tabObj #[]), (38, tabObj #[]), (327, tabObj #[])] := ⟨_, rfl⟩
    have hRd : ∀ q ∈ R, q.1 ≠ dg := fun q hq => by
      rw [hR] at hq
      simp only [List.mem_cons, List.not_mem_nil, or_false] at hq
      rcases hq with h | h | h | h
      · rw [h]; exact Ne.symm (hI' _ (.head _))
      · rw [h]; exact Nat.ne_of_lt l1.1
      · rw [h]; exact Nat.ne_of_lt l1.2.1
      · rw [h]; exact Nat.ne_of_lt l1.2.2
    have N7 := news_perm (b := (dg, W.listOf #[.int d td] nd) :: R) N6 (fun q hq => by
      rw [hR] at hq
      simp only [List.mem_cons] at hq ⊢
      rcases hq with h | h | h
      · exact .inr (.inl h)
      · exact .inl h
      · exact .inr (.inr h))
    clear N6 F6
    w_strict k_steps
    rename Fr _ _ _ _ => F8
    rename News _ _ _ _ => N8
    have hd1 : 0 ≤ d * 31 + n.fmod 97 := by
      rw [show n.fmod 97 = n % 97 from Int.fmod_eq_emod_of_nonneg n (by decide)]
      omega
    obtain ⟨d1, td1, hd1', N9⟩ : ∃ (d1 : Int) (td1 : Tok), 0 ≤ d1 ∧ News G _ _ ((dg, W.listOf #[.int d1 td1] nd) :: R) := ⟨_, _, hd1, N8⟩
    refine ⟨_, _, _, [(dg, W.listOf #[.int d1 td1] nd), (320, tabObj #[]), (38, tabObj #[]), (327, tabObj #[])], rfl, F8, news_perm N9 (fun q hq => ?_), (fun q hq => ?_), rfl, d1, td1, nd, hd1', rfl⟩
    · rw [hR]
      simp only [List.mem_cons] at hq ⊢
      rcases hq with h | h | h
      · exact .inr (.inl h)
      · exact .inl h
      · exact .inr (.inr h)
    · rcases List.mem_cons.mp hq with h | h
      · rw [h]; exact hI' (dg, W.listOf #[.int d td] nd) (.head _)
      · exact hI' q (.tail _ h)
  · rintro m₁ n₁ h3 tk3 ⟨q3, d, td, nd, hd, rfl⟩ F6 N6
    have F7 := fr_say (x := Str.ofString "digits") (v := .ref dg) F6 q3
    clear F6
    (try dsimp only)
    w_strict k_steps
    rename Fr _ _ _ _ => F8
    rename News _ _ _ _ => N8
    have b1 : 0 ≤ d.fmod 14 ∧ d.fmod 14 < 14 := by rw [show d.fmod 14 = d % 14 from Int.fmod_eq_emod_of_nonneg d (by decide)]; omega
    have b2 : 0 ≤ (d.fdiv 14).fmod 3 ∧ (d.fdiv 14).fmod 3 < 3 := by rw [show (d.fdiv 14).fmod 3 = (d.fdiv 14) % 3 from Int.fmod_eq_emod_of_nonneg _ (by decide)]; omega
    obtain ⟨kd, ex, tk1, tk2, m2, hkd, hex, q4, q5, F9⟩ : ∃ (kd ex : Nat) (tk1 tk2 : Tok) (m2 : Str → Option Value), kd ≤ 13 ∧ ex ≤ 2 ∧ m2 (Str.ofString "depth") = some (.int kd tk1) ∧ m2 (Str.ofString "extra") = some (.int ex tk2) ∧ Fr G _ _ m2 :=
      ⟨(d.fmod 14).toNat, ((d.fdiv 14).fmod 3).toNat, _, _, _, by omega, by omega, by rw [Int.toNat_of_nonneg b1.1]; rfl, by rw [Int.toNat_of_nonneg b2.1]; rfl, F8⟩
    clear F8
    have F10 := fr_say (x := Str.ofString "depth") (v := .int kd tk1) (fr_say (x := Str.ofString "extra") F9 q5) (by rw [if_neg (by decide)]; exact q4)
    clear F9
    have N9 := news_tail N8
    clear N8
    refine tree_all w _ _ _ _ _ _ _ _ _ _ _ _ _ _ _ dg d nd td _ _ _ (Around.frames_deeper B1.stack) rfl rfl rfl (by k_room) B1 F10 X1 T1 N9 (fun q hq => ?_) hd ?_
    · simp only [List.mem_cons, List.not_mem_nil, or_false] at hq
      rcases hq with h | h | h
      · rw [h]; exact Nat.ne_of_lt l1.1
      · rw [h]; exact Nat.ne_of_lt l1.2.1
      · rw [h]; exact Nat.ne_of_lt l1.2.2
    intro tr vst nt fo new d' td' nd' h12 tk12 F11 N11 _ hnew hfr htr htrs hdeep hsize hnz
    clear F10 N9
    (try dsimp only)
    w_strict k_steps
    rename Fr _ _ _ _ => F12
    rename News _ _ _ _ => N11
    have N12 := news_tail N11
    clear N11
    have hdp4 : fo.deep ≤ 4 := hdeep
    have hnz1 : 1 ≤ fo.deep := Nat.pos_of_ne_zero (hnz rfl)
    refine words_con w _ _ _ _ _ fo (by omega) _ _ _ _ _ _ _ _ _ _ _ _ _ (Around.frames_deeper B1.stack) rfl rfl rfl (by k_room) B1 F12 X1 N12 T1 ⟨tr, nt, vst, rfl, List.mem_append_left _ htr, htrs.mono fun q hq => List.mem_append_left _ hq⟩ ?_
    intro wl ws cw tlw h13 tk13 F13 N13 hws hord hne1
    clear F12
    (try dsimp only)
    w_strict k_steps
    refine deep_con w _ _ _ _ _ fo (by omega) (by omega) _ _ _ _ _ _ _ _ _ _ _ _ _ (Around.frames_deeper B1.stack) rfl rfl rfl (by k_room) (by simp only [units_in1, units_deeper, Around.mark_units, units_caller]; omega) B1 F13 X1 N13 T1 ⟨tr, nt, vst, rfl, .tail _ (List.mem_append_right _ (List.mem_append_left _ htr)), htrs.mono fun q hq => .tail _ (List.mem_append_right _ (List.mem_append_left _ hq))⟩ ?_
    intro h14 tk14 tkd F14 N14
    clear F13 N13
    (try dsimp only)
    have N15 := news_perm (b := (wl, W.listOf ws.toArray cw) :: (new ++ [(320, tabObj #[]), (38, tabObj #[]), (327, tabObj #[])])) N14 (fun q hq => by
      rcases List.mem_cons.mp hq with h | h
      · rw [h]; exact .head _
      · exact .tail _ (List.mem_append_right _ h))
    clear N14
    w_strict k_steps
    rename Fr _ _ _ _ => F15
    rename News _ _ _ _ => N16
    refine len_list ⟨_, (N16 _ (.tail _ (.head _))).1, rfl, _, rfl⟩ (by have := strsAre_len hws; have := Fo.words_length fo; simp; omega) ?_
    (try dsimp only)
    w_strict k_steps
    rename Fr _ _ _ _ => F17
    rename News _ _ _ _ => N17
    rename_i tk5 du h15 l15 h16
    have ewl : ws.toArray.size = fo.words.length := by rw [List.size_toArray]; exact strsAre_len hws
    obtain ⟨m3, K3, F18⟩ : ∃ m3 : Str → Option Value, Keep6 m3 wl tr du fo.deep kd ex tkd tk1 tk2 ∧ Fr G _ _ m3 := ⟨_, ⟨rfl, rfl, rfl, rfl, rfl, rfl⟩, F17⟩
    clear F17
    rw [ewl] at N17
    obtain ⟨tdu, N18⟩ : ∃ tdu : Tok, News G _ _ ((du, tupOf [.ref tr, .int (fo.words.length : Nat) tdu] 0) :: (wl, W.listOf ws.toArray cw) :: (new ++ [(320, tabObj #[]), (38, tabObj #[]), (327, tabObj #[])])) := ⟨_, news_perm N17 (fun q hq => by
      rcases List.mem_cons.mp hq with h | h
      · rw [h]; exact .head _
      · exact .tail _ (.tail _ h))⟩
    clear N17
    have F19 := fr_keep6 F18 K3
    clear F18
    w_strict (with_unfolding_all refine' For_invVF F19 ?k1 ?k2 ?_; (case k1 => exact rfl); (case k2 => exact rfl))
    walk1
    w_strict k_steps
    rename Fr _ _ _ _ => F20
    rename News _ _ _ _ => N20
    rename_i lv h20 l20
    obtain ⟨ta, tb, tc, N21⟩ : ∃ ta tb tc : Tok, News G _ _ ((lv, tupOf [.int kd tk1, .int (13 - (fo.deep : Int)) ta, .int (14 - (fo.deep : Int)) tb, .int 0 tc] 0) :: (du, tupOf [.ref tr, .int (fo.words.length : Nat) tdu] 0) :: (wl, W.listOf ws.toArray cw) :: (new ++ [(320, tabObj #[]), (38, tabObj #[]), (327, tabObj #[])])) := ⟨_, _, _, N20⟩
    clear N20
    obtain ⟨K1, hK1⟩ : ∃ K1 : Led, K1 = (lv, tupOf [.int kd tk1, .int (13 - (fo.deep : Int)) ta, .int (14 - (fo.deep : Int)) tb, .int 0 tc] 0) :: (du, tupOf [.ref tr, .int (fo.words.length : Nat) tdu] 0) :: (wl, W.listOf ws.toArray cw) :: (new ++ [(327, tabObj #[])]) := ⟨_, rfl⟩
    have mlv : (lv, tupOf [.int kd tk1, .int (13 - (fo.deep : Int)) ta, .int (14 - (fo.deep : Int)) tb, .int 0 tc] 0) ∈ K1 := by rw [hK1]; exact .head _
    have mdu : (du, tupOf [.ref tr, .int (fo.words.length : Nat) tdu] 0) ∈ K1 := by rw [hK1]; exact .tail _ (.head _)
    have mwl : (wl, W.listOf ws.toArray cw) ∈ K1 := by rw [hK1]; exact .tail _ (.tail _ (.head _))
    have mnew : ∀ q ∈ new, q ∈ K1 := fun q hq => by rw [hK1]; exact .tail _ (.tail _ (.tail _ (List.mem_append_left _ hq)))
    have m327 : (327, tabObj #[]) ∈ K1 := by rw [hK1]; exact .tail _ (.tail _ (.tail _ (List.mem_append_right _ (.head _))))
    have mtr : TreeIn K1 (.ref tr) fo := ⟨tr, nt, vst, rfl, mnew _ htr, htrs.mono mnew⟩
    have N22 : News G _ _ ([(320, tabObj #[])] ++ ([(38, tabObj #[])] ++ K1)) := news_perm N21 (fun q hq => by
      rw [hK1] at hq
      simp only [List.cons_append, List.nil_append, List.mem_cons, List.mem_append, List.not_mem_nil, or_false] at hq ⊢
      rcases hq with h | h | h | h | h | h | h
      · exact .inr (.inr (.inr (.inr (.inl h))))
      · exact .inr (.inr (.inr (.inr (.inr (.inl h)))))
      · exact .inl h
      · exact .inr (.inl h)
      · exact .inr (.inr (.inl h))
      · exact .inr (.inr (.inr (.inl h)))
      · exact .inr (.inr (.inr (.inr (.inr (.inr h))))))
    have nK : ∀ P : Addr, (P = 320 ∨ P = 38) → ∀ q ∈ K1, q.1 ≠ P := fun P hP q hq => by
      have hPm : (P, tabObj #[]) ∈ [(320, tabObj #[])] ++ ([(38, tabObj #[])] ++ K1) := by rcases hP with rfl | rfl <;> simp
      by_cases hc : q.2.cls = Value.none
      · rw [hK1] at hq
        simp only [List.mem_cons, List.mem_append, List.not_mem_nil, or_false] at hq
        rcases hq with h | h | h | h | h
        · rw [h] at hc; cases hc
        · rw [h] at hc; cases hc
        · rw [h] at hc; cases hc
        · rw [hnew q h] at hc; cases hc
        · rw [h]; rcases hP with rfl | rfl <;> decide
      · exact news_ne N22 (o := q.2) (List.mem_append_right _ (List.mem_append_right _ hq)) hPm (ne_cls hc)
    refine iter_tup2 (fun i m₁ n₁ => Keep6 m₁ wl tr du fo.deep kd ex tkd tk1 tk2 ∧ ∃ t20 t38, n₁ = t20 ++ (t38 ++ K1) ∧ Tab320 t20 ∧ Tab38 t38 ∧ (∀ q ∈ t38, q.1 ≠ 320) ∧ (∀ q ∈ t20, q.1 ≠ 38)) rfl (List.mem_append_right _ (List.mem_append_right _ mlv)) F20 N22 ?_ ?_ ?_ ?_
    · rintro i m₁ n₁ ⟨_, t20, t38, rfl, _⟩
      exact List.mem_append_right _ (List.mem_append_right _ mlv)
    · exact ⟨⟨rfl, rfl, rfl, rfl, rfl, rfl⟩, _, _, rfl, .inl rfl, .inl rfl, by simp, by simp⟩
    · rintro i v m₁ n₁ h3 tk3 I oI hoI hv hI ⟨K4, t20, t38, rfl, hT20, hT38, h3820, h2038⟩ F6 N6
      obtain ⟨kk, tkk, rfl, hkk⟩ := levels hkd (by omega) i v hv
      have F7 := fr_keep6 F6 (K4.other (by decide))
      clear F6
      obtain ⟨p20, m20⟩ := tab_head hT20
      obtain ⟨p38, m38⟩ := tab_head hT38
      have I320 : 320 ≠ I := hI (320, tabObj p20) (List.mem_append_left _ m20)
      have I38 : 38 ≠ I := hI (38, tabObj p38) (List.mem_append_right _ (List.mem_append_left _ m38))
      have IK : ∀ q ∈ K1, q.1 ≠ I := fun q hq => hI q (List.mem_append_right _ (List.mem_append_right _ hq))
      have N7 : News G _ h3 (t20 ++ (t38 ++ ((I, oI) :: K1))) := news_perm N6 (fun q hq => by
        simp only [List.mem_cons, List.mem_append] at hq ⊢
        rcases hq with h | h | h | h
        · exact .inr (.inl h)
        · exact .inr (.inr (.inl h))
        · exact .inl h
        · exact .inr (.inr (.inr h)))
      clear N6
      have hC38 : CodeHd G 42 38 := by assumption
      have hC20 : CodeHd G 324 320 := by assumption
      by_cases hlv : kk + fo.deep ≤ 13
      · w_strict k_steps
        refine read_con w _ _ _ _ _ fo (by omega) (by omega) _ _ _ _ _ _ _ _ _ t20 t38 ((I, oI) :: K1) _ wl cw ws kk _ _ _ (Around.frames_deeper B1.stack) rfl rfl (by k_room) B1 F7 X1 T1 hC38 hC20 N7 hT20 hT38 h3820 h2038 (fun q hq => by
          rcases List.mem_cons.mp hq with h | h
          · rw [h]; exact Ne.symm I320
          · exact nK 320 (.inl rfl) q h) (fun q hq => by
          rcases List.mem_cons.mp hq with h | h
          · rw [h]; exact Ne.symm I38
          · exact nK 38 (.inr rfl) q h) (.tail _ mwl) hws ?_ (fun h => absurd (.inr hlv) h)
        intro _ q b u ws2 nb t20' t38' newr h5 tk5 F8 N8 hT20' hT38' g1 g2 hnr hq hb htr2
        clear F7 N7
        (try dsimp only)
        w_strict k_steps
        rename Fr _ _ _ _ => F8
        rename News _ _ _ _ => N8
        have inK : ∀ q ∈ K1, q ∈ t20' ++ (t38' ++ (newr ++ ((I, oI) :: K1))) := fun q hq => List.mem_append_right _ (List.mem_append_right _ (List.mem_append_right _ (.tail _ hq)))
        have inN : ∀ q ∈ newr, q ∈ t20' ++ (t38' ++ (newr ++ ((I, oI) :: K1))) := fun q hq => List.mem_append_right _ (List.mem_append_right _ (List.mem_append_left _ hq))
        refine ne_dataH (pair_reads N8 (inN _ hq) ⟨b, nb, ws2, rfl, inN _ hb, htr2.mono inN⟩) (pair_reads N8 (inK _ mdu) (mtr.mono inK)) (pair_shaped fo _ (by omega)) (pair_shaped fo _ (by omega)) (by simp only [units_in1, units_deeper, Around.mark_units, units_caller]; have := cLine_is; omega) ?_
        rw [pair_eqv]
        (try dsimp only [Bool.not_true])
        w_strict k_steps
        rename Fr _ _ _ _ => F9
        rename News _ _ _ _ => N9
        refine ⟨_, _, _, t20' ++ (t38' ++ K1), rfl, F9, news_perm N9 (fun q hq => ?_), (fun q hq => ?_), ⟨rfl, rfl, rfl, rfl, rfl, rfl⟩, t20', t38', rfl, hT20', hT38', g1, g2⟩
        · simp only [List.mem_cons, List.mem_append] at hq ⊢
          rcases hq with h | h | h | h
          · exact .inr (.inr (.inr (.inl h)))
          · exact .inl h
          · exact .inr (.inl h)
          · exact .inr (.inr (.inr (.inr h)))
        · rcases List.mem_append.mp hq with h | h
          · exact tab_off N9 hT20' (fun p hp => List.mem_append_left _ hp) (List.mem_append_right _ (List.mem_append_right _ (List.mem_append_right _ (.head _)))) I320 hoI q h
          · rcases List.mem_append.mp h with h | h
            · exact tab_off N9 hT38' (fun p hp => List.mem_append_right _ (List.mem_append_left _ hp)) (List.mem_append_right _ (List.mem_append_right _ (List.mem_append_right _ (.head _)))) I38 hoI q h
            · exact IK q h
      · w_strict k_steps
        refine read_con w _ _ _ _ _ fo (by omega) (by omega) _ _ _ _ _ _ _ _ _ t20 t38 ((I, oI) :: K1) _ wl cw ws kk _ _ _ (Around.frames_deeper B1.stack) rfl rfl (by k_room) B1 F7 X1 T1 hC38 hC20 N7 hT20 hT38 h3820 h2038 (fun q hq => by
          rcases List.mem_cons.mp hq with h | h
          · rw [h]; exact Ne.symm I320
          · exact nK 320 (.inl rfl) q h) (fun q hq => by
          rcases List.mem_cons.mp hq with h | h
          · rw [h]; exact Ne.symm I38
          · exact nK 38 (.inr rfl) q h) (.tail _ mwl) hws (fun h => absurd h (by omega)) ?_
        intro _ t20' t38' h5 tk5 F8 N8 hT20' hT38' g1 g2
        clear F7 N7
        (try dsimp only)
        w_strict k_steps
        rename Fr _ _ _ _ => F9
        rename News _ _ _ _ => N9
        refine ⟨_, _, _, t20' ++ (t38' ++ K1), rfl, F9, news_perm N9 (fun q hq => ?_), (fun q hq => ?_), ⟨rfl, rfl, rfl, rfl, rfl, rfl⟩, t20', t38', rfl, hT20', hT38', g1, g2⟩
        · simp only [List.mem_cons, List.mem_append] at hq ⊢
          rcases hq with h | h | h | h
          · exact .inr (.inr (.inl h))
          · exact .inl h
          · exact .inr (.inl h)
          · exact .inr (.inr (.inr h))
        · rcases List.mem_append.mp hq with h | h
          · exact tab_off N9 hT20' (fun p hp => List.mem_append_left _ hp) (List.mem_append_right _ (List.mem_append_right _ (.head _))) I320 hoI q h
          · rcases List.mem_append.mp h with h | h
            · exact tab_off N9 hT38' (fun p hp => List.mem_append_right _ (List.mem_append_left _ hp)) (List.mem_append_right _ (List.mem_append_right _ (.head _))) I38 hoI q h
            · exact IK q h
    · rintro m₁ n₁ h3 tk3 ⟨K4, t20, t38, rfl, hT20, hT38, h3820, h2038⟩ F6 N6
      have F7 := fr_keep6 F6 K4
      clear F6
      (try dsimp only)
      w_strict k_steps
      rename Fr _ _ _ _ => F8
      rename News _ _ _ _ => N8
      rename_i e0 hx lx o1 hy ly
      refine mul_tup (e0 := .ref e0) (o1 := o1) (n := 0) hex F8 N8 (.head _) ?_
      intro ot kot h9 F9 N9
      obtain ⟨K2, hK2⟩ : ∃ K2 : Led, K2 = (ot, tupOf (List.replicate ex (.ref e0)) kot) :: (e0, tupOf [] 0) :: K1 := ⟨_, rfl⟩
      have mot : (ot, tupOf (List.replicate ex (.ref e0)) kot) ∈ K2 := by rw [hK2]; exact .head _
      have me0 : (e0, tupOf [] 0) ∈ K2 := by rw [hK2]; exact .tail _ (.head _)
      have inK2 : ∀ q ∈ K1, q ∈ K2 := fun q hq => by rw [hK2]; exact .tail _ (.tail _ hq)
      have N10 : News G _ h9 (t20 ++ (t38 ++ K2)) := news_perm N9 (fun q hq => by
        rw [hK2] at hq
        simp only [List.mem_cons, List.mem_append] at hq ⊢
        rcases hq with h | h | h | h | h
        · exact .inr (.inr (.inr (.inl h)))
        · exact .inr (.inr (.inr (.inr (.inl h))))
        · exact .inl h
        · exact .inr (.inr (.inl h))
        · exact .inr (.inr (.inr (.inr (.inr h)))))
      clear N8 N9 F8
      obtain ⟨p20, m20⟩ := tab_head hT20
      obtain ⟨p38, m38⟩ := tab_head hT38
      have nK20 : ∀ q ∈ K2, q.1 ≠ 320 := fun q hq => by
        have hq' := hq
        rw [hK2] at hq'
        rcases List.mem_cons.mp hq' with h | h
        · exact news_ne N10 (o := q.2) (List.mem_append_right _ (List.mem_append_right _ hq)) (List.mem_append_left _ m20) (ne_cls (by rw [h]; intro e; cases e))
        · rcases List.mem_cons.mp h with h | h
          · exact news_ne N10 (o := q.2) (List.mem_append_right _ (List.mem_append_right _ hq)) (List.mem_append_left _ m20) (ne_cls (by rw [h]; intro e; cases e))
          · exact nK 320 (.inl rfl) q h
      have nK38 : ∀ q ∈ K2, q.1 ≠ 38 := fun q hq => by
        have hq' := hq
        rw [hK2] at hq'
        rcases List.mem_cons.mp hq' with h | h
        · exact news_ne N10 (o := q.2) (List.mem_append_right _ (List.mem_append_right _ hq)) (List.mem_append_right _ (List.mem_append_left _ m38)) (ne_cls (by rw [h]; intro e; cases e))
        · rcases List.mem_cons.mp h with h | h
          · exact news_ne N10 (o := q.2) (List.mem_append_right _ (List.mem_append_right _ hq)) (List.mem_append_right _ (List.mem_append_left _ m38)) (ne_cls (by rw [h]; intro e; cases e))
          · exact nK 38 (.inr rfl) q h
      have hes := empties_size ex
      have hed := empties_deep ex
      have hC38 : CodeHd G 42 38 := by assumption
      have hC20 : CodeHd G 324 320 := by assumption
      (try dsimp only)
      w_strict k_steps
      rename Fr _ _ _ _ => F11
      rename News _ _ _ _ => N11
      refine words_con w _ _ _ _ _ (empties ex) (by omega) _ _ _ _ _ _ _ _ _ _ _ _ _ (Around.frames_deeper B1.stack) rfl rfl rfl (by k_room) B1 F11 X1 N11 T1 ⟨ot, kot, _, rfl, List.mem_append_right _ (List.mem_append_right _ mot), empties_trees (n := 0) (List.mem_append_right _ (List.mem_append_right _ me0)) ex⟩ ?_
      intro w2 ws2 c2 tl2 h12 tk12 F12 N12 hws2 _ _
      clear F11 N11
      (try dsimp only)
      w_strict k_steps
      have hwle := Fo.words_length fo
      have hwle2 := Fo.words_length (empties ex)
      have hlw := strsAre_len hws
      have hlw2 := strsAre_len hws2
      refine add_lists F12 N12 (vs := ws) (ws := ws2) (News.isList N12 (.tail _ (List.mem_append_right _ (List.mem_append_right _ (List.mem_append_right _ (inK2 _ mwl)))))) (News.isList N12 (.head _)) ?_ (by rw [sizeLine_eq]; omega)
      intro h13 F13 N13
      dsimp only at F13 N13 ⊢
      generalize Array.size h12.objs = w3 at N13 ⊢
      have N14 : News G _ h13 (t20 ++ (t38 ++ ((w3, W.listOf (ws ++ ws2).toArray 0) :: K2))) := news_perm N13 (fun q hq => by
        simp only [List.mem_cons, List.mem_append] at hq ⊢
        rcases hq with h | h | h | h
        · exact .inr (.inr (.inr (.inl h)))
        · exact .inr (.inr (.inr (.inr (.inl h))))
        · exact .inl h
        · exact .inr (.inr (.inr (.inr (.inr h)))))
      clear N12 N13 F12
      w_strict k_steps
      refine read_con w _ _ _ _ _ (fo.app (empties ex)) (by rw [Fo.size_app]; omega) (by rw [Fo.deep_app]; omega) _ _ _ _ _ _ _ _ _ t20 t38 ((w3, W.listOf (ws ++ ws2).toArray 0) :: K2) _ w3 0 (ws ++ ws2) 0 _ _ _ (Around.frames_deeper B1.stack) rfl rfl (by k_room) B1 F13 X1 T1 hC38 hC20 N14 hT20 hT38 h3820 h2038 (fun q hq => by
          rcases List.mem_cons.mp hq with h | h
          · exact news_ne N14 (o := q.2) (List.mem_append_right _ (List.mem_append_right _ hq)) (List.mem_append_left _ m20) (ne_cls (by rw [h]; intro e; cases e))
          · exact nK20 q h) (fun q hq => by
          rcases List.mem_cons.mp hq with h | h
          · exact news_ne N14 (o := q.2) (List.mem_append_right _ (List.mem_append_right _ hq)) (List.mem_append_right _ (List.mem_append_left _ m38)) (ne_cls (by rw [h]; intro e; cases e))
          · exact nK38 q h) (.head _) (by rw [Fo.words_app]; exact strsAre_app hws hws2) ?_ (fun h => absurd (.inr (by rw [Fo.deep_app]; omega)) h)
      intro _ q b u ws3 nb t20' t38' newr h15 tk15 F15 N15 hT20' hT38' g1 g2 hnr hq hb htr2
      clear F13 N14
      (try dsimp only)
      w_strict k_steps
      have inA : ∀ q ∈ K2, q ∈ t20' ++ (t38' ++ (newr ++ ((w3, W.listOf (ws ++ ws2).toArray 0) :: K2))) := fun q hq => List.mem_append_right _ (List.mem_append_right _ (List.mem_append_right _ (.tail _ hq)))
      have inN : ∀ q ∈ newr, q ∈ t20' ++ (t38' ++ (newr ++ ((w3, W.listOf (ws ++ ws2).toArray 0) :: K2))) := fun q hq => List.mem_append_right _ (List.mem_append_right _ (List.mem_append_left _ hq))
      have hvt := trees_le htrs
      refine add_trees F15 N15 (inA _ (inK2 _ (mnew _ htr))) (htrs.mono fun q hq => inA _ (inK2 _ (mnew _ hq))) (inA _ mot) (empties_trees (inA _ me0) ex) (by rw [sizeLine_eq, List.length_replicate]; omega) ?_
      intro t5 v5 k5 h16 F16 N16 htr5
      clear F15 N15
      (try dsimp only)
      w_strict k_steps
      refine len_list ⟨_, (N16 _ (.tail _ (inA _ (inK2 _ mwl)))).1, rfl, _, rfl⟩ (by simp; omega) ?_
      (try dsimp only)
      w_strict k_steps
      rename Fr _ _ _ _ => F17
      rename News _ _ _ _ => N17
      have e9 : (ws.toArray.size : Int) + 2 * (ex : Int) = ((fo.app (empties ex)).words.length : Nat) := by
        have h1 := Fo.words_length (fo.app (empties ex))
        rw [Fo.size_app] at h1
        rw [ewl]
        omega
      rw [e9] at N17
      refine ne_dataH (pair_reads N17 (.tail _ (.tail _ (inN _ hq))) ⟨b, nb, ws3, rfl, .tail _ (.tail _ (inN _ hb)), htr2.mono fun q hq => .tail _ (.tail _ (inN _ hq))⟩) (pair_reads N17 (.head _) ⟨t5, k5, v5, rfl, .tail _ (.head _), htr5.mono fun q hq => .tail _ (.tail _ hq)⟩) (pair_shaped _ _ (by rw [Fo.deep_app]; omega)) (pair_shaped _ _ (by rw [Fo.deep_app]; omega)) (by simp only [units_in1, units_deeper, Around.mark_units, units_caller]; have := cLine_is; omega) ?_
      rw [pair_eqv]
      have N18 : News G _ _ (t20' ++ (t38' ++ K1)) := news_perm N17 (fun q hq => by
        rcases List.mem_append.mp hq with h | h
        · exact .tail _ (.tail _ (List.mem_append_left _ h))
        · rcases List.mem_append.mp h with h | h
          · exact .tail _ (.tail _ (List.mem_append_right _ (List.mem_append_left _ h)))
          · exact .tail _ (.tail _ (inA _ (inK2 _ h))))
      clear N17
      (try dsimp only [Bool.not_true])
      w_strict k_steps
      rename Fr _ _ _ _ => F19
      rename News _ _ _ _ => N19
      rename_i tkw lw hw lw1
      refine add_lists F19 N19 (vs := ws) (ws := [Value.str (Str.ofString "WHEN") _]) (News.isList N19 (.tail _ (List.mem_append_right _ (List.mem_append_right _ mwl)))) (News.isList N19 (.head _)) ?_ (by rw [sizeLine_eq]; simp only [List.length_cons, List.length_nil]; omega)
      intro h20' F20' N20'
      dsimp only at F20' N20' ⊢
      generalize Array.size hw.objs = w4 at N20' ⊢
      have N21' := news_perm (b := (w4, W.listOf (ws ++ [Value.str (Str.ofString "WHEN") _]).toArray 0) :: (t20' ++ (t38' ++ K1))) N20' (fun q hq => by
        rcases List.mem_cons.mp hq with h | h
        · rw [h]; exact .head _
        · exact .tail _ (.tail _ h))
      clear N20' N19 F19
      w_strict k_steps
      refine reader_con w _ _ _ _ _ _ _ _ _ _ _ _ _ _ _ w4 0 _ (fo.words ++ [Str.ofString "WHEN"]) _ _ (Around.frames_deeper B1.stack) rfl rfl rfl (by k_room) B1 F20' X1 N21' T1 (.head _) (strsAre_app hws (.cons _ _ .nil)) (by simp only [List.length_append, List.length_cons, List.length_nil]; omega) ?_
      intro r dr tl nd toks nt R k₁ k₂ k₃ it h22 tk22 F22 N22' hr htl htok hsub hRn
      clear F20' N21'
      (try dsimp only)
      w_strict k_steps
      rename Fr _ _ _ _ => F24
      rename News _ _ _ _ => N23
      rename_i Df y1 lDf Dt y2 lDt y3 y4 y5
      have N24 := news_tail N23
      clear N23
      have subR : ∀ q ∈ t20' ++ (t38' ++ K1), q ∈ R := fun q hq => hsub q (.tail _ hq)
      have s20 : ∀ q ∈ t20', q ∈ R := fun q hq => subR q (List.mem_append_left _ hq)
      have s38 : ∀ q ∈ t38', q ∈ R := fun q hq => subR q (List.mem_append_right _ (List.mem_append_left _ hq))
      have sK : ∀ q ∈ K1, q ∈ R := fun q hq => subR q (List.mem_append_right _ (List.mem_append_right _ hq))
      obtain ⟨p20', m20'⟩ := tab_head hT20'
      obtain ⟨p38', m38'⟩ := tab_head hT38'
      obtain ⟨Rf, hRf⟩ : ∃ Rf : Led, Rf = R.filter (fun q => q.1 != 38 && q.1 != 320 && q.1 != 327) := ⟨_, rfl⟩
      have fin : ∀ q ∈ Rf, q ∈ R ∧ q.1 ≠ 38 ∧ q.1 ≠ 320 ∧ q.1 ≠ 327 := fun q hq => by
        rw [hRf, List.mem_filter] at hq
        obtain ⟨h1, h2⟩ := hq
        simp only [Bool.and_eq_true, bne_iff_ne] at h2
        exact ⟨h1, h2.1.1, h2.1.2, h2.2⟩
      have pl : ∀ q ∈ R, q.2.cls ≠ Value.none → q ∈ Rf := fun q hq hc => by
        rw [hRf, List.mem_filter]
        have n1 := news_ne N24 (o := q.2) (o' := tabObj p38') (.tail _ (.tail _ hq)) (.tail _ (.tail _ (s38 _ m38'))) (ne_cls hc)
        have n2 := news_ne N24 (o := q.2) (o' := tabObj p20') (.tail _ (.tail _ hq)) (.tail _ (.tail _ (s20 _ m20'))) (ne_cls hc)
        have n3 := news_ne N24 (o := q.2) (o' := tabObj #[]) (.tail _ (.tail _ hq)) (.tail _ (.tail _ (sK _ m327))) (ne_cls hc)
        simp only [Bool.and_eq_true, bne_iff_ne]
        exact ⟨hq, ⟨n1, n2⟩, n3⟩
      have hrF := pl _ hr (by intro e; cases e)
      have htlF := pl _ htl (by intro e; cases e)
      have hwlF := pl _ (sK _ mwl) (by intro e; cases e)
      have hnewF : ∀ q ∈ new, q ∈ Rf := fun q hq => pl q (sK q (mnew q hq)) (by rw [hnew q hq]; intro e; cases e)
      have htokF : TokensIn w.params Rf toks (fo.words ++ [Str.ofString "WHEN"]) := ⟨htok.1, fun i v x e1 e2 => by
        obtain ⟨a, d, k₁, k₂, k₃, k₄, u, t, e, h1, h2⟩ := htok.2 i v x e1 e2
        exact ⟨a, d, k₁, k₂, k₃, k₄, u, t, e, pl _ h1 (by intro e; cases e), pl _ h2 (by intro e; cases e)⟩⟩
      have htl2 : toks.length < 3000 := by
        rw [htok.1]
        simp only [List.length_append, List.length_cons, List.length_nil]; omega
      refine While_fixed (n₀ := fo.size) (fun n nw => ∃ done rem vs cap t38 t27 new2 it', fo = Fo.app done rem ∧ n = rem.size ∧ TreesIn new2 vs done ∧ nw = (Df, W.listOf vs.toArray cap) :: (dr, rdD w.params k₁ k₂ k₃ tl (done.words.length : Nat) it' nd) :: (t38 ++ (t27 ++ (new2 ++ (t20' ++ Rf)))) ∧ Tab38 t38 ∧ TabAt 327 178 45 (lamQ (Str.ofString "law")) t27 ∧ (∀ q ∈ t38, q.1 ≠ dr) ∧ (∀ q ∈ t27, q.1 ≠ dr) ∧ (∀ q ∈ new2, q.2.cls = .type "tuple")) F24 (news_perm N24 (b := (Df, W.listOf (List.toArray []) 0) :: (dr, rdD w.params k₁ k₂ k₃ tl 0 it nd) :: (t38' ++ ([(327, tabObj #[])] ++ ([] ++ (t20' ++ Rf))))) (fun q hq => ?_)) PassesOwn.leaving ⟨.nil, fo, [], 0, t38', [(327, tabObj #[])], [], it, rfl, rfl, .nil, rfl, hT38', .inl rfl, fun q hq => hRn q (s38 q hq), fun q hq => hRn q (by rw [List.mem_singleton.mp hq]; exact sK _ m327), fun _ h => nomatch h⟩ ?_
      · simp only [List.cons_append, List.nil_append, List.mem_cons, List.mem_append] at hq ⊢
        rcases hq with h | h | h | h | h | h
        · exact .inl h
        · exact .inr (.inl h)
        · exact .inr (.inr (s38 q h))
        · exact .inr (.inr (by rw [h]; exact sK _ m327))
        · exact .inr (.inr (s20 q h))
        · exact .inr (.inr (fin q h).1)
      rintro n nw h3 tk3 F3 N3 ⟨done, rem, vs, cap, t38, t27, new2, it3, hfo, hn, htr3, rfl, hT38a, hT27, h38dr, h27dr, hnew2⟩
      obtain ⟨R5, hR5⟩ : ∃ R5 : Led, R5 = t38 ++ (t27 ++ (new2 ++ (t20' ++ Rf))) := ⟨_, rfl⟩
      have up : ∀ {q : Addr × Obj}, q ∈ Rf → q ∈ R5 := fun h => by rw [hR5]; exact List.mem_append_right _ (List.mem_append_right _ (List.mem_append_right _ (List.mem_append_right _ h)))
      have N4 : News G _ h3 ((dr, rdD w.params k₁ k₂ k₃ tl (done.words.length : Nat) it3 nd) :: (r, instObj 253 dr) :: (Df, W.listOf vs.toArray cap) :: R5) := news_perm N3 (fun q hq => by
        rw [hR5] at hq
        rcases List.mem_cons.mp hq with h | h
        · rw [h]; exact .tail _ (.head _)
        · rcases List.mem_cons.mp h with h | h
          · rw [h]; exact .tail _ (.tail _ (hR5 ▸ up hrF))
          · rcases List.mem_cons.mp h with h | h
            · rw [h]; exact .head _
            · exact .tail _ (.tail _ h))
      clear F24 N24
      have hsz3 : fo.size = done.size + rem.size := by rw [hfo, Fo.size_app]
      have hw3 : fo.words.length = done.words.length + rem.words.length := by rw [hfo, Fo.words_app, List.length_append]
      have hvl : vs.length ≤ 1000 := by
        have h1 := trees_le htr3
        omega
      cases rem with
      | nil =>
        have hfw : done.words.length = fo.words.length := by
          have : (Fo.nil).words.length = 0 := rfl
          omega
        w_strict k_steps
        refine len_list ⟨_, (N4 _ (.tail _ (.tail _ (.tail _ (up hwlF))))).1, rfl, _, rfl⟩ (by simp; omega) ?_
        (try dsimp only)
        w_strict k_steps
        rename Fr _ _ _ _ => F6
        have hdf : done = fo := by rw [hfo, Fo.app_nil]
        rw [hdf] at htr3
        refine kde_tupleOf (zs := vs) F6 N4 (News.isList N4 (.tail _ (.tail _ (.head _)))) (by simp; omega) (by simp) ?_
        intro t6 h6 F7 N7 l7
        clear F6 N4
        have i2 : ∀ q ∈ new2, q ∈ R5 := fun q hq => by rw [hR5]; exact List.mem_append_right _ (List.mem_append_right _ (List.mem_append_left _ hq))
        (try dsimp only)
        w_strict k_steps
        rename News _ _ _ _ => N8
        refine eq_dataH (da := .tuple fo.data) (db := .tuple fo.data) (as := []) (bs := []) (TreeIn.reads N8 ⟨t6, 0, vs, rfl, .head _, htr3.mono fun q hq => .tail _ (.tail _ (.tail _ (.tail _ (i2 q hq))))⟩) (TreeIn.reads N8 ⟨tr, _, vst, rfl, .tail _ (.tail _ (.tail _ (.tail _ (up (hnewF _ htr))))), htrs.mono fun q hq => .tail _ (.tail _ (.tail _ (.tail _ (up (hnewF _ hq)))))⟩) (fo.shaped (by omega)) (fo.shaped (by omega)) (by simp only [units_deeper, Around.mark_units, units_caller]; have := cLine_is; omega) ?_
        rw [tree_eqv]
        w_strict k_steps
        refine len_list ⟨_, (N8 _ (.tail _ (.tail _ (.tail _ (.tail _ (up hwlF)))))).1, rfl, _, rfl⟩ (by simp; omega) ?_
        (try dsimp only)
        walk1
        have eb : ((done.words.length : Int) == (ws.toArray.size : Int)) = true := by rw [beq_iff_eq]; omega
        rw [eb]
        w_strict k_steps
        rename Fr _ _ _ _ => F9
        rename News _ _ _ _ => N9
        rename_i lz hz llz
        have j38 : ∀ q ∈ t38, q ∈ (lz, W.listOf (List.toArray []) 0) :: (t6, tupOf vs 0) :: (dr, rdD w.params k₁ k₂ k₃ tl (done.words.length : Nat) it3 nd) :: (r, instObj 253 dr) :: (Df, W.listOf vs.toArray cap) :: R5 := fun q hq => .tail _ (.tail _ (.tail _ (.tail _ (.tail _ (by rw [hR5]; exact List.mem_append_left _ hq)))))
        have j27 : ∀ q ∈ t27, q ∈ (lz, W.listOf (List.toArray []) 0) :: (t6, tupOf vs 0) :: (dr, rdD w.params k₁ k₂ k₃ tl (done.words.length : Nat) it3 nd) :: (r, instObj 253 dr) :: (Df, W.listOf vs.toArray cap) :: R5 := fun q hq => .tail _ (.tail _ (.tail _ (.tail _ (.tail _ (by rw [hR5]; exact List.mem_append_right _ (List.mem_append_left _ hq))))))
        have j20 : ∀ q ∈ t20', q ∈ (lz, W.listOf (List.toArray []) 0) :: (t6, tupOf vs 0) :: (dr, rdD w.params k₁ k₂ k₃ tl (done.words.length : Nat) it3 nd) :: (r, instObj 253 dr) :: (Df, W.listOf vs.toArray cap) :: R5 := fun q hq => .tail _ (.tail _ (.tail _ (.tail _ (.tail _ (by rw [hR5]; exact List.mem_append_right _ (List.mem_append_right _ (List.mem_append_right _ (List.mem_append_left _ hq))))))))
        obtain ⟨q20, w20⟩ := tab_head hT20'
        obtain ⟨q38, w38⟩ := tab_head hT38a
        obtain ⟨Rz, hRz⟩ : ∃ Rz : Led, Rz = (lz, W.listOf (List.toArray []) 0) :: t27 := ⟨_, rfl⟩
        have N10 : News G _ _ (t20' ++ (t38 ++ Rz)) := news_perm N9 (fun q hq => by
          rw [hRz] at hq
          rcases List.mem_append.mp hq with h | h
          · exact j20 q h
          · rcases List.mem_append.mp h with h | h
            · exact j38 q h
            · rcases List.mem_cons.mp h with h | h
              · rw [h]; exact .head _
              · exact j27 q h)
        refine read_con w _ _ _ _ _ .nil (by decide) (by decide) _ _ _ _ _ _ _ _ _ t20' t38 Rz _ lz 0 [] 13 _ _ _ (Around.frames_deeper B1.stack) rfl rfl (by k_room) B1 F9 X1 T1 hC38 hC20 N10 hT20' hT38a (tab_apart N9 hT38a hT20' j38 j20 (by decide)) (tab_apart N9 hT20' hT38a j20 j38 (by decide)) (fun q hq => by
            rw [hRz] at hq
            rcases List.mem_cons.mp hq with h | h
            · rw [h]; exact news_ne N9 (o := W.listOf (List.toArray []) 0) (.head _) (j20 _ w20) (ne_cls (by intro e; cases e))
            · exact tab_apart N9 hT27 hT20' j27 j20 (by decide) q h) (fun q hq => by
            rw [hRz] at hq
            rcases List.mem_cons.mp hq with h | h
            · rw [h]; exact news_ne N9 (o := W.listOf (List.toArray []) 0) (.head _) (j38 _ w38) (ne_cls (by intro e; cases e))
            · exact tab_apart N9 hT27 hT38a j27 j38 (by decide) q h) (by rw [hRz]; exact .head _) .nil ?_ (fun h => absurd (.inl rfl) h)
        intro _ qz bz uz wsz nbz t20z t38z newz h15 tk15 F15 N15 hT20z hT38z _ _ hnz hqz hbz htrz
        clear F9 N9 N10
        (try dsimp only)
        w_strict k_steps
        rename Fr _ _ _ _ => F16
        rename News _ _ _ _ => N16
        rename_i ez hz1 lz1 pz hz2 lz2
        have inz : ∀ q ∈ newz, q ∈ (pz, tupOf [.ref ez, .int 0 tk15] 0) :: (ez, tupOf [] 0) :: (t20z ++ (t38z ++ (newz ++ Rz))) := fun q hq => .tail _ (.tail _ (List.mem_append_right _ (List.mem_append_right _ (List.mem_append_left _ hq))))
        obtain ⟨a20, z20⟩ := tab_head hT20z
        obtain ⟨a38, z38⟩ := tab_head hT38z
        obtain ⟨a27, z27⟩ := tab_head hT27
        refine eq_dataH (da := pairD .nil 0) (db := pairD .nil 0) (as := []) (bs := []) (pair_reads (n := 0) N16 (inz _ hqz) ⟨bz, nbz, wsz, rfl, inz _ hbz, htrz.mono inz⟩) (pair_reads (n := 0) N16 (.head _) ⟨ez, 0, [], rfl, .tail _ (.head _), .nil⟩) (pair_shaped _ _ (by decide)) (pair_shaped _ _ (by decide)) (by simp only [units_deeper, Around.mark_units, units_caller]; have := cLine_is; omega) ?_
        rw [pair_eqv]
        refine ⟨?_, GrownAt.of N16 (.tail _ (.tail _ (List.mem_append_left _ z20))), GrownAt.of N16 (.tail _ (.tail _ (List.mem_append_right _ (List.mem_append_left _ z38)))), GrownAt.of N16 (.tail _ (.tail _ (List.mem_append_right _ (List.mem_append_right _ (List.mem_append_right _ (by rw [hRz]; exact .tail _ z27)))))), True.intro⟩
        refine ⟨.inl ⟨_, .bool true, [], rfl, fun _ => rfl, ?_, ?_, fun _ => ⟨List.nodup_nil, fun _ h => nomatch h⟩⟩, F16.keep, rfl, ?_⟩
        · exact .bool true
        · exact post_true script
        · assumption
      | cons k1 r1 =>
        have hfw : done.words.length < ws.toArray.size := by
          have : (Fo.cons k1 r1).words.length = 2 * (k1.size + r1.size + 1) := Fo.words_length _
          omega
        w_strict k_steps
        refine len_list ⟨_, (N4 _ (.tail _ (.tail _ (.tail _ (up hwlF))))).1, rfl, _, rfl⟩ (by simp; omega) ?_
        (try dsimp only)
        w_strict k_steps
        rename Fr _ _ _ _ => F5
        have hC27 : CodeHd G 331 327 := by assumption
        have hfd : fo.deep = max done.deep (max (k1.deep + 1) r1.deep) := by rw [hfo, Fo.deep_app]; rfl
        have hks : (Fo.cons k1 r1).size = k1.size + r1.size + 1 := rfl
        obtain ⟨q38, m38''⟩ := tab_head hT38a
        obtain ⟨q27, m27''⟩ := tab_head hT27
        have i38 : ∀ q ∈ t38, q ∈ (Df, W.listOf vs.toArray cap) :: (dr, rdD w.params k₁ k₂ k₃ tl (done.words.length : Nat) it3 nd) :: (t38 ++ (t27 ++ (new2 ++ (t20' ++ Rf)))) := fun q hq => .tail _ (.tail _ (List.mem_append_left _ hq))
        have i27 : ∀ q ∈ t27, q ∈ (Df, W.listOf vs.toArray cap) :: (dr, rdD w.params k₁ k₂ k₃ tl (done.words.length : Nat) it3 nd) :: (t38 ++ (t27 ++ (new2 ++ (t20' ++ Rf)))) := fun q hq => .tail _ (.tail _ (List.mem_append_right _ (List.mem_append_left _ hq)))
        have i2 : ∀ q ∈ new2, q ∈ (Df, W.listOf vs.toArray cap) :: (dr, rdD w.params k₁ k₂ k₃ tl (done.words.length : Nat) it3 nd) :: (t38 ++ (t27 ++ (new2 ++ (t20' ++ Rf)))) := fun q hq => .tail _ (.tail _ (List.mem_append_right _ (List.mem_append_right _ (List.mem_append_left _ hq))))
        have i20 : ∀ q ∈ t20', q ∈ (Df, W.listOf vs.toArray cap) :: (dr, rdD w.params k₁ k₂ k₃ tl (done.words.length : Nat) it3 nd) :: (t38 ++ (t27 ++ (new2 ++ (t20' ++ Rf)))) := fun q hq => .tail _ (.tail _ (List.mem_append_right _ (List.mem_append_right _ (List.mem_append_right _ (List.mem_append_left _ hq)))))
        have n2738 : ∀ q ∈ t27, q.1 ≠ 38 := tab_apart N3 hT27 hT38a i27 i38 (by decide)
        have n3827 : ∀ q ∈ t38, q.1 ≠ 327 := tab_apart N3 hT38a hT27 i38 i27 (by decide)
        have n2038 : ∀ q ∈ t20', q.1 ≠ 38 := tab_apart N3 hT20' hT38a i20 i38 (by decide)
        have n2027 : ∀ q ∈ t20', q.1 ≠ 327 := tab_apart N3 hT20' hT27 i20 i27 (by decide)
        have tn : ∀ q ∈ new2, ∀ P ps, (P, tabObj ps) ∈ (Df, W.listOf vs.toArray cap) :: (dr, rdD w.params k₁ k₂ k₃ tl (done.words.length : Nat) it3 nd) :: (t38 ++ (t27 ++ (new2 ++ (t20' ++ Rf)))) → q.1 ≠ P := fun q hq P ps hP =>
          news_ne N3 (o := q.2) (i2 q hq) hP (ne_cls (by rw [hnew2 q hq]; intro e; cases e))
        have N5 : News G _ _ (((dr, rdD w.params k₁ k₂ k₃ tl (done.words.length : Nat) it3 nd) :: (Df, W.listOf vs.toArray cap) :: t38) ++ (t27 ++ (new2 ++ (t20' ++ Rf)))) := news_perm N4 (fun q hq => by
          rw [hR5]
          simp only [List.cons_append, List.mem_cons] at hq ⊢
          rcases hq with h | h | h
          · exact .inl h
          · exact .inr (.inr (.inl h))
          · exact .inr (.inr (.inr h)))
        clear N4
        refine lam_tab (P := 327) (pre := (dr, rdD w.params k₁ k₂ k₃ tl (done.words.length : Nat) it3 nd) :: (Df, W.listOf vs.toArray cap) :: t38) (tab := t27) (rest := new2 ++ (t20' ++ Rf)) F5 N5 T1 hC27 hT27 (fun q hq => ?_) (fun q hq => ?_) rfl rfl ?_
        · rcases List.mem_cons.mp hq with h | h
          · rw [h]; exact news_ne N3 (o := rdD w.params k₁ k₂ k₃ tl (done.words.length : Nat) it3 nd) (.tail _ (.head _)) (i27 _ m27'') (ne_cls (by intro e; cases e))
          · rcases List.mem_cons.mp h with h | h
            · rw [h]; exact news_ne N3 (o := W.listOf vs.toArray cap) (.head _) (i27 _ m27'') (ne_cls (by intro e; cases e))
            · exact n3827 q h
        · rcases List.mem_append.mp hq with h | h
          · exact tn q h 327 _ (i27 _ m27'')
          · rcases List.mem_append.mp h with h | h
            · exact n2027 q h
            · exact (fin q h).2.2.2
        intro f c' oc vsc tq ctv h8 tk8 t27' F8 N8 hT27' hcT hdc hvc hsep hlt
        clear F5 N5
        (try dsimp only)
        w_strict k_steps
        rename Fr _ _ _ _ => F9
        have n27dr : ∀ q ∈ t27', q.1 ≠ dr := hsep dr ⟨_, .head _⟩ h27dr
        have n2738' : ∀ q ∈ t27', q.1 ≠ 38 := hsep 38 ⟨_, List.mem_append_left _ (.tail _ (.tail _ m38''))⟩ n2738
        have hf38 : f ≠ 38 := Nat.ne_of_gt (hlt _ (List.mem_append_left _ (.tail _ (.tail _ m38''))))
        have hfdr : f ≠ dr := Nat.ne_of_gt (hlt _ (.head _))
        have hDdr : Df ≠ dr := Nat.ne_of_gt lDf.1
        have hD38 : Df ≠ 38 := news_ne N3 (o := W.listOf vs.toArray cap) (.head _) (i38 _ m38'') (ne_cls (by intro e; cases e))
        obtain ⟨pm, N10⟩ : ∃ pm : Value, News G _ _ ((f, verbFn (lamQ (Str.ofString "law")) { line := 178, col := 52, endLine := 178, endCol := 56 } { line := 178, col := 58, endLine := 178, endCol := 66 } pm c' ctv) :: (((dr, rdD w.params k₁ k₂ k₃ tl (done.words.length : Nat) it3 nd) :: (Df, W.listOf vs.toArray cap) :: t38) ++ (t27' ++ (new2 ++ (t20' ++ Rf))))) := ⟨_, N8⟩
        clear N8
        obtain ⟨fo', hfo'⟩ : ∃ o : Obj, o = verbFn (lamQ (Str.ofString "law")) { line := 178, col := 52, endLine := 178, endCol := 56 } { line := 178, col := 58, endLine := 178, endCol := 66 } pm c' ctv := ⟨_, rfl⟩
        rw [← hfo'] at N10
        obtain ⟨Rs, hRs⟩ : ∃ Rs : Led, Rs = (f, fo') :: (Df, W.listOf vs.toArray cap) :: (t27' ++ (new2 ++ (t20' ++ Rf))) := ⟨_, rfl⟩
        have N11 : News G _ _ ((dr, rdD w.params k₁ k₂ k₃ tl (done.words.length : Nat) it3 nd) :: (t38 ++ Rs)) := news_perm N10 (fun q hq => by
          rw [hRs] at hq
          simp only [List.cons_append, List.mem_cons, List.mem_append] at hq ⊢
          rcases hq with h | h | h | h | h
          · exact .inr (.inl h)
          · exact .inr (.inr (.inr (.inl h)))
          · exact .inl h
          · exact .inr (.inr (.inl h))
          · exact .inr (.inr (.inr (.inr h))))
        clear N10
        have inF : ∀ q ∈ Rf, q ∈ Rs := fun q hq => by rw [hRs]; exact .tail _ (.tail _ (List.mem_append_right _ (List.mem_append_right _ (List.mem_append_right _ hq))))
        have Sb : Sig w.params Rs r dr tl toks nt (fo.words ++ [Str.ofString "WHEN"]) := ⟨inF _ hrF, inF _ htlF, htokF.mono inF, htl2, fun q hq => by
            rw [hRs] at hq
            rcases List.mem_cons.mp hq with h | h
            · rw [h]; exact hfdr
            · rcases List.mem_cons.mp h with h | h
              · rw [h]; exact hDdr
              · rcases List.mem_append.mp h with h | h
                · exact n27dr q h
                · rcases List.mem_append.mp h with h | h
                  · exact news_ne N3 (o := q.2) (i2 q h) (.tail _ (.head _)) (ne_cls (by rw [hnew2 q h]; intro e; have e1 : Value.type "tuple" = Value.type "dict" := e; simp at e1))
                  · rcases List.mem_append.mp h with h | h
                    · exact hRn q (s20 q h)
                    · exact hRn q (fin q h).1, fun q hq => by
            rw [hRs] at hq
            rcases List.mem_cons.mp hq with h | h
            · rw [h]; exact hf38
            · rcases List.mem_cons.mp h with h | h
              · rw [h]; exact hD38
              · rcases List.mem_append.mp h with h | h
                · exact n2738' q h
                · rcases List.mem_append.mp h with h | h
                  · exact tn q h 38 _ (i38 _ m38'')
                  · rcases List.mem_append.mp h with h | h
                    · exact n2038 q h
                    · exact (fin q h).2.1⟩
        have hwd : (fo.words ++ [Str.ofString "WHEN"]).drop done.words.length = Str.ofString "IF" :: (k1.words ++ Str.ofString "END-IF" :: (r1.words ++ [Str.ofString "WHEN"])) := by
          rw [hfo, Fo.words_app, List.append_assoc, List.drop_left]
          simp [Fo.words]
        refine stmt_all w _ _ _ _ _ k1 (by omega) _ _ _ _ _ _ _ _ _ _ _ _ _ _ _ _ _ _ _ _ _ _ _ _ done.words.length 0 _ (r1.words ++ [Str.ofString "WHEN"]) _ _ (Around.frames_deeper B1.stack) rfl rfl rfl (by k_room) B1 F9 X1 T1 (by assumption) N11 hT38a h38dr Sb (ch_con w _ _ _ _ _ (c := f) (cs := [(f, fo'), (c', oc)]) hdc hvc (by rw [hfo']; exact .head _) (.tail _ (.head _))) (fun q hq => ?_) hwd ?_ (fun h => absurd (by omega) h)
        · rw [hRs]
          rcases List.mem_cons.mp hq with h | h
          · rw [h]; exact .head _
          · rw [List.mem_singleton.mp h]; exact .tail _ (.tail _ (List.mem_append_left _ hcT))
        intro _ v vs1 n1 tab1 new1 it5 h5 tk5 F10 N12 hT1 hTn1 hnew1 ht1 htr1
        obtain ⟨R2, hR2⟩ : ∃ R2 : Led, R2 = (dr, rdD w.params k₁ k₂ k₃ tl (done.words.length + (k1.words.length + 2) : Nat) it5 nd) :: (tab1 ++ (t27' ++ ((new1 ++ new2) ++ (t20' ++ Rf)))) := ⟨_, rfl⟩
        have jRs : ∀ q ∈ Rs, q ∈ (dr, rdD w.params k₁ k₂ k₃ tl (done.words.length + (k1.words.length + 2) : Nat) it5 nd) :: (tab1 ++ (new1 ++ Rs)) := fun q hq => .tail _ (List.mem_append_right _ (List.mem_append_right _ hq))
        have hDm := jRs (Df, W.listOf vs.toArray cap) (by rw [hRs]; exact .tail _ (.head _))
        have hRD : ∀ q ∈ R2, q.1 ≠ Df := fun q hq => by
          rw [hR2] at hq
          rcases List.mem_cons.mp hq with h | h
          · rw [h]; exact Ne.symm hDdr
          · rcases List.mem_append.mp h with h | h
            · obtain ⟨vf, hvf⟩ := tab_fields hT1 q h
              exact news_ne N12 (o := q.2) (.tail _ (List.mem_append_left _ h)) hDm (ne_list hvf)
            · rcases List.mem_append.mp h with h | h
              · obtain ⟨vf, hvf⟩ := tab_fields hT27' q h
                exact news_ne N12 (o := q.2) (jRs q (by rw [hRs]; exact .tail _ (.tail _ (List.mem_append_left _ h)))) hDm (ne_list hvf)
              · rcases List.mem_append.mp h with h | h
                · rcases List.mem_append.mp h with h | h
                  · exact news_ne N12 (o := q.2) (.tail _ (List.mem_append_right _ (List.mem_append_left _ h))) hDm (ne_list2 (hnew1 q h))
                  · exact news_ne N12 (o := q.2) (jRs q (by rw [hRs]; exact .tail _ (.tail _ (List.mem_append_right _ (List.mem_append_left _ h))))) hDm (ne_list2 (hnew2 q h))
                · rcases List.mem_append.mp h with h | h
                  · exact Nat.ne_of_lt (allLt_mem lDf.2 q (s20 q h))
                  · exact Nat.ne_of_lt (allLt_mem lDf.2 q (fin q h).1)
        have N13 : News G _ h5 ((Df, W.listOf vs.toArray cap) :: R2) := news_perm N12 (fun q hq => by
          rcases List.mem_cons.mp hq with h | h
          · rw [h]; exact hDm
          · rw [hR2] at h
            rcases List.mem_cons.mp h with h | h
            · rw [h]; exact .head _
            · rcases List.mem_append.mp h with h | h
              · exact .tail _ (List.mem_append_left _ h)
              · rcases List.mem_append.mp h with h | h
                · exact jRs q (by rw [hRs]; exact .tail _ (.tail _ (List.mem_append_left _ h)))
                · rcases List.mem_append.mp h with h | h
                  · rcases List.mem_append.mp h with h | h
                    · exact .tail _ (List.mem_append_right _ (List.mem_append_left _ h))
                    · exact jRs q (by rw [hRs]; exact .tail _ (.tail _ (List.mem_append_right _ (List.mem_append_left _ h))))
                  · exact jRs q (by rw [hRs]; exact .tail _ (.tail _ (List.mem_append_right _ (List.mem_append_right _ h)))))
        clear N12 N11 F9
        (try dsimp only)
        w_strict k_steps
        rename Fr _ _ _ _ => F14
        rename News _ _ _ _ => N14
        rw [List.push_toArray] at N14
        have hwa : (done.app (.cons k1 .nil)).words.length = done.words.length + (k1.words.length + 2) := by rw [Fo.words_app]; simp [Fo.words]
        refine ⟨rfl, _, _, (Df, W.listOf (vs ++ [Value.ref v]).toArray (cap + 1)) :: R2, r1.size, rfl, F14, N14, by rw [hn]; omega, done.app (.cons k1 .nil), r1, vs ++ [Value.ref v], cap + 1, tab1, t27', new1 ++ new2, it5, ?_, rfl, ?_, ?_, hT1, hT27', hTn1, n27dr, ?_⟩
        · rw [hfo, Fo.app_assoc]; rfl
        · exact (htr3.mono fun q hq => List.mem_append_right _ hq).app (.cons (List.mem_append_left _ ht1) (htr1.mono fun q hq => List.mem_append_left _ hq) .nil)
        · rw [hR2, hwa]
        · intro q hq
          rcases List.mem_append.mp hq with h | h
          · exact hnew1 q h
          · exact hnew2 q h
  )
end
end Mine
end
theorem PySem.Challenge.cw_pb0251_01_holds : PySem.Challenge.rw_pb0251_01.Holds :=
  Mine.law_ok
