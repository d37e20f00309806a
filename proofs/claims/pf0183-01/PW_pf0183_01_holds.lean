import PyProof.Rows.All
import Wide.All
import OpenK.AllK
import Wide.FinOn
import Lean
import PySem.Challenge.RW_pf0183_01
open PySem PySem.W PySem.Spec PySem.Calls PyProof.Rows
set_option Elab.async false
namespace Mine
set_option maxRecDepth 100000 in
set_option maxHeartbeats 8000000 in
open_top hd for PySem.Challenge.rw_pf0183_01
end Mine
set_option maxRecDepth 100000
set_option maxHeartbeats 8000000
local macro_rules | `(tactic| walk_at $s:str) => `(tactic| k_extra $s)
namespace Mine
abbrev Led := List (Addr × Obj)

def Ct (prog : Program) (w : World) (p : Program) (loose : List Str) (mean : ExcName → Option Value) (mg mb : Str → Option Value) (f : Addr) (k : Nat) (vs : List Value) (news : Led) (R : Value → Led → Prop) : Prop :=
  ∀ (dp un : Nat) (gd : Option (List Code)) (cn : Str) (cs : Scope) (a : Addr) (ccd : Value) (cl : List (Str × Addr)) (outer : List Env) (A₀ : Around) (base h₀ : Heap) (L : Addr) (m : Str → Option Value) (s : Shared) (Q E : Value → Shared → Prop),
    Below A₀ base outer h₀ → Fr h₀ L s.heap m → (Mine.hd.heap_39 w.params).In h₀ → News h₀ L s.heap news → Top p loose mean mg mb h₀ → cs.kind = .function → dp + k < recursionLimit → un + 8 * k < cLine →
    (∀ (v : Value) (news' : Led) (h' : Heap) (tk' : Nat), Fr h₀ L h' m → News h₀ L h' news' → R v news' → Q v { s with heap := h', toks := tk' }) →
    wpAny (model prog w) (ktrTop dp un gd cn cs L a ccd cl outer) (call (.ref f) vs) Q E s

theorem Ct.use {prog : Program} {w : World} {p : Program} {loose : List Str} {mean : ExcName → Option Value} {mg mb : Str → Option Value} {f : Addr} {k : Nat} {vs : List Value} {news : Led} {R : Value → Led → Prop}
    (C : Ct prog w p loose mean mg mb f k vs news R)
    {dp un : Nat} {gd : Option (List Code)} {cn : Str} {cs : Scope} {a : Addr} {ccd : Value} {cl : List (Str × Addr)} {outer : List Env} {A₀ : Around} {base h₀ : Heap} {L : Addr} {m : Str → Option Value} {s : Shared} {Q E : Value → Shared → Prop}
    (B : Below A₀ base outer h₀) (F : Fr h₀ L s.heap m) (X : (Mine.hd.heap_39 w.params).In h₀) (N : News h₀ L s.heap news) (T : Top p loose mean mg mb h₀) (hk : cs.kind = .function) (hd : dp + k < recursionLimit) (hu : un + 8 * k < cLine)
    (ret : ∀ (v : Value) (news' : Led) (h' : Heap) (tk' : Nat), Fr h₀ L h' m → News h₀ L h' news' → R v news' → Q v { s with heap := h', toks := tk' }) :
    wpAny (model prog w) (ktrTop dp un gd cn cs L a ccd cl outer) (call (.ref f) vs) Q E s := C _ _ _ _ _ _ _ _ _ _ _ _ _ _ _ _ _ B F X N T hk hd hu ret

def Src (o : Obj) : Prop := ∃ (x y : Int) (tx ty : Tok) (n : Nat), o = listOf #[.int x tx, .int y ty] n ∧ 0 ≤ x ∧ 0 ≤ y ∧ y < 2147483647

def CtS (prog : Program) (w : World) (p : Program) (loose : List Str) (mean : ExcName → Option Value) (mg mb : Str → Option Value) (f : Addr) (k : Nat) (vs : List Value) (a : Addr) (o : Obj) (news : Led) (R : Value → Led → Prop) : Prop :=
  Ct prog w p loose mean mg mb f k vs ((a, o) :: news) (fun v news' => ∃ o' tl, Src o' ∧ R v tl ∧ news' = tl ++ (a, o') :: news ∧ ∀ b ∈ (a, o) :: news, ∀ q ∈ tl, b.1 < q.1)

theorem head_of {h₀ h : Heap} {L a : Addr} {o : Obj} {pre post : Led} (N : News h₀ L h (pre ++ (a, o) :: post)) : News h₀ L h ((a, o) :: (pre ++ post)) := fun b hb => N b (by
  rcases List.mem_cons.mp hb with rfl | hb
  · exact List.mem_append.mpr (.inr (.head _))
  · rcases List.mem_append.mp hb with hb | hb
    · exact List.mem_append.mpr (.inl hb)
    · exact List.mem_append.mpr (.inr (.tail _ hb)))

theorem back_of {h₀ h : Heap} {L a : Addr} {o o' : Obj} {tl news news' pre post : Led} (e : news = pre ++ (a, o) :: post) (U : Upd a o o' news news') (N : News h₀ L h (tl ++ (a, o') :: (pre ++ post))) : News h₀ L h (tl ++ news') := by
  obtain ⟨pre2, post2, e1, e2, h1, h2⟩ := U.split
  intro b hb
  apply N b
  rcases List.mem_append.mp hb with hb | hb
  · exact List.mem_append.mpr (.inl hb)
  · refine List.mem_append.mpr (.inr ?_)
    rw [e2] at hb
    have main : ∀ q ∈ news, q.1 ≠ a → q ∈ pre ++ post := fun q hq hne => by
      rw [e] at hq
      rcases List.mem_append.mp hq with hq | hq
      · exact List.mem_append.mpr (.inl hq)
      · rcases List.mem_cons.mp hq with rfl | hq
        · exact absurd rfl hne
        · exact List.mem_append.mpr (.inr hq)
    rcases List.mem_append.mp hb with hb | hb
    · exact .tail _ (main b (by rw [e1]; exact List.mem_append.mpr (.inl hb)) (h1 b hb))
    · rcases List.mem_cons.mp hb with rfl | hb
      · exact .head _
      · exact .tail _ (main b (by rw [e1]; exact List.mem_append.mpr (.inr (.tail _ hb))) (h2 b hb))

theorem CtS.use {prog : Program} {w : World} {p : Program} {loose : List Str} {mean : ExcName → Option Value} {mg mb : Str → Option Value} {f : Addr} {k : Nat} {vs : List Value} {news : Led} {a : Addr} {o : Obj} {R : Value → Led → Prop}
    {dp un : Nat} {gd : Option (List Code)} {cn : Str} {cs : Scope} {af : Addr} {ccd : Value} {cl : List (Str × Addr)} {outer : List Env} {A₀ : Around} {base h₀ : Heap} {L : Addr} {m : Str → Option Value} {s : Shared} {Q E : Value → Shared → Prop}
    (B : Below A₀ base outer h₀) (F : Fr h₀ L s.heap m) (X : (Mine.hd.heap_39 w.params).In h₀) (N : News h₀ L s.heap news) (T : Top p loose mean mg mb h₀) (hk : cs.kind = .function) (hd : dp + k < recursionLimit) (hu : un + 8 * k < cLine)
    (U : Upd a o o news news)
    (C : ∀ rest : Led, (∀ b ∈ rest, b.1 ≠ a) → (∀ b ∈ news, b.1 ≠ a → b ∈ rest) → CtS prog w p loose mean mg mb f k vs a o rest R)
    (ret : ∀ (v : Value) (tl : Led) (o' : Obj) (h' : Heap) (tk' : Nat), Src o' → R v tl → Fr h₀ L h' m → (∀ news', Upd a o o' news news' → News h₀ L h' (tl ++ news')) → (∀ b ∈ news, ∀ q ∈ tl, b.1 < q.1) → Q v { s with heap := h', toks := tk' }) :
    wpAny (model prog w) (ktrTop dp un gd cn cs L af ccd cl outer) (call (.ref f) vs) Q E s := by
  obtain ⟨pre, post, e, _, h1, h2⟩ := U.split
  have hN : News h₀ L s.heap ((a, o) :: (pre ++ post)) := head_of (e ▸ N)
  have put : ∀ b ∈ news, b.1 ≠ a → b ∈ pre ++ post := fun b hb hne => by
    rw [e] at hb
    rcases List.mem_append.mp hb with hb | hb
    · exact List.mem_append.mpr (.inl hb)
    · rcases List.mem_cons.mp hb with rfl | hb
      · exact absurd rfl hne
      · exact List.mem_append.mpr (.inr hb)
  refine Ct.use (C (pre ++ post) (fun b hb => (List.mem_append.mp hb).elim (h1 b) (h2 b)) put) B F X hN T hk hd hu (fun v news' h' tk' F' N' hR => ?_)
  obtain ⟨o', tl, hS, hr, rfl, hlt⟩ := hR
  refine ret v tl o' h' tk' hS hr F' (fun news' U' => back_of e U' N') (fun b hb q hq => hlt b ?_ q hq)
  by_cases hba : b.1 = a
  · rw [e] at hb
    rcases List.mem_append.mp hb with hb | hb
    · exact absurd hba (h1 b hb)
    · rcases List.mem_cons.mp hb with rfl | hb
      · exact .head _
      · exact absurd hba (h2 b hb)
  · exact .tail _ (put b hb hba)

theorem upd_then0 {h₀ h : Heap} {L a : Addr} {o o' : Obj} {news news' : Led} {P : Prop} (H : ∀ news', Upd a o o' news news' → News h₀ L h news') (U : Upd a o o' news news') (k : News h₀ L h news' → P) : P := k (H _ U)
theorem upd_then1 {h₀ h : Heap} {L a : Addr} {o o' : Obj} {x : Addr × Obj} {news news' : Led} {P : Prop} (H : ∀ news', Upd a o o' news news' → News h₀ L h (x :: news')) (U : Upd a o o' news news') (k : News h₀ L h (x :: news') → P) : P := k (H _ U)
def Under (L : Addr) (news : Led) : Prop := ∀ b ∈ news, @LT.lt Nat _ b.1 L
theorem Under.out {L : Addr} {news : Led} (h : Under L news) : ∀ b ∈ news, @LT.lt Nat _ b.1 L := h
theorem ord_of {L a x : Addr} {o ob : Obj} {news : Led} (u : Under L news) (h1 : @LT.lt Nat _ L x) (h2 : @LT.lt Nat _ a x) : ∀ b ∈ (a, o) :: news, ∀ q ∈ [(x, ob)], b.1 < q.1 := by
  intro b hb q hq
  rw [List.mem_singleton.mp hq]
  rcases List.mem_cons.mp hb with rfl | hb
  · exact h2
  · exact Nat.lt_trans (u b hb) h1
theorem under_p {L : Addr} {news : Led} (h : ∀ b ∈ news, b.1 < L) : Under L news := h
theorem ordp_of {L x : Addr} {ob : Obj} {news : Led} (u : Under L news) (h1 : @LT.lt Nat _ L x) : ∀ b ∈ news, ∀ q ∈ [(x, ob)], b.1 < q.1 := by
  intro b hb q hq
  rw [List.mem_singleton.mp hq]
  exact Nat.lt_trans (u b hb) h1
theorem ordl_of {x : Addr} {ob : Obj} {news : Led} (u : AllLt x news) : ∀ b ∈ news, ∀ q ∈ [(x, ob)], b.1 < q.1 := by
  intro b hb q hq
  rw [List.mem_singleton.mp hq]
  exact ktn_ltOf u b hb
def CtP (prog : Program) (w : World) (p : Program) (loose : List Str) (mean : ExcName → Option Value) (mg mb : Str → Option Value) (f : Addr) (k : Nat) (vs : List Value) (news : Led) (R : Value → Led → Prop) : Prop :=
  Ct prog w p loose mean mg mb f k vs news (fun v news' => ∃ tl, R v tl ∧ news' = tl ++ news ∧ ∀ b ∈ news, ∀ q ∈ tl, b.1 < q.1)
theorem CtP.obj {prog : Program} {w : World} {p : Program} {loose : List Str} {mean : ExcName → Option Value} {mg mb : Str → Option Value} {f : Addr} {k : Nat} {vs : List Value} {news : Led} {P : Obj → Prop}
    {dp un : Nat} {gd : Option (List Code)} {cn : Str} {cs : Scope} {af : Addr} {ccd : Value} {cl : List (Str × Addr)} {outer : List Env} {A₀ : Around} {base h₀ : Heap} {L : Addr} {m : Str → Option Value} {s : Shared} {Q E : Value → Shared → Prop}
    (B : Below A₀ base outer h₀) (F : Fr h₀ L s.heap m) (X : (Mine.hd.heap_39 w.params).In h₀) (N : News h₀ L s.heap news) (T : Top p loose mean mg mb h₀) (hk : cs.kind = .function) (hd : dp + k < recursionLimit) (hu : un + 8 * k < cLine)
    (C : CtP prog w p loose mean mg mb f k vs news (fun v tl => ∃ q o', v = .ref q ∧ tl = [(q, o')] ∧ P o'))
    (ret : ∀ (q : Addr) (o' : Obj) (h' : Heap) (tk' : Nat), P o' → Fr h₀ L h' m → News h₀ L h' ((q, o') :: news) → (∀ b ∈ news, b.1 < q) → Q (.ref q) { s with heap := h', toks := tk' }) :
    wpAny (model prog w) (ktrTop dp un gd cn cs L af ccd cl outer) (call (.ref f) vs) Q E s :=
  Ct.use C B F X N T hk hd hu fun v news' h' tk' F' N' hR => by
    obtain ⟨tl, ⟨q, o', rfl, rfl, hP⟩, rfl, hlt⟩ := hR
    exact ret q o' h' tk' hP F' N' fun b hb => hlt b hb _ (.head _)
theorem Ct.int {prog : Program} {w : World} {p : Program} {loose : List Str} {mean : ExcName → Option Value} {mg mb : Str → Option Value} {f : Addr} {k : Nat} {vs : List Value} {news : Led} {c : Int}
    {dp un : Nat} {gd : Option (List Code)} {cn : Str} {cs : Scope} {af : Addr} {ccd : Value} {cl : List (Str × Addr)} {outer : List Env} {A₀ : Around} {base h₀ : Heap} {L : Addr} {m : Str → Option Value} {s : Shared} {Q E : Value → Shared → Prop}
    (B : Below A₀ base outer h₀) (F : Fr h₀ L s.heap m) (X : (Mine.hd.heap_39 w.params).In h₀) (N : News h₀ L s.heap news) (T : Top p loose mean mg mb h₀) (hk : cs.kind = .function) (hd : dp + k < recursionLimit) (hu : un + 8 * k < cLine)
    (C : Ct prog w p loose mean mg mb f k vs news (fun v news' => (∃ t, v = .int c t) ∧ news' = news))
    (ret : ∀ (t : Tok) (h' : Heap) (tk' : Nat), Fr h₀ L h' m → News h₀ L h' news → Q (.int c t) { s with heap := h', toks := tk' }) :
    wpAny (model prog w) (ktrTop dp un gd cn cs L af ccd cl outer) (call (.ref f) vs) Q E s :=
  Ct.use C B F X N T hk hd hu fun v news' h' tk' F' N' hR => by
    obtain ⟨⟨t, rfl⟩, rfl⟩ := hR
    exact ret t h' tk' F' N'
theorem Ct.val {prog : Program} {w : World} {p : Program} {loose : List Str} {mean : ExcName → Option Value} {mg mb : Str → Option Value} {f : Addr} {k : Nat} {vs : List Value} {news : Led} {c : Value}
    {dp un : Nat} {gd : Option (List Code)} {cn : Str} {cs : Scope} {af : Addr} {ccd : Value} {cl : List (Str × Addr)} {outer : List Env} {A₀ : Around} {base h₀ : Heap} {L : Addr} {m : Str → Option Value} {s : Shared} {Q E : Value → Shared → Prop}
    (B : Below A₀ base outer h₀) (F : Fr h₀ L s.heap m) (X : (Mine.hd.heap_39 w.params).In h₀) (N : News h₀ L s.heap news) (T : Top p loose mean mg mb h₀) (hk : cs.kind = .function) (hd : dp + k < recursionLimit) (hu : un + 8 * k < cLine)
    (C : Ct prog w p loose mean mg mb f k vs news (fun v news' => v = c ∧ news' = news))
    (ret : ∀ (h' : Heap) (tk' : Nat), Fr h₀ L h' m → News h₀ L h' news → Q c { s with heap := h', toks := tk' }) :
    wpAny (model prog w) (ktrTop dp un gd cn cs L af ccd cl outer) (call (.ref f) vs) Q E s :=
  Ct.use C B F X N T hk hd hu fun v news' h' tk' F' N' hR => by
    obtain ⟨rfl, rfl⟩ := hR
    exact ret h' tk' F' N'
theorem CtS.right {prog : Program} {w : World} {p : Program} {loose : List Str} {mean : ExcName → Option Value} {mg mb : Str → Option Value} {f : Addr} {k : Nat} {vs : List Value} {news : Led} {a : Addr} {o : Obj}
    {dp un : Nat} {gd : Option (List Code)} {cn : Str} {cs : Scope} {af : Addr} {ccd : Value} {cl : List (Str × Addr)} {outer : List Env} {A₀ : Around} {base h₀ : Heap} {L : Addr} {m : Str → Option Value} {s : Shared} {Q E : Value → Shared → Prop}
    (B : Below A₀ base outer h₀) (F : Fr h₀ L s.heap m) (X : (Mine.hd.heap_39 w.params).In h₀) (N : News h₀ L s.heap news) (T : Top p loose mean mg mb h₀) (hk : cs.kind = .function) (hd : dp + k < recursionLimit) (hu : un + 8 * k < cLine)
    (U : Upd a o o news news)
    (C : ∀ rest : Led, (∀ b ∈ rest, b.1 ≠ a) → CtS prog w p loose mean mg mb f k vs a o rest (fun v tl => v = .bool true ∧ tl = []))
    (ret : ∀ (o' : Obj) (h' : Heap) (tk' : Nat), Src o' → Fr h₀ L h' m → (∀ news', Upd a o o' news news' → News h₀ L h' news') → Q (.bool true) { s with heap := h', toks := tk' }) :
    wpAny (model prog w) (ktrTop dp un gd cn cs L af ccd cl outer) (call (.ref f) vs) Q E s :=
  CtS.use B F X N T hk hd hu U (fun rest h1 _ => C rest h1) fun v tl o' h' tk' hS hR F' hN' _ => by
    obtain ⟨rfl, rfl⟩ := hR
    exact ret o' h' tk' hS F' hN'
theorem room1 {dp k c : Nat} (hd : dp + c < recursionLimit) (h : k + 1 ≤ c) : dp + 1 + k < recursionLimit := by omega
theorem units1 {un k c : Nat} (hu : un + 8 * c < cLine) (h : 3 + 8 * k ≤ 8 * c) : un + 3 + 8 * k < cLine := by omega
theorem units2 {un c : Nat} (hu : un + 8 * c < cLine) (h : 67 ≤ 8 * c) : un + 3 + 64 < cLine := by omega
theorem allLt_k {d : Addr} {news : Led} (h : AllLt d news) : ∀ b ∈ news, @LT.lt Nat _ b.1 d := fun b hb => ktn_ltOf h b hb
theorem cells_nil {cm : Str → Option Value} {cells : Led} (x : CellsAre cm [] cells) : cells = [] := by cases x; rfl
theorem under_of {L a : Addr} {o : Obj} {news : Led} (h : ∀ b ∈ (a, o) :: news, b.1 < L) : Under L news := fun b hb => h b (.tail _ hb)
end Mine
local macro_rules | `(tactic| k_mem) => `(tactic| (k_extra "mem"))
local macro_rules | `(tactic| k_all) => `(tactic| (k_extra "all"))
local macro_rules | `(tactic| k_ne) => `(tactic| (k_extra "ne"))
theorem Mine.words_01a : True := by
  k_with "mem" => (
    first | with_reducible assumption | ((show _ ∈ (_ : Mine.Led)); with_reducible assumption))
  k_with "all" => (
    first
      | (refine Mine.all_app ?_ ?_ <;> k_all)
      | (intro b9 hb9; (have hu9 := Mine.Over.out (by with_reducible assumption) b9 hb9); refine neN ?_; omega)
      | (intro b9 hb9; (have hu9 := Mine.allLt_k (by with_reducible assumption) b9 hb9); refine neN ?_; omega)
      | with_reducible assumption
      | (intro b9 hb9; (have hu9 := Mine.Under.out (by with_reducible assumption) b9 hb9); refine neN ?_; omega))
  k_with "ne" => (
    first | exact Nat.ne_of_gt (by k_extra "lt") | exact Nat.ne_of_lt (by k_extra "lt") | (refine neN ?_; (try dsimp only); omega))
  k_with "lt" => (
    first | with_reducible assumption | exact And.left (by with_reducible assumption) | exact And.left (And.right (by with_reducible assumption)) | exact And.left (And.right (And.right (by with_reducible assumption))) | exact And.left (And.right (And.right (And.right (by with_reducible assumption)))) | exact And.left (And.right (And.right (And.right (And.right (by with_reducible assumption))))) | exact And.left (And.right (And.right (And.right (And.right (And.right (by with_reducible assumption)))))) | exact And.left (And.right (And.right (And.right (And.right (And.right (And.right (by with_reducible assumption))))))) | exact And.left (And.right (And.right (And.right (And.right (And.right (And.right (And.right (by with_reducible assumption)))))))) | exact And.left (And.right (And.right (And.right (And.right (And.right (And.right (And.right (And.right (by with_reducible assumption))))))))) | exact And.left (And.right (And.right (And.right (And.right (And.right (And.right (And.right (And.right (And.right (by with_reducible assumption)))))))))) | exact And.left (And.right (And.right (And.right (And.right (And.right (And.right (And.right (And.right (And.right (And.right (by with_reducible assumption))))))))))) | exact And.left (And.right (And.right (And.right (And.right (And.right (And.right (And.right (And.right (And.right (And.right (And.right (by with_reducible assumption)))))))))))) | exact And.left (And.right (And.right (And.right (And.right (And.right (And.right (And.right (And.right (And.right (And.right (And.right (And.right (by with_reducible assumption))))))))))))))
  k_with "units" => (
    first | exact Mine.units2 (by with_reducible assumption) (by decide) | ktr_units)
  k_with "execs cons" => (
    k_here
    (with_reducible refine wpAny_execs_cons ?_)
    (try dsimp only)
    k_fold)
  k_with "subscriptTail Name Constant ref int" => (
    k_here
    (with_reducible show wpAny _ _ (subscriptTail _ _ (Value.ref _) (Value.int _ _)) _ _ _)
    k_dflt (
      (with_unfolding_all refine' item_litK (by is_list) (by decide) (by decide) (by rfl) ?_ (by with_unfolding_all rfl))
      k_whole))
  trivial
namespace Mine
def wt (n a : Int) : Int := Int.fdiv (2 * n * a + 255) 510
def mx (one first other second : Int) : Int := Int.fdiv (2 * (one * first + other * second) + 255) 510
def Near (told top under : Int) : Prop := -under < 2 * (told * under - top) ∧ 2 * (told * under - top) ≤ under
section
variable {w : World} {p : Program} {loose : List Str} {mean : ExcName → Option Value} {mg mb : Str → Option Value}
theorem weighted_ct (n a : Int) (t1 t2 : Tok) (news : Led) (hn : 0 ≤ n ∧ n ≤ 255) :
    Ct PySem.Challenge.rw_pf0183_01.row.prog w p loose mean mg mb 21 1 [.int n t1, .int a t2] news (fun v news' => (∃ t, v = .int (wt n a) t) ∧ news' = news) := by
  w_top off
  unfold Ct
  k_fill
  intro dp un gd cn cs af ccd cl outer A₀ base h₀ L m s Q E B F X N T hk hd hu hret
  refine wpAny_call ?_
  k_dflt cell_enter
  k_steps
  all_goals exact hret _ _ _ _ (by k_asm) (by k_asm) ⟨⟨_, rfl⟩, rfl⟩

theorem mixed_ct (n1 n2 n3 n4 : Int) (t1 t2 t3 t4 : Tok) (news : Led) (h1 : 0 ≤ n1 ∧ n1 ≤ 255) (h2 : 0 ≤ n2 ∧ n2 ≤ 255) (h3 : 0 ≤ n3 ∧ n3 ≤ 255) (h4 : 0 ≤ n4 ∧ n4 ≤ 255) :
    Ct PySem.Challenge.rw_pf0183_01.row.prog w p loose mean mg mb 96 1 [.int n1 t1, .int n2 t2, .int n3 t3, .int n4 t4] news (fun v news' => (∃ t, v = .int (mx n1 n2 n3 n4) t) ∧ news' = news) := by
  w_top off
  unfold Ct
  k_fill
  intro dp un gd cn cs af ccd cl outer A₀ base h₀ L m s Q E B F X N T hk hd hu hret
  refine wpAny_call ?_
  k_dflt cell_enter
  k_steps
  all_goals exact hret _ _ _ _ (by k_asm) (by k_asm) ⟨⟨_, rfl⟩, rfl⟩

theorem near_ct (n1 n2 n3 : Int) (t1 t2 t3 : Tok) (news : Led) (h3 : 1 ≤ n3 ∧ n3 ≤ 255) (H : Near n1 n2 n3) :
    Ct PySem.Challenge.rw_pf0183_01.row.prog w p loose mean mg mb 129 1 [.int n1 t1, .int n2 t2, .int n3 t3] news (fun v news' => v = .bool true ∧ news' = news) := by
  obtain ⟨H1, H2⟩ := H
  w_top off
  unfold Ct
  k_fill
  intro dp un gd cn cs af ccd cl outer A₀ base h₀ L m s Q E B F X N T hk hd hu hret
  refine wpAny_call ?_
  k_dflt cell_enter
  k_steps
  all_goals exact hret _ _ _ _ (by k_asm) (by k_asm) ⟨by rw [decide_eq_true H2], rfl⟩

def shv (word : Str) (a : Int) : Int := if word = "none" then 0 else if word = "all" then 255 else if word = "other" then a else 255 - a
theorem share_ct (word : Str) (a : Int) (t1 t2 : Tok) (news : Led) (hw : word = "none" ∨ word = "all" ∨ word = "other" ∨ word = "rest") :
    Ct PySem.Challenge.rw_pf0183_01.row.prog w p loose mean mg mb 89 1 [.str word t1, .int a t2] news (fun v news' => (∃ t, v = .int (shv word a) t) ∧ news' = news) := by
  rcases hw with rfl | rfl | rfl | rfl
  all_goals (
  w_top off
  unfold Ct
  k_fill
  intro dp un gd cn cs af ccd cl outer A₀ base h₀ L m s Q E B F X N T hk hd hu hret
  refine wpAny_call ?_
  k_dflt cell_enter
  k_steps
  all_goals exact hret _ _ _ _ (by k_asm) (by k_asm) ⟨⟨_, rfl⟩, rfl⟩)
end
end Mine
theorem Mine.words_02a : True := by
  k_with "call ref" => (
    k_here
    (with_reducible show wpAny _ _ (call (Value.ref 21) _) _ _ _)
    k_dflt (
      refine' Mine.Ct.int (by k_asm) (by k_asm) (by k_asm) (by k_asm) (by k_asm) (by first | exact rfl | assumption) (by first | exact Mine.room1 (by with_reducible assumption) (by decide) | ktr_room) (by first | exact Mine.units1 (by with_reducible assumption) (by decide) | ktr_units) (Mine.weighted_ct _ _ _ _ _ (by first | assumption | omega | (constructor <;> omega))) ?_
      intro t9 h9 tk9 F9 N9
      (try dsimp only)
      (try k_fold)
      (try k_sweep)))
  k_with "call ref" => (
    k_here
    (with_reducible show wpAny _ _ (call (Value.ref 96) _) _ _ _)
    k_dflt (
      refine' Mine.Ct.int (by k_asm) (by k_asm) (by k_asm) (by k_asm) (by k_asm) (by first | exact rfl | assumption) (by first | exact Mine.room1 (by with_reducible assumption) (by decide) | ktr_room) (by first | exact Mine.units1 (by with_reducible assumption) (by decide) | ktr_units) (Mine.mixed_ct _ _ _ _ _ _ _ _ _ (by first | assumption | omega | (constructor <;> omega)) (by first | assumption | omega | (constructor <;> omega)) (by first | assumption | omega | (constructor <;> omega)) (by first | assumption | omega | (constructor <;> omega))) ?_
      intro t9 h9 tk9 F9 N9
      (try dsimp only)
      (try k_fold)
      (try k_sweep)))
  k_with "call ref" => (
    k_here
    (with_reducible show wpAny _ _ (call (Value.ref 89) _) _ _ _)
    k_dflt (
      refine' Mine.Ct.int (by k_asm) (by k_asm) (by k_asm) (by k_asm) (by k_asm) (by first | exact rfl | assumption) (by first | exact Mine.room1 (by with_reducible assumption) (by decide) | ktr_room) (by first | exact Mine.units1 (by with_reducible assumption) (by decide) | ktr_units) (Mine.share_ct _ _ _ _ _ (by first | assumption | decide)) ?_
      intro t9 h9 tk9 F9 N9
      (try dsimp only)
      (try k_fold)
      (try k_sweep)))
  k_with "call ref" => (
    k_here
    (with_reducible show wpAny _ _ (call (Value.ref 129) _) _ _ _)
    k_dflt (
      refine' Mine.Ct.val (by k_asm) (by k_asm) (by k_asm) (by k_asm) (by k_asm) (by first | exact rfl | assumption) (by first | exact Mine.room1 (by with_reducible assumption) (by decide) | ktr_room) (by first | exact Mine.units1 (by with_reducible assumption) (by decide) | ktr_units) (Mine.near_ct _ _ _ _ _ _ _ (by first | omega | (constructor <;> omega)) (by k_extra "near")) ?_
      intro h9 tk9 F9 N9
      (try dsimp only)
      (try k_fold)
      (try k_sweep)))
  trivial
namespace Mine
theorem fdiv_nonneg' {x t : Int} (h : 0 ≤ x) (ht : 1 ≤ t) : 0 ≤ Int.fdiv x t := by
  rw [Int.fdiv_eq_ediv_of_nonneg x (by omega)]; exact Int.ediv_nonneg h (by omega)
theorem big_nonneg (c : Int) (b : Bool) : 0 ≤ (if -1 - c > c then -1 - c else c) * (if b = true then 1 else 0) := by
  refine Int.mul_nonneg ?_ ?_ <;> split <;> omega
section
variable {w : World} {p : Program} {loose : List Str} {mean : ExcName → Option Value} {mg mb : Str → Option Value}
theorem take_ct (a : Addr) (o : Obj) (top : Int) (tt : Tok) (news : Led) (ho : Src o) (ht : 1 ≤ top ∧ top ≤ 256) (hne : ∀ b ∈ news, b.1 ≠ a) :
    CtS PySem.Challenge.rw_pf0183_01.row.prog w p loose mean mg mb 115 1 [.ref a, .int top tt] a o news (fun v tl => (∃ d t, v = .int d t ∧ 0 ≤ d ∧ d < top) ∧ tl = []) := by
  obtain ⟨x, y, tx, ty, n, rfl, hx, hy, hy'⟩ := ho
  unfold CtS
  w_top off
  unfold Ct
  k_fill
  intro dp un gd cn cs af ccd cl outer A₀ base h₀ L m s Q E B F X N T hk hd hu hret
  refine wpAny_call ?_
  k_dflt cell_enter
  k_steps
  · refine hret _ _ _ _ (by k_asm) (by k_asm) ⟨_, [], ⟨_, _, _, _, _, rfl, fdiv_nonneg' hx ht.1, hy, hy'⟩, ⟨⟨_, _, rfl, fmod_lo _ (by omega), fmod_hi _ (by omega)⟩, rfl⟩, rfl, fun _ _ _ hq => nomatch hq⟩
  · refine hret _ _ _ _ (by k_asm) (by k_asm) ⟨_, [], ⟨_, _, _, _, _, rfl, hx, fmod_lo _ (by omega), fmod_hi _ (by omega)⟩, ⟨⟨_, _, rfl, fmod_lo _ (by omega), fmod_hi _ (by omega)⟩, rfl⟩, rfl, fun _ _ _ hq => nomatch hq⟩
theorem take_use {a : Addr} {o : Obj} {top : Int} {tt : Tok} {news : Led} {dp un : Nat} {gd : Option (List Code)} {cn : Str} {cs : Scope} {af : Addr} {ccd : Value} {cl : List (Str × Addr)} {outer : List Env} {A₀ : Around} {base h₀ : Heap} {L : Addr} {m : Str → Option Value} {s : Shared} {Q E : Value → Shared → Prop} (B : Below A₀ base outer h₀) (F : Fr h₀ L s.heap m) (X : (Mine.hd.heap_39 w.params).In h₀) (N : News h₀ L s.heap news) (T : Top p loose mean mg mb h₀) (hk : cs.kind = .function) (hd : dp + 1 < recursionLimit) (hu : un + 8 * 1 < cLine)
    (U : Upd a o o news news) (ho : Src o) (ht : 1 ≤ top ∧ top ≤ 256)
    (ret : ∀ (d : Int) (t : Tok) (o' : Obj) (h' : Heap) (tk' : Nat), 0 ≤ d → d < top → Src o' → Fr h₀ L h' m → (∀ news', Upd a o o' news news' → News h₀ L h' news') → Q (.int d t) { s with heap := h', toks := tk' }) : wpAny (model PySem.Challenge.rw_pf0183_01.row.prog w) (ktrTop dp un gd cn cs L af ccd cl outer) (call (.ref 115) [.ref a, .int top tt]) Q E s :=
  CtS.use B F X N T hk hd hu U (fun rest hne _ => take_ct a o top tt rest ho ht hne) fun v tl o' h' tk' hS hR F' hN' _ => by
    obtain ⟨⟨d, t, rfl, h0, h1⟩, rfl⟩ := hR
    exact ret d t o' h' tk' h0 h1 hS F' hN'
end
end Mine
theorem Mine.words_03a : True := by
  k_with "call ref" => (
    k_here
    (with_reducible show wpAny _ _ (call (Value.ref 115) _) _ _ _)
    k_dflt (
      refine' Mine.take_use (by k_asm) (by k_asm) (by k_asm) (by k_asm) (by k_asm) (by first | exact rfl | assumption) (by first | exact Mine.room1 (by with_reducible assumption) (by decide) | ktr_room) (by first | exact Mine.units1 (by with_reducible assumption) (by decide) | ktr_units) (by k_upd) (by with_reducible assumption) (by first | omega | (constructor <;> omega)) ?_
      intro d9 t9 o9 h9 tk9 hd9 hd9' hS9 F9 hN9
      refine' Mine.upd_then0 hN9 (by k_upd) ?_
      clear hN9
      intro N9
      (try dsimp only)
      (try k_fold)
      (try k_sweep)))
  trivial
namespace Mine
section
variable {w : World} {p : Program} {loose : List Str} {mean : ExcName → Option Value} {mg mb : Str → Option Value}
theorem len_its {prog : Program} {w : World} {A : Around} {E : Value → Shared → Prop} {s : Shared} {h₀ : Heap} {L l : Addr} {its : List Value} {n : Nat} {news : Led} {Q : Value → Shared → Prop} (N : News h₀ L s.heap news) (hm : (l, listOf its.toArray n) ∈ news) (hz : its.length ≤ 256)
    (h : Q (.int (its.length : Nat) (s.toks + 1)) { s with toks := s.toks + 1 + 1 }) : wpAny (model prog w) A (call (.builtin "len") [.ref l]) Q E s :=
  Calls.call_len_list (PySem.IsL.isList (n := n) (N _ hm).1) (by simp only [List.size_toArray]; omega) (by simpa using h)
theorem len_sign {prog : Program} {w : World} {A : Around} {E : Value → Shared → Prop} {s : Shared} {x : Str} {t : Tok} {Q : Value → Shared → Prop} (hz : x.cps.size ≤ 256)
    (h : Q (.int (x.cps.size : Nat) (s.toks + 1)) { s with toks := s.toks + 1 + 1 }) : wpAny (model prog w) A (call (.builtin "len") [.str x t]) Q E s :=
  P.len_str (by show ¬ ((x.cps.size : Nat) : Int) ≥ 2 ^ 63; omega) h
theorem item_sign {prog : Program} {w : World} {A : Around} {E : Value → Shared → Prop} {s : Shared} {x : Str} {t u : Tok} {value slice : PySem.Expr} {i : Int} {Q : Value → Shared → Prop} (h0 : 0 ≤ i) (h1 : i < (x.cps.size : Nat)) (hz : x.cps.size ≤ 256)
    (h : ∀ c, c ∈ x.cps.toList → Q (.str ⟨#[c]⟩ s.toks) { s with toks := s.toks + 1 })
    (hs : subscripted slice false (.str x t) (.int i u) = operate [.str x t, .int i u] (getItem (.str x t) (.int i u)) := by with_unfolding_all rfl)
    (ht : ∀ r, letTemporaryGo value (.str x t) r = pure () := by intro _; with_unfolding_all rfl) :
    wpAny (model prog w) A (subscriptTail value slice (.str x t) (.int i u)) Q E s := by
  have hk : i.toNat < x.cps.size := by omega
  have e : Txt.item x i = ⟨#[x.cps[i.toNat]]⟩ := by
    unfold Txt.item Txt.charAt
    rw [show seqIndex? i x.length = some i.toNat from StrLaws.seqIndex_nonneg h0 h1]
    simp [hk]
  refine item_str (fitsSsize_of (N := 256) (by omega) (by omega) (by decide)) (by show -((x.cps.size : Nat) : Int) ≤ i; omega) (by show i < ((x.cps.size : Nat) : Int); omega) (fun _ => ?_) hs ht
  rw [e]
  exact h _ (by simp)
theorem item_its {prog : Program} {w : World} {A : Around} {E : Value → Shared → Prop} {s : Shared} {h₀ : Heap} {L l : Addr} {its : List Value} {n : Nat} {news : Led} {value slice : PySem.Expr} {k : Int} {u : Tok} {Q : Value → Shared → Prop} (N : News h₀ L s.heap news) (hm : (l, listOf its.toArray n) ∈ news) (hz : its.length ≤ 256)
    (h0 : 0 ≤ k) (h1 : k < its.length) (h : ∀ v, v ∈ its → Q v s)
    (hs : subscripted slice false (.ref l) (.int k u) = operate [.ref l, .int k u] (getItem (.ref l) (.int k u)) := by with_unfolding_all rfl) :
    wpAny (model prog w) A (subscriptTail value slice (.ref l) (.int k u)) Q E s := by
  have hk : k.toNat < its.length := by omega
  exact item_litK (v := its[k.toNat]) (PySem.IsL.isList (n := n) (N _ hm).1) h0 (by omega) (List.getElem?_eq_getElem hk) (h _ (List.getElem_mem hk)) hs
end
end Mine
theorem Mine.words_03b : True := by
  k_with "call builtin:len" => (
    k_here
    (with_reducible show wpAny _ _ (call (Value.builtin _) [Value.ref _]) _ _ _)
    k_dflt (
      (with_unfolding_all refine' Mine.len_its (by k_asm) (by k_mem) (by first | omega | decide) ?_)
      k_whole))
  k_with "call builtin:len" => (
    k_here
    (with_reducible show wpAny _ _ (call (Value.builtin _) [Value.str _ _]) _ _ _)
    k_dflt (
      (with_unfolding_all refine' Mine.len_sign (by first | omega | decide) ?_)
      k_whole))
  k_with "subscriptTail" => (
    k_here
    (with_reducible show wpAny _ _ (subscriptTail (Expr.Name (PySem.Str.ofString "things") _) _ (Value.str _ _) (Value.int _ _)) _ _ _)
    k_dflt (
      (with_unfolding_all refine' Mine.item_sign (by omega) (by omega) (by first | omega | decide) ?_ (by with_unfolding_all rfl) (by intro _; with_unfolding_all rfl))
      k_whole
      intro c9 hc9))
  k_with "subscriptTail" => (
    k_here
    (with_reducible show wpAny _ _ (subscriptTail (Expr.Name (PySem.Str.ofString "things") _) _ (Value.ref _) (Value.int _ _)) _ _ _)
    k_dflt (
      (with_unfolding_all refine' Mine.item_its (by k_asm) (by k_mem) (by first | omega | decide) (by omega) (by omega) ?_ (by with_unfolding_all rfl))
      k_whole
      intro v9 hv9))
  trivial
namespace Mine
section
variable {w : World} {p : Program} {loose : List Str} {mean : ExcName → Option Value} {mg mb : Str → Option Value}
theorem oneL_ct (a l : Addr) (o : Obj) (its : List Value) (n : Nat) (news : Led) (ho : Src o) (hm : (l, listOf its.toArray n) ∈ news) (hz : 1 ≤ its.length ∧ its.length ≤ 256) (hne : ∀ b ∈ news, b.1 ≠ a) :
    CtS PySem.Challenge.rw_pf0183_01.row.prog w p loose mean mg mb 122 2 [.ref a, .ref l] a o news (fun v tl => v ∈ its ∧ tl = []) := by
  unfold CtS
  w_top off
  unfold Ct
  k_fill
  intro dp un gd cn cs af ccd cl outer A₀ base h₀ L m s Q E B F X N T hk hd hu hret
  refine wpAny_call ?_
  k_dflt cell_enter
  k_steps
  all_goals exact hret _ _ _ _ (by k_asm) (by k_asm) ⟨_, [], by assumption, ⟨by assumption, rfl⟩, rfl, fun _ _ _ hq => nomatch hq⟩
theorem oneS_ct (a : Addr) (o : Obj) (x : Str) (tx : Tok) (news : Led) (ho : Src o) (hz : 1 ≤ x.cps.size ∧ x.cps.size ≤ 256) (hne : ∀ b ∈ news, b.1 ≠ a) :
    CtS PySem.Challenge.rw_pf0183_01.row.prog w p loose mean mg mb 122 2 [.ref a, .str x tx] a o news (fun v tl => (∃ c t, c ∈ x.cps.toList ∧ v = .str ⟨#[c]⟩ t) ∧ tl = []) := by
  unfold CtS
  w_top off
  unfold Ct
  k_fill
  intro dp un gd cn cs af ccd cl outer A₀ base h₀ L m s Q E B F X N T hk hd hu hret
  refine wpAny_call ?_
  k_dflt cell_enter
  k_steps
  all_goals exact hret _ _ _ _ (by k_asm) (by k_asm) ⟨_, [], by assumption, ⟨⟨_, _, by assumption, rfl⟩, rfl⟩, rfl, fun _ _ _ hq => nomatch hq⟩
theorem mem_ints {v : Value} {its : List Value} (h : v ∈ its) (k : ∀ x ∈ its, ∃ (d : Int) (t : Tok), x = .int d t ∧ 0 ≤ d ∧ d ≤ 255) : ∃ (d : Int) (t : Tok), v = .int d t ∧ 0 ≤ d ∧ d ≤ 255 := k v h
def IntsB (its : List Value) : Prop := ∀ x ∈ its, ∃ (d : Int) (t : Tok), x = .int d t ∧ 0 ≤ d ∧ d ≤ 255
theorem intsB_nil : IntsB [] := fun _ h => nomatch h
theorem intsB_cons {d : Int} {t : Tok} {its : List Value} (h : 0 ≤ d ∧ d ≤ 255) (k : IntsB its) : IntsB (.int d t :: its) := List.forall_mem_cons.mpr ⟨⟨_, _, rfl, h⟩, k⟩
theorem oneI_use {a l : Addr} {o : Obj} {its : List Value} {n : Nat} {news : Led} {dp un : Nat} {gd : Option (List Code)} {cn : Str} {cs : Scope} {af : Addr} {ccd : Value} {cl : List (Str × Addr)} {outer : List Env} {A₀ : Around} {base h₀ : Heap} {L : Addr} {m : Str → Option Value} {s : Shared} {Q E : Value → Shared → Prop} (B : Below A₀ base outer h₀) (F : Fr h₀ L s.heap m) (X : (Mine.hd.heap_39 w.params).In h₀) (N : News h₀ L s.heap news) (T : Top p loose mean mg mb h₀) (hk : cs.kind = .function) (hd : dp + 2 < recursionLimit) (hu : un + 8 * 2 < cLine)
    (U : Upd a o o news news) (ho : Src o) (hm : (l, listOf its.toArray n) ∈ news) (hla : l ≠ a) (hz : 1 ≤ its.length ∧ its.length ≤ 256) (hb : IntsB its)
    (ret : ∀ (d : Int) (t : Tok) (o' : Obj) (h' : Heap) (tk' : Nat), 0 ≤ d → d ≤ 255 → Src o' → Fr h₀ L h' m → (∀ news', Upd a o o' news news' → News h₀ L h' news') → Q (.int d t) { s with heap := h', toks := tk' }) : wpAny (model PySem.Challenge.rw_pf0183_01.row.prog w) (ktrTop dp un gd cn cs L af ccd cl outer) (call (.ref 122) [.ref a, .ref l]) Q E s :=
  CtS.use B F X N T hk hd hu U (fun rest hne hin => oneL_ct a l o its n rest ho (hin _ hm hla) hz hne) fun v tl o' h' tk' hS hR F' hN' _ => by
    obtain ⟨hv, rfl⟩ := hR
    obtain ⟨d, t, rfl, h0, h1⟩ := hb v hv
    exact ret d t o' h' tk' h0 h1 hS F' hN'
theorem oneS_use {a : Addr} {o : Obj} {x : Str} {tx : Tok} {news : Led} {dp un : Nat} {gd : Option (List Code)} {cn : Str} {cs : Scope} {af : Addr} {ccd : Value} {cl : List (Str × Addr)} {outer : List Env} {A₀ : Around} {base h₀ : Heap} {L : Addr} {m : Str → Option Value} {s : Shared} {Q E : Value → Shared → Prop} (B : Below A₀ base outer h₀) (F : Fr h₀ L s.heap m) (X : (Mine.hd.heap_39 w.params).In h₀) (N : News h₀ L s.heap news) (T : Top p loose mean mg mb h₀) (hk : cs.kind = .function) (hd : dp + 2 < recursionLimit) (hu : un + 8 * 2 < cLine)
    (U : Upd a o o news news) (ho : Src o) (hz : 1 ≤ x.cps.size ∧ x.cps.size ≤ 256)
    (ret : ∀ (c : Nat) (t : Tok) (o' : Obj) (h' : Heap) (tk' : Nat), c ∈ x.cps.toList → Src o' → Fr h₀ L h' m → (∀ news', Upd a o o' news news' → News h₀ L h' news') → Q (.str ⟨#[c]⟩ t) { s with heap := h', toks := tk' }) : wpAny (model PySem.Challenge.rw_pf0183_01.row.prog w) (ktrTop dp un gd cn cs L af ccd cl outer) (call (.ref 122) [.ref a, .str x tx]) Q E s :=
  CtS.use B F X N T hk hd hu U (fun rest hne _ => oneS_ct a o x tx rest ho hz hne) fun v tl o' h' tk' hS hR F' hN' _ => by
    obtain ⟨⟨c, t, hc, rfl⟩, rfl⟩ := hR
    exact ret c t o' h' tk' hc hS F' hN'
theorem news_skip {h₀ : Heap} {L : Addr} {h : Heap} {p : Addr × Obj} {l : Led} (N : News h₀ L h (p :: l)) : News h₀ L h l := fun b hb => N b (.tail _ hb)
def PoolCt (prog : Program) (w : World) (p : Program) (loose : List Str) (mean : ExcName → Option Value) (mg mb : Str → Option Value) (k : Nat) (l : Addr) (vs : List Value) (t0 : Tok) (R : Value → Led → Prop) : Prop :=
  ∀ (dp un : Nat) (gd : Option (List Code)) (cn : Str) (cs : Scope) (a : Addr) (ccd : Value) (cl : List (Str × Addr)) (outer : List Env) (A₀ : Around) (base h₀ : Heap) (L : Addr) (m : Str → Option Value) (s : Shared) (news : Led) (Q E : Value → Shared → Prop),
    base.IsList l vs.toArray → Below A₀ base outer h₀ → Fr h₀ L s.heap m → (Mine.hd.heap_39 w.params).In h₀ → News h₀ L s.heap news → Top p loose mean mg mb h₀ → cs.kind = .function → dp + k < recursionLimit → un + 8 * k < cLine →
    (∀ (v : Value) (tl : Led) (h' : Heap) (tk' : Nat), Fr h₀ L h' m → News h₀ L h' (tl ++ news) → R v tl → (∀ b ∈ news, ∀ q ∈ tl, b.1 < q.1) → Q v { s with heap := h', toks := tk' }) →
    wpAny (model prog w) (ktrTop dp un gd cn cs L a ccd cl outer) (call (.ref 108) [.ref l, .int 0 t0]) Q E s
theorem pool_ct (l : Addr) (vs : List Value) (ns : List Int) (t0 : Tok) (hi : IntsAre vs ns) (hn : ns.length < 2 ^ 62) :
    PoolCt PySem.Challenge.rw_pf0183_01.row.prog w p loose mean mg mb 1 l vs t0 (fun v tl => ∃ a o, v = .ref a ∧ tl = [(a, o)] ∧ Src o) := by
  w_top off
  unfold PoolCt
  k_fill
  intro dp un gd cn cs af ccd cl outer A₀ base h₀ L m s news Q E hl B F X N T hk hd hu hret
  refine wpAny_call ?_
  k_dflt cell_enter
  k_steps
  all_goals refine hret _ [_] _ _ (by k_asm) (by k_asm) ⟨_, _, rfl, rfl, _, _, _, _, _, rfl, ?_, fmod_lo _ (by omega), fmod_hi _ (by omega)⟩ (fun b hb q hq => by rw [List.mem_singleton.mp hq]; rename_i l1 _ _ _ _; exact l1 b hb)
  · exact big_nonneg _ _
  · decide
end
end Mine
theorem Mine.words_03c : True := by
  k_with "intsB" => (
    (repeat (first | exact Mine.intsB_nil | refine Mine.intsB_cons ⟨by omega, by omega⟩ ?_)))
  k_with "call ref" => (
    k_here
    (with_reducible show wpAny _ _ (call (Value.ref 122) [Value.ref _, Value.ref _]) _ _ _)
    k_dflt (
      refine' Mine.oneI_use (by k_asm) (by k_asm) (by k_asm) (by k_asm) (by k_asm) (by first | exact rfl | assumption) (by first | exact Mine.room1 (by with_reducible assumption) (by decide) | ktr_room) (by first | exact Mine.units1 (by with_reducible assumption) (by decide) | ktr_units) (by k_upd) (by with_reducible assumption) (by k_mem) (by k_ne) (by simp only [List.length_cons, List.length_nil]; omega) (by k_extra "intsB") ?_
      intro d9 t9 o9 h9 tk9 hd9 hd9' hS9 F9 hN9
      refine' Mine.upd_then0 hN9 (by k_upd) ?_
      clear hN9
      intro N9
      replace N9 := Mine.news_skip N9
      (try dsimp only)
      (try k_fold)
      (try k_sweep)))
  trivial
namespace Mine
open LCg
def Over (b0 : Addr) (own : Led) : Prop := ∀ b ∈ own, @LE.le Nat _ b0 b.1
theorem Over.out {b0 : Addr} {own : Led} (h : Over b0 own) : ∀ b ∈ own, @LE.le Nat _ b0 b.1 := h
def SrcIn (h₀ : Heap) (srcs news : Led) : Prop := ∀ b ∈ srcs, b ∈ news ∨ h₀.get? b.1 = some b.2
theorem allLt_out {d : Addr} : ∀ {l : Led}, AllLt d l → ∀ b ∈ l, @LT.lt Nat _ b.1 d := fun h b hb => ktn_ltOf h b hb
theorem allLt_in {d : Addr} {l : Led} (h : ∀ b ∈ l, @LT.lt Nat _ b.1 d) : AllLt d l := allLt_of h

section
variable {prog : Program} {w : World} {A : Around} {s : Shared} {h₀ : Heap} {L : Addr} {m : Str → Option Value} {env : Env}

def TInv (h₀ : Heap) (L : Addr) (m : Str → Option Value) (s : Shared) (b0 C D : Addr) (srcs : Led) (n : Nat) (St : Nat → Heap → Prop) (J : Nat → List Value → Led → Prop) (k : Nat) (s' : Shared) : Prop :=
  ∃ h' tk i ys m' news, s' = { s with heap := h', toks := tk } ∧ i ≤ n ∧ k = n + 1 - i ∧ ys.length ≤ i ∧ St i h' ∧ Fr h₀ L h' m ∧ h'.Ns C m' ∧ News h₀ L h' ((D, lst ys) :: news) ∧ AllLt b0 news ∧ SrcIn h₀ srcs news ∧ J i ys news

theorem turn_core {target : PySem.Expr} {cenv : Env} {I b0 C D : Addr} {wr : List Addr} {srcs : Led} {n : Nat} {P Md : Nat → Value → Heap → Prop} {St : Nat → Heap → Prop}
    {B : Nat → (Str → Option Value) → Prop} {J : Nat → List Value → Led → Prop} {R : Result → Shared → Prop} {Er : Value → Shared → Prop} {G : (Shared → Prop) → Shared → Prop}
    (W : KTurns prog w A target I (wr ++ srcs.map (·.1)) wr n P Md St)
    (hasg : ∀ i v (s' : Shared) m' (Q : Unit → Shared → Prop), i < n → P i v s'.heap → s'.heap.Ns C m' →
      (∀ h' tk m₂, B i m₂ → h'.Ns C m₂ → (∀ c o, c ≠ C → s'.heap.get? c = some o → h'.get? c = some o) → Q () { s' with heap := h', toks := tk }) → wpAny (model prog w) A (assign target cenv v) Q Er s')
    (hwr : ∀ b ∈ wr, @LE.le Nat _ b0 b ∧ @LT.lt Nat _ b D) (hb0 : @LE.le Nat _ b0 D) (hDC : @LT.lt Nat _ D C) (hC₀ : h₀.get? C = none) (hD₀ : h₀.get? D = none) (hCL : C ≠ L) (hDL : D ≠ L) (hwr0 : ∀ b ∈ wr, h₀.get? b = none) (hLw : L ∉ wr)
    (hsl : ∀ b ∈ srcs, @LT.lt Nat _ b.1 b0)
    (hG : ∀ i ys news own oC m₂ h tk (Z : Shared → Prop), i < n → ys.length ≤ i → J i ys news → SrcIn h₀ srcs news → B i m₂ → NsObj oC m₂ → Fr h₀ L h m → News h₀ L h ((C, oC) :: (D, lst ys) :: (news ++ own)) → AllLt b0 news → Over b0 own → (∀ b ∈ own, @LT.lt Nat _ b.1 D) →
      (∀ h' tk' news' ys', Fr h₀ L h' m → News h₀ L h' ((C, oC) :: (D, lst ys') :: (news' ++ own)) → AllLt b0 news' → SrcIn h₀ srcs news' → J (i + 1) ys' news' → ys'.length ≤ i + 1 → Z { s with heap := h', toks := tk' }) → G Z { s with heap := h, toks := tk })
    (hdone : ∀ h tk m' ys news, Fr h₀ L h m → News h₀ L h ((D, lst ys) :: news) → AllLt b0 news → h.Ns C m' → J n ys news → R (.ok .next) { s with heap := h, toks := tk }) :
    ∀ k s', TInv h₀ L m s b0 C D srcs n St J k s' → wpAny (model prog w) A (pyNext (.ref I)) (fun r s₁ => match r with
      | none => R (.ok .next) s₁
      | some v => wpAny (model prog w) A (letOwnedTupleGo target (.ref I) v) (fun _ s₀ => wpAny (model prog w) A (assign target cenv v) (fun _ s₂ => G (fun s₅ => ∃ k', k' < k ∧ TInv h₀ L m s b0 C D srcs n St J k' s₅) s₂) Er s₀) Er s₁) Er s' := by
  rintro k s' ⟨h', tk, i, ys, m', news, rfl, hi, rfl, hyl, hst', F', hn', N', hlt', hS', hJ'⟩
  have hCw : C ∉ wr := fun h => Nat.lt_irrefl _ (Nat.lt_trans (hwr C h).2 hDC)
  have hDw : D ∉ wr := fun h => Nat.lt_irrefl _ (hwr D h).2
  have nw : ∀ b ∈ news, b.1 ∉ wr := fun b hb h => Nat.lt_irrefl _ (Nat.lt_of_lt_of_le (allLt_out hlt' b hb) (hwr _ h).1)
  have nC : ∀ b ∈ news, b.1 ≠ C := fun b hb h => Nat.lt_irrefl _ (Nat.lt_trans hDC (h ▸ Nat.lt_of_lt_of_le (allLt_out hlt' b hb) hb0))
  have old : ∀ b o, h₀.get? b = some o → b ∉ wr := fun b o e hb => by rw [hwr0 b hb] at e; cases e
  have oldC : ∀ b o, h₀.get? b = some o → b ≠ C := fun b o e hb => by rw [hb, hC₀] at e; cases e
  by_cases hin : i < n
  · refine W.item i _ _ _ hin hst' fun v h₁ tk₁ hMd hk₁ => ?_
    refine W.go i v _ _ _ hMd fun h₂ hP hst₂ hk₂ => ?_
    have k₂ : ∀ b o, b ∉ wr → h'.get? b = some o → h₂.get? b = some o := fun b o hb e => hk₂ b o hb (hk₁ b o hb e)
    refine hasg i v _ m' _ hin hP (hn'.at' fun o e => k₂ _ o hCw e) fun h₃ tk₃ m₂ hB hn₃ hk₃ => ?_
    have k₃ : ∀ b o, b ∉ wr → b ≠ C → h'.get? b = some o → h₃.get? b = some o := fun b o hb hc e => hk₃ b o hc (k₂ b o hb e)
    have hst₃ : St (i + 1) h₃ := W.frame _ _ _ hst₂ fun b hb o e => hk₃ b o (fun q => by
      rcases List.mem_append.mp hb with hb | hb
      · exact hCw (q ▸ hb)
      · obtain ⟨p, hp, rfl⟩ := List.mem_map.mp hb
        exact Nat.lt_irrefl _ (Nat.lt_trans hDC (q ▸ Nat.lt_of_lt_of_le (hsl p hp) hb0))) e
    have F₃ : Fr h₀ L h₃ m := ⟨F'.ns.at' fun o e => k₃ _ o hLw (Ne.symm hCL) e, fun b o e => k₃ b o (old b o e) (oldC b o e) (F'.keep b o e), F'.above⟩
    have N₃ : News h₀ L h₃ ((D, lst ys) :: news) := fun p hp => by
      rcases List.mem_cons.mp hp with rfl | hp'
      · exact ⟨k₃ _ _ hDw (Nat.ne_of_lt hDC) (N' _ hp).1, (N' _ hp).2⟩
      · exact ⟨k₃ _ _ (nw p hp') (nC p hp') (N' p hp).1, (N' p hp).2⟩
    obtain ⟨oC, heC, hoC⟩ := ns_obj hn₃
    have Nown : News h₀ L h₃ (PyProof.Rows.ownOf h₀ wr h₃) := news_ownOf hLw
    have Nall : News h₀ L h₃ ((C, oC) :: (D, lst ys) :: (news ++ PyProof.Rows.ownOf h₀ wr h₃)) := fun p hp => by
      rcases List.mem_cons.mp hp with rfl | hp
      · exact ⟨heC, hCL, hC₀⟩
      · rcases List.mem_cons.mp hp with rfl | hp
        · exact N₃ _ (.head _)
        · rcases List.mem_append.mp hp with hp | hp
          · exact N₃ _ (.tail _ hp)
          · exact Nown p hp
    refine hG i ys news _ oC m₂ h₃ tk₃ _ hin hyl hJ' hS' hB hoC F₃ Nall hlt' (fun b hb => (hwr _ (ownOf_sub b hb)).1) (fun b hb => (hwr _ (ownOf_sub b hb)).2) fun h₄ tk₄ news₄ ys₄ F₄ N₄ hlt₄ hS₄ hJ₄ hyl₄ => ?_
    refine ⟨n + 1 - (i + 1), by omega, h₄, tk₄, i + 1, ys₄, m₂, news₄, rfl, hin, rfl, hyl₄, ?_, F₄, hoC.ns (N₄ _ (.head _)).1, fun p hp => ?_, hlt₄, hS₄, hJ₄⟩
    · refine W.frame _ _ _ hst₃ fun b hb o e => ?_
      rcases List.mem_append.mp hb with hb | hb
      · exact (N₄ _ (.tail _ (.tail _ (List.mem_append.mpr (.inr (mem_ownOf hb (hwr0 b hb) e)))))).1
      · obtain ⟨p, hp, rfl⟩ := List.mem_map.mp hb
        have e1 : h₃.get? p.1 = some p.2 := by
          rcases hS' p hp with q | q
          · exact (N₃ p (.tail _ q)).1
          · exact F₃.keep _ _ q
        rw [e1] at e
        cases e
        rcases hS₄ p hp with q | q
        · exact (N₄ p (.tail _ (.tail _ (List.mem_append.mpr (.inl q))))).1
        · exact F₄.keep _ _ q
    · refine N₄ p (.tail _ ?_)
      rcases List.mem_cons.mp hp with rfl | hp
      · exact .head _
      · exact .tail _ (List.mem_append.mpr (.inl hp))
  · obtain rfl : i = n := Nat.le_antisymm hi (Nat.not_lt.mp hin)
    refine W.done _ _ _ hst' fun h₁ tk₁ hk₁ => ?_
    refine hdone h₁ tk₁ m' ys news ⟨F'.ns.at' fun o e => hk₁ _ o hLw e, fun b o e => hk₁ b o (old b o e) (F'.keep b o e), F'.above⟩ (fun p hp => ?_) hlt' (hn'.at' fun o e => hk₁ _ o hCw e) hJ'
    rcases List.mem_cons.mp hp with rfl | hp'
    · exact ⟨hk₁ _ _ hDw (N' _ hp).1, (N' _ hp).2⟩
    · exact ⟨hk₁ _ _ (nw p hp') (N' p hp).1, (N' p hp).2⟩

def TEnd (h₀ : Heap) (L : Addr) (m : Str → Option Value) (s₁ : Shared) (own : Led) (b0 : Addr) (C : Addr) (oC : Obj) (D : Addr) (oD : Obj) (srcs : Led) (rest : Value → Led → Prop) (y : Value) (s₂ : Shared) : Prop :=
  ∃ h' tk news', s₂ = { s₁ with heap := h', toks := tk } ∧ Fr h₀ L h' m ∧ News h₀ L h' ((C, oC) :: (D, oD) :: (news' ++ own)) ∧ AllLt b0 news' ∧ SrcIn h₀ srcs news' ∧ rest y news'
theorem TEnd.intro {s₁ : Shared} {own : Led} {b0 C D : Addr} {oC oD : Obj} {srcs : Led} {rest : Value → Led → Prop} {y : Value} {h' : Heap} {tk : Nat} {all : Led}
    (F : Fr h₀ L h' m) (N : News h₀ L h' all) (news' : Led) (sub : ∀ b ∈ (C, oC) :: (D, oD) :: (news' ++ own), b ∈ all) (hlt : AllLt b0 news') (hS : SrcIn h₀ srcs news') (r : rest y news') :
    TEnd h₀ L m s₁ own b0 C oC D oD srcs rest y { s₁ with heap := h', toks := tk } := ⟨h', tk, news', rfl, F, fun b hb => N b (sub b hb), hlt, hS, r⟩

def TStep (prog : Program) (w : World) (A : Around) (h₀ : Heap) (L : Addr) (m : Str → Option Value) (env : Env) (ifs : List PySem.Expr) (elt : PySem.Expr) (scope : Scope) (cl : List (Str × Addr)) (s : Shared) (b0 : Addr) (srcs : Led) (Bi : (Str → Option Value) → Prop) (J' : List Value → Led → Prop) (ys : List Value) (news : Led) : Prop :=
  ∀ own C oC D m₂ h tk (E' : Value → Shared → Prop), Bi m₂ → NsObj oC m₂ → Fr h₀ L h m → News h₀ L h ((C, oC) :: (D, lst ys) :: (news ++ own)) → AllLt b0 news → Over b0 own → (∀ b ∈ own, @LT.lt Nat _ b.1 D) → @LE.le Nat _ b0 D → @LT.lt Nat _ D C →
    match ifs with
    | [] => wpAny (model prog w) A (eval elt (compEnvC scope cl C env)) (TEnd h₀ L m { s with heap := h, toks := tk } own b0 C oC D (lst ys) srcs (fun y news' => J' (ys ++ [y]) news')) E' { s with heap := h, toks := tk }
    | c :: _ => wpAny (model prog w) A (isTrue c (compEnvC scope cl C env) (eval c (compEnvC scope cl C env))) (fun okb s₃ => if okb = true then
        wpAny (model prog w) A (eval elt (compEnvC scope cl C env)) (TEnd h₀ L m { s with heap := h, toks := tk } own b0 C oC D (lst ys) srcs (fun y news' => J' (ys ++ [y]) news')) E' s₃
        else TEnd h₀ L m { s with heap := h, toks := tk } own b0 C oC D (lst ys) srcs (fun _ news' => J' ys news') .none s₃) E' { s with heap := h, toks := tk }

section
variable {E : Value → Shared → Prop}
theorem block_core {elt target iter : PySem.Expr} {ifs : List PySem.Expr} (hifs : ifs.length ≤ 1) {scope : Scope} {cl : List (Str × Addr)} {pos : Pos} {I b0 : Addr} {wr : List Addr} {srcs : Led} {n : Nat} {P Md : Nat → Value → Heap → Prop} {St : Nat → Heap → Prop} {news : Led}
    {B : Nat → (Str → Option Value) → Prop} {J : Nat → List Value → Led → Prop} {RR : Value → Addr → Result → Shared → Prop}
    (W : KTurns prog w A target I (wr ++ srcs.map (·.1)) wr n P Md St)
    (hself : ∀ (s' : Shared) (Q : Value → Shared → Prop) (E' : Value → Shared → Prop), St 0 s'.heap → Q (.ref I) s' → wpAny (model prog w) A (pyIter (.ref I)) Q E' s')
    (hasg : ∀ C i v (s' : Shared) m' (Q : Unit → Shared → Prop) (E' : Value → Shared → Prop), i < n → P i v s'.heap → s'.heap.Ns C m' →
      (∀ h' tk m₂, B i m₂ → h'.Ns C m₂ → (∀ c o, c ≠ C → s'.heap.get? c = some o → h'.get? c = some o) → Q () { s' with heap := h', toks := tk }) → wpAny (model prog w) A (assign target (compEnvC scope cl C env) v) Q E' s')
    (hsz : n ≤ sizeLine) (hcell : ∀ y ∈ scope.names, y.2 ≠ .cell) (hkind : scope.kind = .function) (hst : St 0 s.heap)
    (hwr : ∀ b ∈ wr, @LE.le Nat _ b0 b ∧ @LT.lt Nat _ b s.heap.objs.size) (hb0 : @LE.le Nat _ b0 s.heap.objs.size) (hsl : ∀ b ∈ srcs, @LT.lt Nat _ b.1 b0)
    (F : Fr h₀ L s.heap m) (N : News h₀ L s.heap news) (hwr0 : ∀ b ∈ wr, h₀.get? b = none) (hLw : L ∉ wr) (hlt : AllLt b0 news) (hS : SrcIn h₀ srcs news) (hJ0 : J 0 [] news)
    (step : ∀ i ys news, i < n → J i ys news → SrcIn h₀ srcs news → TStep prog w A h₀ L m env ifs elt scope cl s b0 srcs (B i) (J (i + 1)) ys news)
    (hRR : ∀ D C h tk m' ys news', Fr h₀ L h m → News h₀ L h ((D, lst ys) :: news') → AllLt D news' → h.Ns C m' → h₀.get? C = none → h₀.get? D = none → C ≠ L → D ≠ L → C ≠ D → (∀ b ∈ news', b.1 ≠ C) → J n ys news' → RR (.ref D) C (.ok .next) { s with heap := h, toks := tk }) :
    wpAny (model prog w) A (newList []) (fun acc s₃ => wpAny (model prog w) A (newFunctionEnv scope env.globals cl [] env.qual none .none (some env)) (fun cenv s₄ =>
      codeAny (model prog w) A (.compStart (.ListComp elt [⟨target, iter, ifs, 0⟩] scope pos) 0 (.ref I) acc { cenv with scope := relabel scope env }) (RR acc cenv.locals) s₄) E s₃) E s := by
  refine wpAny_newObj_type (wpAny_newFunctionEnv hcell (by intro y hy; simp at hy) (fun h₁ hns₁ hsb₁ => ?_) hkind)
  dsimp only at hns₁ hsb₁ ⊢
  generalize hH2 : s.heap.push { cls := .type "list", dict := none, data := .seq ([] : List Value).toArray } = H2 at hns₁ hsb₁ ⊢
  have hC : H2.objs.size = s.heap.objs.size + 1 := by rw [← hH2, Heap.size_push]
  have hDC : @LT.lt Nat _ s.heap.objs.size H2.objs.size := by rw [hC]; exact Nat.lt_succ_self _
  have old : ∀ b o, s.heap.get? b = some o → h₁.get? b = some o := fun b o e =>
    hsb₁.extBut b o (Nat.ne_of_lt (Nat.lt_trans (Heap.lt_size e) hDC)) (Heap.get?_push_of_some _ (hH2 ▸ Heap.get?_push_of_some _ e))
  have hacc : h₁.get? s.heap.objs.size = some (lst []) := hsb₁.extBut _ _ (Nat.ne_of_lt hDC) (Heap.get?_push_of_some _ (hH2 ▸ Heap.get?_push_size _ rfl))
  have hst₁ : St 0 h₁ := W.frame _ _ _ hst fun b _ o e => old b o e
  have fresh₀ : ∀ a, s.heap.objs.size ≤ a → h₀.get? a = none := fun a ha => by
    cases e : h₀.get? a with
    | none => rfl
    | some o' => exact absurd (Heap.lt_size (F.keep a o' e)) (Nat.not_lt.mpr ha)
  have hD₀ := fresh₀ _ (Nat.le_refl _)
  have hC₀ := fresh₀ _ (Nat.le_of_lt hDC)
  have hLlt : L < s.heap.objs.size := F.ns.lt
  have hDL : s.heap.objs.size ≠ L := Nat.ne_of_gt hLlt
  have hCL : H2.objs.size ≠ L := Nat.ne_of_gt (Nat.lt_trans hLlt hDC)
  have N₁ : News h₀ L h₁ ((s.heap.objs.size, lst []) :: news) := fun p hp => by
    rcases List.mem_cons.mp hp with rfl | hp
    · exact ⟨hacc, hDL, hD₀⟩
    · exact ⟨old _ _ (N p hp).1, (N p hp).2⟩
  have inv : ∀ s₃ : Shared, s₃ = { s with heap := h₁, toks := s.toks + ([] : List (Str × Value)).length } → TInv h₀ L m s b0 H2.objs.size s.heap.objs.size srcs n St J (n + 1) s₃ := by
    rintro s₃ rfl
    exact ⟨h₁, _, 0, [], _, news, rfl, Nat.zero_le _, rfl, Nat.le_refl _, hst₁, F.keeps old, hns₁, N₁, hlt, hS, hJ0⟩
  have loop : ∀ s₃ : Shared, s₃ = { s with heap := h₁, toks := s.toks + ([] : List (Str × Value)).length } →
      codeAny (model prog w) A (.compLoop (.ListComp elt [⟨target, iter, ifs, 0⟩] scope pos) 0 (.ref I) (.ref s.heap.objs.size) (compEnvC scope cl H2.objs.size env))
        (RR (.ref s.heap.objs.size) H2.objs.size) s₃ := by
    intro s₃ hs₃
    have app : ∀ (own : Led) (oC : Obj) (h : Heap) (tk : Nat) (i : Nat) (ys : List Value) (y : Value) (s₄ : Shared) (E' : Value → Shared → Prop) (Z : Shared → Prop), i < n → ys.length ≤ i → (∀ b ∈ own, @LT.lt Nat _ b.1 s.heap.objs.size) →
        TEnd h₀ L m { s with heap := h, toks := tk } own b0 H2.objs.size oC s.heap.objs.size (lst ys) srcs (fun y news' => J (i + 1) (ys ++ [y]) news') y s₄ →
        (∀ h' tk' news' ys', Fr h₀ L h' m → News h₀ L h' ((H2.objs.size, oC) :: (s.heap.objs.size, lst ys') :: (news' ++ own)) → AllLt b0 news' → SrcIn h₀ srcs news' → J (i + 1) ys' news' → ys'.length ≤ i + 1 → Z { s with heap := h', toks := tk' }) →
        wpAny (model prog w) A (call (.builtin "list.append") [.ref s.heap.objs.size, y]) (fun _ s₅ => Z s₅) E' s₄ := by
      rintro own oC h tk i ys y s₄ E' Z hin hyl hoD ⟨h₄, tk₄, news₄, rfl, F₄, N₄, hlt₄, hS₄, hJ₄⟩ hZ
      have zD := (N₄ (s.heap.objs.size, lst ys) (.tail _ (.head _))).1
      refine append_at (hsz := by show ys.toArray.size ≤ sizeLine; rw [List.size_toArray]; exact Nat.le_trans hyl (Nat.le_trans (Nat.le_of_lt hin) hsz)) zD fun h₅ hs₅ hD₅ => ?_
      refine hZ h₅ tk₄ news₄ (ys ++ [y]) (F₄.change hs₅ hDL hD₀) (fun p hp => ?_) hlt₄ hS₄ hJ₄ (by rw [List.length_append, List.length_singleton]; omega)
      rcases List.mem_cons.mp hp with rfl | hp
      · exact ⟨hs₅.extBut _ _ (Nat.ne_of_gt hDC) (N₄ _ (.head _)).1, hCL, hC₀⟩
      · rcases List.mem_cons.mp hp with rfl | hp
        · exact ⟨hD₅.trans (congrArg some (lst_snoc ys y)), hDL, hD₀⟩
        · have z := N₄ p (.tail _ (.tail _ hp))
          refine ⟨hs₅.extBut _ _ ?_ z.1, z.2⟩
          rcases List.mem_append.mp hp with hp | hp
          · exact Nat.ne_of_lt (Nat.lt_of_lt_of_le (allLt_out hlt₄ p hp) hb0)
          · exact Nat.ne_of_lt (hoD p hp)
    have core : ∀ (Er : Value → Shared → Prop) (G : (Shared → Prop) → Shared → Prop), _ → _ := fun Er G hG => turn_core (R := RR (.ref s.heap.objs.size) H2.objs.size) (Er := Er) (G := G) W (fun i v s' m' Q a b c d => hasg H2.objs.size i v s' m' Q Er a b c d) hwr hb0 hDC hC₀ hD₀ hCL hDL hwr0 hLw hsl hG
      (fun h tk m' ys news' F' N' hlt' hn' hJ' => hRR _ _ h tk m' ys news' F' N' (allLt_in fun b hb => Nat.lt_of_lt_of_le (allLt_out hlt' b hb) hb0) hn' hC₀ hD₀ hCL hDL (Nat.ne_of_gt hDC) (fun b hb => Nat.ne_of_lt (Nat.lt_trans (Nat.lt_of_lt_of_le (allLt_out hlt' b hb) hb0) hDC)) hJ')
    match ifs, hifs with
    | [], _ =>
      refine kcp_loop (TInv h₀ L m s b0 H2.objs.size s.heap.objs.size srcs n St J) ?_ (n + 1) (inv _ hs₃)
      refine core _ (fun Z s₂ => wpAny (model prog w) A (eval elt (compEnvC scope cl H2.objs.size env)) (fun x s₄ => wpAny (model prog w) A (call (.builtin "list.append") [.ref s.heap.objs.size, x]) (fun _ s₅ => Z s₅) _ s₄) _ s₂) ?_
      intro i ys news own oC m₂ h tk Z hin hyl hJ hS hB hoC F N hlt hov hoD hZ
      exact wpAny_mono (step i ys news hin hJ hS own _ oC _ m₂ h tk _ hB hoC F N hlt hov hoD hb0 hDC) (fun y s₄ h₄ => app own oC h tk i ys y s₄ _ Z hin hyl hoD h₄ hZ) fun _ _ e => e
    | [c], _ =>
      refine kct_loop (TInv h₀ L m s b0 H2.objs.size s.heap.objs.size srcs n St J) ?_ (n + 1) (inv _ hs₃)
      refine core _ (fun Z s₂ => wpAny (model prog w) A (isTrue c (compEnvC scope cl H2.objs.size env) (eval c (compEnvC scope cl H2.objs.size env))) (fun ok s₃ => if ok = true then wpAny (model prog w) A (eval elt (compEnvC scope cl H2.objs.size env)) (fun x s₄ => wpAny (model prog w) A (call (.builtin "list.append") [.ref s.heap.objs.size, x]) (fun _ s₅ => Z s₅) _ s₄) _ s₃ else Z s₃) _ s₂) ?_
      intro i ys news own oC m₂ h tk Z hin hyl hJ hS hB hoC F N hlt hov hoD hZ
      refine wpAny_mono (step i ys news hin hJ hS own _ oC _ m₂ h tk _ hB hoC F N hlt hov hoD hb0 hDC) (fun okb s₃ h₃ => ?_) fun _ _ e => e
      cases okb with
      | true =>
        simp only [if_true] at h₃ ⊢
        exact wpAny_mono h₃ (fun y s₄ h₄ => app own oC h tk i ys y s₄ _ Z hin hyl hoD h₄ hZ) fun _ _ e => e
      | false =>
        simp only [Bool.false_eq_true, if_false] at h₃ ⊢
        obtain ⟨h₄, tk₄, news₄, rfl, F₄, N₄, hlt₄, hS₄, hJ₄⟩ := h₃
        exact hZ h₄ tk₄ news₄ ys F₄ N₄ hlt₄ hS₄ hJ₄ (Nat.le_succ_of_le hyl)
  exact codeAny_compStart_list (loop _ rfl) (hself _ _ _ hst₁ (loop _ rfl))
end
end
end Mine
namespace Mine
open LCg
def CSrc (prog : Program) (w : World) (A : Around) (h₀ : Heap) (L : Addr) (m : Str → Option Value) (env : Env) (target : PySem.Expr) (ifs : List PySem.Expr) (elt : PySem.Expr) (scope : Scope) (cl : List (Str × Addr)) (Q : Value → Shared → Prop) (it : Value) (s : Shared) : Prop :=
  ∃ (I b0 : Addr) (wr : List Addr) (srcs : Led) (n : Nat) (P Md : Nat → Value → Heap → Prop) (St : Nat → Heap → Prop) (news : Led) (B : Nat → (Str → Option Value) → Prop) (J : Nat → List Value → Led → Prop),
    it = .ref I ∧ KTurns prog w A target I (wr ++ srcs.map (·.1)) wr n P Md St ∧
    (∀ (s' : Shared) (Q : Value → Shared → Prop) (E' : Value → Shared → Prop), St 0 s'.heap → Q (.ref I) s' → wpAny (model prog w) A (pyIter (.ref I)) Q E' s') ∧
    (∀ C i v (s' : Shared) m' (Q : Unit → Shared → Prop) (E' : Value → Shared → Prop), i < n → P i v s'.heap → s'.heap.Ns C m' →
      (∀ h' tk m₂, B i m₂ → h'.Ns C m₂ → (∀ c o, c ≠ C → s'.heap.get? c = some o → h'.get? c = some o) → Q () { s' with heap := h', toks := tk }) → wpAny (model prog w) A (assign target (compEnvC scope cl C env) v) Q E' s') ∧
    n ≤ sizeLine ∧ St 0 s.heap ∧ (∀ b ∈ wr, @LE.le Nat _ b0 b ∧ @LT.lt Nat _ b s.heap.objs.size) ∧ @LE.le Nat _ b0 s.heap.objs.size ∧ (∀ b ∈ srcs, @LT.lt Nat _ b.1 b0) ∧
    Fr h₀ L s.heap m ∧ News h₀ L s.heap news ∧ (∀ b ∈ wr, h₀.get? b = none) ∧ L ∉ wr ∧ AllLt b0 news ∧ SrcIn h₀ srcs news ∧ J 0 [] news ∧
    (∀ i ys news, i < n → J i ys news → SrcIn h₀ srcs news → TStep prog w A h₀ L m env ifs elt scope cl s b0 srcs (B i) (J (i + 1)) ys news) ∧
    ∀ D h tk ys news', Fr h₀ L h m → News h₀ L h ((D, lst ys) :: news') → AllLt D news' → J n ys news' → Q (.ref D) { s with heap := h, toks := tk }

section
variable {prog : Program} {w : World} {A : Around} {E : Value → Shared → Prop} {s : Shared} {h₀ : Heap} {L : Addr} {m : Str → Option Value} {env : Env}
theorem ListComp_C {elt target iter : PySem.Expr} {ifs : List PySem.Expr} {scope : Scope} {cl : List (Str × Addr)} {pos : Pos} {Q : Value → Shared → Prop} (_F₀ : Fr h₀ L s.heap m) (hifs : ifs.length ≤ 1)
    (hclos : closureFor scope env = pure cl) (hcell : ∀ y ∈ scope.names, y.2 ≠ .cell) (hkind : scope.kind = .function)
    (hnames : ∀ y ∈ scope.names, y.2 = .local → scope.names.lookup y.1 = some .local)
    (h : wpAny (model prog w) A (eval iter env) (fun xv s₁ => wpAny (model prog w) A (pyIter xv) (CSrc prog w A h₀ L m env target ifs elt scope cl Q) E s₁) E s)
    (hs : ∀ x, foldedSetIterable iter env x = pure x := by intro _; rfl) :
    wpAny (model prog w) A (eval (.ListComp elt [⟨target, iter, ifs, 0⟩] scope pos) env) Q E s := by
  rw [eval_ListComp]
  refine wpAny_comprehension_free (use := none) rfl hs hclos hkind hnames (wpAny_mono h (fun xv s₁ h₁ => wpAny_mono h₁ (fun it s₂ h₂ => ?_) fun _ _ e => e) fun _ _ e => e)
  obtain ⟨I, b0, wr, srcs, n, P, Md, St, news, B, J, rfl, W, hself, hasg, hsz, hst, hwr, hb0, hsl, F, N, hwr0, hLw, hlt, hS, hJ0, step, fin⟩ := h₂
  refine block_core hifs W hself hasg hsz hcell hkind hst hwr hb0 hsl F N hwr0 hLw hlt hS hJ0 step ?_
  intro D C h tk m' ys news' F' N' o1 hn hC₀ hD₀ hCL hDL hCD offC hJ
  refine ⟨m', hn, fun h'' hs'' => fin D h'' tk ys news' (F'.change hs'' hCL hC₀) (fun p hp => ?_) o1 hJ⟩
  refine ⟨hs''.extBut _ _ ?_ (N' p hp).1, (N' p hp).2⟩
  rcases List.mem_cons.mp hp with rfl | hp
  · exact Ne.symm hCD
  · exact offC p hp

theorem assign_one {x : Str} {px : Pos} {scope : Scope} {cl : List (Str × Addr)} {C : Addr} {v : Value} {m' : Str → Option Value} {Q : Unit → Shared → Prop} {E' : Value → Shared → Prop} {s' : Shared} (hkind : scope.kind = .function) (hx : scope.names.lookup x = some .local) (hn : s'.heap.Ns C m')
    (h : ∀ h' tk, h'.Ns C (fun z => if z = x then some v else m' z) → (∀ c o, c ≠ C → s'.heap.get? c = some o → h'.get? c = some o) → Q () { s' with heap := h', toks := tk }) :
    wpAny (model prog w) A (assign (.Name x px) (compEnvC scope cl C env) v) Q E' s' :=
  wpAny_assign_Name (wpAny_storeName_local (lookup_relabel_local hx) hn (fun h₃ hn₃ hs₃ => h h₃ _ hn₃ fun c o hc e => hs₃.extBut c o hc e) (by simp [compEnvC, relabel, hkind]))

def App (l news' own : Led) : Prop := l = news' ++ own
theorem App.base {news own : Led} : App (news ++ own) news own := rfl
theorem App.cons {q : Addr × Obj} {l news' own : Led} (h : App l news' own) : App (q :: l) (q :: news') own := by
  show q :: l = q :: (news' ++ own)
  exact congrArg (q :: ·) h
theorem TEnd.here {s₁ : Shared} {own : Led} {b0 C D : Addr} {oC oD : Obj} {srcs : Led} {rest : Value → Led → Prop} {y : Value} {h' : Heap} {tk : Nat} {l news' : Led}
    (F : Fr h₀ L h' m) (N : News h₀ L h' ((C, oC) :: (D, oD) :: l)) (hA : App l news' own) (hlt : AllLt b0 news') (hS : SrcIn h₀ srcs news') (r : rest y news') :
    TEnd h₀ L m s₁ own b0 C oC D oD srcs rest y { s₁ with heap := h', toks := tk } := by
  have e : l = news' ++ own := hA
  subst e
  exact ⟨h', tk, news', rfl, F, N, hlt, hS, r⟩
theorem srcIn_nil {news : Led} : SrcIn h₀ [] news := fun _ hb => nomatch hb
theorem srcIn_cons {p : Addr × Obj} {srcs news : Led} (h : p ∈ news) (k : SrcIn h₀ srcs news) : SrcIn h₀ (p :: srcs) news := fun b hb => by
  rcases List.mem_cons.mp hb with rfl | hb
  · exact .inl h
  · exact k b hb
theorem all_app {P : Addr × Obj → Prop} {l own : Led} (h1 : ∀ b ∈ l, P b) (h2 : ∀ b ∈ own, P b) : ∀ b ∈ l ++ own, P b := fun b hb => (List.mem_append.mp hb).elim (h1 b) (h2 b)
def TupI (o : Obj) (ns : List Int) : Prop := ∃ vs, o = { cls := .type "tuple", data := .seq vs.toArray } ∧ IntsAre vs ns
def Int1 (c : Int) (news : Led) (y : Value) (news' : Led) : Prop := (∃ u, y = .int c u) ∧ news' = news
theorem ints_snoc {c : Int} {t : Tok} : ∀ {vs : List Value} {ns : List Int}, IntsAre vs ns → IntsAre (vs ++ [.int c t]) (ns ++ [c])
  | _, _, .nil => .cons c t .nil
  | _, _, .cons z u r => .cons z u (ints_snoc r)
theorem ints_at {vs : List Value} {ns : List Int} (h : IntsAre vs ns) {i : Nat} {v : Value} (e : vs[i]? = some v) : ∃ n t, ns[i]? = some n ∧ v = .int n t := by
  obtain ⟨k, t, e1, e2⟩ := IntsAre.at h i v e
  exact ⟨k, t, e2, e1⟩
theorem fresh_next (F : Fr h₀ L s.heap m) : h₀.get? s.heap.objs.size = none := by
  cases e : h₀.get? s.heap.objs.size with
  | none => rfl
  | some o => exact absurd (Heap.lt_size (F.keep _ _ e)) (Nat.lt_irrefl _)
theorem src_tupM {t : Addr} {ob : Obj} {as : List Int} {x : Str} {px : Pos} {elt : PySem.Expr} {scope : Scope} {cl : List (Str × Addr)} {news : Led} {Q : Value → Shared → Prop} (g : Int → Int)
    (hh : A.handled = none) (F : Fr h₀ L s.heap m) (N : News h₀ L s.heap news) (hm : (t, ob) ∈ news) (ht : TupI ob as) (hkind : scope.kind = .function) (hx : scope.names.lookup x = some .local) (hsz : as.length ≤ 256)
    (turn : ∀ b0 a u ys own C oC D m₂ h tk (E' : Value → Shared → Prop), a ∈ as → m₂ x = some (.int a u) → NsObj oC m₂ → Fr h₀ L h m → News h₀ L h ((C, oC) :: (D, lst ys) :: (news ++ own)) → AllLt b0 news → Over b0 own → (∀ b ∈ own, @LT.lt Nat _ b.1 D) → @LE.le Nat _ b0 D → @LT.lt Nat _ D C →
      wpAny (model prog w) A (eval elt (compEnvC scope cl C env)) (TEnd h₀ L m { s with heap := h, toks := tk } own b0 C oC D (lst ys) [(t, ob)] (fun y news' => Int1 (g a) news y news')) E' { s with heap := h, toks := tk })
    (fin : ∀ D h tk ys, Fr h₀ L h m → News h₀ L h ((D, lst ys) :: news) → AllLt D news → IntsAre ys (as.map g) → Q (.ref D) { s with heap := h, toks := tk }) :
    wpAny (model prog w) A (pyIter (.ref t)) (CSrc prog w A h₀ L m env (.Name x px) [] elt scope cl Q) E s := by
  obtain ⟨vs, rfl, hI⟩ := ht
  have hlen := hI.length
  have hax := N _ hm
  have hl : s.heap.IsTuple t vs.toArray := ⟨_, hax.1, rfl, _, rfl⟩
  have hne : t ≠ s.heap.objs.size := Nat.ne_of_lt (Heap.lt_size hax.1)
  have fresh := fresh_next F
  refine wpAny_pyIter_tuple hl ?_
  have sz : (s.heap.push { cls := .type "tuple_iterator", data := .fields #[.ref t, .int 0 0] }).objs.size = s.heap.objs.size + 1 := Heap.size_push ..
  have W := Walks.tuple (prog := prog) (w := w) hh s.heap.objs.size t hne vs.toArray
  refine ⟨s.heap.objs.size, s.heap.objs.size, [s.heap.objs.size], [(t, { cls := .type "tuple", data := .seq vs.toArray })], vs.toArray.size, _, _, _, news, fun i m₂ => ∃ a u, as[i]? = some a ∧ m₂ x = some (.int a u),
    fun i ys news' => IntsAre ys ((as.take i).map g) ∧ news' = news, rfl, KTurns.ofWalks W fun i v s Q' E' st q => letGo_tupleiter st.1 q, fun s' Q' E' st q => W.self 0 s' Q' E' st q,
    fun C i v s' m' Q' E' hi hP hn hQ => assign_one hkind hx hn fun h' tk hn' hk => by
      obtain ⟨a, u, e1, rfl⟩ := ints_at hI (by simpa using hP)
      exact hQ h' tk _ ⟨a, u, e1, by simp⟩ hn' hk, by rw [sizeLine_eq, List.size_toArray]; omega, ⟨⟨_, Heap.get?_push_size _ rfl, rfl, rfl⟩, hl.at fun o e => Heap.get?_push_of_some _ e⟩, ?_, ?_, ?_,
    F.push _, fun p hp => ⟨Heap.get?_push_of_some _ (N p hp).1, (N p hp).2⟩, ?_, ?_, allLt_in fun b hb => Heap.lt_size (N b hb).1, srcIn_cons hm srcIn_nil, ⟨by simp only [List.take_zero, List.map_nil]; exact .nil, rfl⟩, ?_, ?_⟩
  · intro b hb
    rw [List.mem_singleton.mp hb]
    exact ⟨Nat.le_refl _, by show s.heap.objs.size < (s.heap.push _).objs.size; rw [sz]; exact Nat.lt_succ_self _⟩
  · show s.heap.objs.size ≤ (s.heap.push _).objs.size
    rw [sz]; exact Nat.le_succ _
  · intro b hb
    rw [List.mem_singleton.mp hb]
    exact Heap.lt_size hax.1
  · intro b hb
    rw [List.mem_singleton.mp hb]; exact fresh
  · intro hb
    exact absurd F.ns.lt (by rw [List.mem_singleton.mp hb]; exact Nat.lt_irrefl _)
  · rintro i ys news' hi ⟨hJ, rfl⟩ hS own C oC D m₂ h tk E' ⟨a, u, ha, hm₂⟩ hoC F' N' hlt hov hoD hbD hDC
    refine wpAny_mono (turn _ a u ys own C oC D m₂ h tk E' (List.mem_of_getElem? ha) hm₂ hoC F' N' hlt hov hoD hbD hDC) (fun y s₂ hq => ?_) fun _ _ e => e
    obtain ⟨h', tk', news₂, e, F₂, N₂, hlt₂, hS₂, ⟨u', rfl⟩, rfl⟩ := hq
    refine ⟨h', tk', _, e, F₂, N₂, hlt₂, hS₂, ?_, rfl⟩
    rw [List.take_add_one, ha]
    simpa using ints_snoc (c := g a) (t := u') hJ
  · rintro D h tk ys news' F' N' hlt' ⟨hJ, rfl⟩
    refine fin D h tk ys F' N' hlt' ?_
    rwa [List.size_toArray, hlen, List.take_length] at hJ

def DrawEl (Rel : Value → Prop) (mk : Obj → Led) (y : Value) (news' : Led) : Prop := ∃ o', Src o' ∧ Rel y ∧ news' = mk o'
def Mk (mk : Obj → Led) (o : Obj) (l : Led) : Prop := l = mk o
theorem Mk.here {a : Addr} {o : Obj} {post : Led} : Mk (fun o => (a, o) :: post) o ((a, o) :: post) := rfl
theorem Mk.cons {q : Addr × Obj} {mk : Obj → Led} {o : Obj} {l : Led} (h : Mk mk o l) : Mk (fun o => q :: mk o) o (q :: l) := by
  unfold Mk at *
  rw [h]
theorem src_draws {r : Addr} {b : Int} {tu tv tw : Tok} {z : Str} {pz : Pos} {elt : PySem.Expr} {scope : Scope} {cl : List (Str × Addr)} (mk : Obj → Led) (o : Obj) {Q : Value → Shared → Prop} (Rel : Value → Prop) {l : Led}
    (ho : Src o) (hh : A.handled = none) (F : Fr h₀ L s.heap m) (N : News h₀ L s.heap l) (hM : Mk mk o l) (hr : IsRange s.heap r 0 b 1 tu tv tw) (hkind : scope.kind = .function) (hx : scope.names.lookup z = some .local) (hb0 : 0 ≤ b) (hsz : b ≤ 256)
    (turn : ∀ b0 o ys own C oC D m₂ h tk (E' : Value → Shared → Prop), Src o → NsObj oC m₂ → Fr h₀ L h m → News h₀ L h ((C, oC) :: (D, lst ys) :: (mk o ++ own)) → AllLt b0 (mk o) → Over b0 own → (∀ b ∈ own, @LT.lt Nat _ b.1 D) → @LE.le Nat _ b0 D → @LT.lt Nat _ D C →
      wpAny (model prog w) A (eval elt (compEnvC scope cl C env)) (TEnd h₀ L m { s with heap := h, toks := tk } own b0 C oC D (lst ys) [] (fun y news' => DrawEl Rel mk y news')) E' { s with heap := h, toks := tk })
    (fin : ∀ D h tk ys o, Fr h₀ L h m → News h₀ L h ((D, lst ys) :: mk o) → AllLt D (mk o) → Src o → (∀ y ∈ ys, Rel y) → (ys.length : Int) = b → Q (.ref D) { s with heap := h, toks := tk }) :
    wpAny (model prog w) A (pyIter (.ref r)) (CSrc prog w A h₀ L m env (.Name z pz) [] elt scope cl Q) E s := by
  have hM' : l = mk o := hM
  subst hM'
  obtain ⟨n, rfl⟩ : ∃ n : Nat, b = (n : Int) := ⟨b.toNat, by omega⟩
  have hrs : Builtin.Range.rangeSize 0 (n : Int) 1 = ((n : Nat) : Int) := by rw [rangeSize_nat]; omega
  refine wpAny_pyIter_range hr (small_one (by omega) (by omega) (by omega) (by omega)) ?_
  rw [hrs]
  have fresh := fresh_next F
  have W := range_walks (prog := prog) (w := w) (I := s.heap.objs.size) hh 0 n
  generalize hO : ({ cls := .type "range_iterator", data := .fields #[rawInt 0, rawInt ((n : Nat) : Int), rawInt 1] } : Obj) = ob
  have sz : (s.heap.push ob).objs.size = s.heap.objs.size + 1 := Heap.size_push ..
  refine ⟨s.heap.objs.size, s.heap.objs.size, [s.heap.objs.size], [], n, _, _, _, mk o, fun _ _ => True,
    fun i ys news' => ∃ o, Src o ∧ (∀ y ∈ ys, Rel y) ∧ ys.length = i ∧ news' = mk o, rfl, KTurns.ofWalks W fun i v s Q' E' st q => wpAny_pure q, fun s' Q' E' st q => W.self 0 s' Q' E' st q,
    fun C i v s' m' Q' E' hi hP hn hQ => assign_one hkind hx hn fun h' tk hn' hk => hQ h' tk _ trivial hn' hk, by rw [sizeLine_eq]; omega, by subst hO; simpa using Heap.get?_push_size s.heap rfl, ?_, ?_, ?_,
    F.push _, fun p hp => ⟨Heap.get?_push_of_some _ (N p hp).1, (N p hp).2⟩, ?_, ?_, allLt_in fun b hb => Heap.lt_size (N b hb).1, srcIn_nil, ⟨o, ho, (fun _ hc => nomatch hc), rfl, rfl⟩, ?_, ?_⟩
  · intro b hb
    rw [List.mem_singleton.mp hb]
    exact ⟨Nat.le_refl _, by show s.heap.objs.size < (s.heap.push _).objs.size; rw [sz]; exact Nat.lt_succ_self _⟩
  · show s.heap.objs.size ≤ (s.heap.push _).objs.size
    rw [sz]; exact Nat.le_succ _
  · intro b hb
    cases hb
  · intro b hb
    rw [List.mem_singleton.mp hb]; exact fresh
  · intro hb
    exact absurd F.ns.lt (by rw [List.mem_singleton.mp hb]; exact Nat.lt_irrefl _)
  · rintro i ys news' hi ⟨o', ho', hcs, hle, rfl⟩ _ own C oC D m₂ h tk E' _ hoC F' N' hlt hov hoD hbD hDC
    refine wpAny_mono (turn _ o' ys own C oC D m₂ h tk E' ho' hoC F' N' hlt hov hoD hbD hDC) (fun y s₂ hq => ?_) fun _ _ e => e
    obtain ⟨h', tk', news₂, e, F₂, N₂, hlt₂, hS₂, o₂, ho₂, hy, rfl⟩ := hq
    refine ⟨h', tk', _, e, F₂, N₂, hlt₂, hS₂, o₂, ho₂, fun d hd => ?_, ?_, rfl⟩
    · rcases List.mem_append.mp hd with hd | hd
      · exact hcs d hd
      · rw [List.mem_singleton.mp hd]; exact hy
    · rw [List.length_append, List.length_singleton]; omega
  · rintro D h tk ys news' F' N' hlt' ⟨o', ho', hcs, hle, rfl⟩
    exact fin D h tk ys o' F' N' hlt' ho' hcs (by omega)
def IntR (top : Int) (y : Value) : Prop := ∃ d t, y = .int d t ∧ 0 ≤ d ∧ d < top
theorem ints_of {top : Int} : ∀ {ys : List Value}, (∀ y ∈ ys, IntR top y) → ∃ ns, IntsAre ys ns ∧ ns.length = ys.length ∧ ∀ n ∈ ns, 0 ≤ n ∧ n < top
  | [], _ => ⟨[], .nil, rfl, fun _ h => nomatch h⟩
  | y :: ys, h => by
    obtain ⟨d, t, rfl, hd⟩ := h y (.head _)
    obtain ⟨ns, hI, hl, hb⟩ := ints_of (fun z hz => h z (.tail _ hz))
    exact ⟨d :: ns, .cons d t hI, by simp [hl], List.forall_mem_cons.mpr ⟨hd, hb⟩⟩
section
variable {news : Led} {a b : Addr} {oa ob : Obj} {ns ms : List Int} {R : Value → Shared → Prop}
theorem tup_new {D : Addr} {ys : List Value} {rest : Led} {Q : Value → Shared → Prop} (F : Fr h₀ L s.heap m) (N : News h₀ L s.heap ((D, lst ys) :: rest)) (hi : IntsAre ys ns) (hz : ns.length ≤ 256)
    (h : ∀ q ob h', TupI ob ns → Fr h₀ L h' m → News h₀ L h' ((q, ob) :: rest) → (∀ b ∈ rest, b.1 < q) → Q (.ref q) { s with heap := h' }) : wpAny (model prog w) A (call (.type "tuple") [.ref D]) Q E s := by
  have hl := hi.length
  refine kde_tupleOf F N ⟨_, (N _ (.head _)).1, rfl, _, rfl⟩ (by rw [List.size_toArray]; omega) rfl fun q h' F' N' hlt => ?_
  refine h q _ h' ⟨ys, rfl, hi⟩ F' (fun b hb => N' b ?_) fun b hb => hlt b (.tail _ hb)
  rcases List.mem_cons.mp hb with rfl | hb
  · exact .head _
  · exact .tail _ (.tail _ hb)
theorem add_tup {Q : Value → Shared → Prop} (F : Fr h₀ L s.heap m) (N : News h₀ L s.heap news) (ma : (a, oa) ∈ news) (mb : (b, ob) ∈ news) (ha : TupI oa ns) (hb : TupI ob ms) (h1 : 1 ≤ ns.length ∧ ns.length ≤ 256) (h2 : 1 ≤ ms.length ∧ ms.length ≤ 256)
    (h : ∀ q o h', TupI o (ns ++ ms) → Fr h₀ L h' m → News h₀ L h' ((q, o) :: news) → (∀ b ∈ news, b.1 < q) → Q (.ref q) { s with heap := h' }) : wpAny (model prog w) A (binaryOp .Add (.ref a) (.ref b)) Q E s := by
  obtain ⟨vs, rfl, hI⟩ := ha
  obtain ⟨us, rfl, hJ⟩ := hb
  have l1 := hI.length
  have l2 := hJ.length
  refine kde_addT F N ⟨_, (N _ ma).1, rfl, _, rfl⟩ ⟨_, (N _ mb).1, rfl, _, rfl⟩ (fun e => ?_) (fun e => ?_) (by simp; omega) rfl fun q h' F' N' hlt => h q _ h' ⟨vs ++ us, by simp, hI.append hJ⟩ F' N' hlt
  · have : vs = [] := by simpa using e
    subst this
    simp at l1; omega
  · have : us = [] := by simpa using e
    subst this
    simp at l2; omega
theorem item_tup {value slice : PySem.Expr} {k : Int} {u : Tok} {c : Int} (N : News h₀ L s.heap news) (ma : (a, oa) ∈ news) (ha : TupI oa ns) (hk : 0 ≤ k ∧ k ≤ 256) (hx : ns[k.toNat]? = some c)
    (h : ∀ t, R (.int c t) s) (hs : subscripted slice false (.ref a) (.int k u) = operate [.ref a, .int k u] (getItem (.ref a) (.int k u))) :
    wpAny (model prog w) A (subscriptTail value slice (.ref a) (.int k u)) R E s := by
  obtain ⟨vs, rfl, hI⟩ := ha
  have hlt : k.toNat < ns.length := (List.getElem?_eq_some_iff.mp hx).1
  have hl := hI.length
  have hv : vs[k.toNat]? = some vs[k.toNat] := List.getElem?_eq_getElem (by omega)
  obtain ⟨n, t, e1, e2⟩ := ints_at hI hv
  rw [hx] at e1
  cases e1
  exact item_tupleT (j := k.toNat) (l := vs) ⟨_, (N _ ma).1, rfl, _, rfl⟩ (by omega) (by omega) (StrLaws.seqIndex_nonneg hk.1 (by omega)) hv (by rw [e2]; exact h t) hs
theorem len_tup {k : Nat} (N : News h₀ L s.heap news) (ma : (a, oa) ∈ news) (ha : TupI oa ns) (hk : ns.length = k) (hz : k ≤ 256)
    (h : R (.int (k : Nat) (s.toks + 1)) { s with toks := s.toks + 1 + 1 }) : wpAny (model prog w) A (call (.builtin "len") [.ref a]) R E s := by
  obtain ⟨vs, rfl, hI⟩ := ha
  have hl := hI.length
  have e : vs.toArray.size = k := by rw [List.size_toArray]; omega
  refine PyProof.Rows.len_tuple (items := vs.toArray) ⟨_, (N _ ma).1, rfl, _, rfl⟩ (by rw [e]; omega) ?_
  rw [e]
  exact h
theorem shaped_tupI : PySem.SeqAt.shaped (.tuple (ns.map PyData.int)) = true := by
  simp [PySem.SeqAt.shaped, PyData.canLay0, PyData.depth, ke_canLayAll0, ke_depthAll]
theorem eq_tup (N : News h₀ L s.heap news) (ma : (a, oa) ∈ news) (mb : (b, ob) ∈ news) (ha : TupI oa ns) (hb : TupI ob ms) (hu : A.units + 64 < cLine) (e : ns = ms) (h : R (.bool true) s) :
    wpAny (model prog w) A (compareOp .Eq (.ref a) (.ref b)) R E s := by
  obtain ⟨vs, rfl, hI⟩ := ha
  obtain ⟨us, rfl, hJ⟩ := hb
  refine eq_dataH (reads_newDataT ⟨_, (N _ ma).1, rfl, _, rfl⟩ (ke_carried hI)) (reads_newDataT ⟨_, (N _ mb).1, rfl, _, rfl⟩ (ke_carried hJ)) shaped_tupI shaped_tupI hu ?_
  rw [show PyData.eqv (.tuple (ns.map PyData.int)) (.tuple (ms.map PyData.int)) = true by simp only [PyData.eqv, ked_eqvAll]; exact decide_eq_true e]
  exact h
theorem ne_tup (N : News h₀ L s.heap news) (ma : (a, oa) ∈ news) (mb : (b, ob) ∈ news) (ha : TupI oa ns) (hb : TupI ob ms) (hu : A.units + 64 < cLine) (e : ns = ms) (h : R (.bool false) s) :
    wpAny (model prog w) A (compareOp .NotEq (.ref a) (.ref b)) R E s := by
  obtain ⟨vs, rfl, hI⟩ := ha
  obtain ⟨us, rfl, hJ⟩ := hb
  refine ne_dataH (reads_newDataT ⟨_, (N _ ma).1, rfl, _, rfl⟩ (ke_carried hI)) (reads_newDataT ⟨_, (N _ mb).1, rfl, _, rfl⟩ (ke_carried hJ)) shaped_tupI shaped_tupI hu ?_
  rw [show PyData.eqv (.tuple (ns.map PyData.int)) (.tuple (ms.map PyData.int)) = true by simp only [PyData.eqv, ked_eqvAll]; exact decide_eq_true e]
  exact h
end
theorem last_item {ps : List Int} {al : Int} (h : ps.length = 3) : (ps ++ [al])[(3 : Int).toNat]? = some al := by
  show (ps ++ [al])[3]? = some al
  rw [List.getElem?_append_right (by omega), h]
  rfl
end
end Mine
theorem Mine.words_05a : True := by
  k_with "ints" => (
    first | exact IntsAre.nil | exact IntsAre.cons _ _ IntsAre.nil | exact IntsAre.cons _ _ (IntsAre.cons _ _ IntsAre.nil) | exact IntsAre.cons _ _ (IntsAre.cons _ _ (IntsAre.cons _ _ IntsAre.nil)) | exact IntsAre.cons _ _ (IntsAre.cons _ _ (IntsAre.cons _ _ (IntsAre.cons _ _ IntsAre.nil))))
  k_with "tupI" => (
    first | with_reducible assumption | exact ⟨_, rfl, by k_extra "ints"⟩)
  k_with "eval ListComp" => (
    k_here
    k_dflt (refine Mine.ListComp_C (by k_asm) (by decide) (by with_unfolding_all rfl) (by decide) (by rfl) (by decide) ?_))
  k_with "TEnd" => (
    first
      | (refine' Mine.TEnd.here (by assumption) (by assumption) (by first | exact Mine.App.base | exact Mine.App.cons (Mine.App.base) | exact Mine.App.cons (Mine.App.cons (Mine.App.base)) | exact Mine.App.cons (Mine.App.cons (Mine.App.cons (Mine.App.base))) | exact Mine.App.cons (Mine.App.cons (Mine.App.cons (Mine.App.cons (Mine.App.base)))) | exact Mine.App.cons (Mine.App.cons (Mine.App.cons (Mine.App.cons (Mine.App.cons (Mine.App.base))))) | exact Mine.App.cons (Mine.App.cons (Mine.App.cons (Mine.App.cons (Mine.App.cons (Mine.App.cons (Mine.App.base)))))) | exact Mine.App.cons (Mine.App.cons (Mine.App.cons (Mine.App.cons (Mine.App.cons (Mine.App.cons (Mine.App.cons (Mine.App.base))))))) | exact Mine.App.cons (Mine.App.cons (Mine.App.cons (Mine.App.cons (Mine.App.cons (Mine.App.cons (Mine.App.cons (Mine.App.cons (Mine.App.base)))))))) | exact Mine.App.cons (Mine.App.cons (Mine.App.cons (Mine.App.cons (Mine.App.cons (Mine.App.cons (Mine.App.cons (Mine.App.cons (Mine.App.cons (Mine.App.base))))))))) | exact Mine.App.cons (Mine.App.cons (Mine.App.cons (Mine.App.cons (Mine.App.cons (Mine.App.cons (Mine.App.cons (Mine.App.cons (Mine.App.cons (Mine.App.cons (Mine.App.base)))))))))) | exact Mine.App.cons (Mine.App.cons (Mine.App.cons (Mine.App.cons (Mine.App.cons (Mine.App.cons (Mine.App.cons (Mine.App.cons (Mine.App.cons (Mine.App.cons (Mine.App.cons (Mine.App.base))))))))))) | exact Mine.App.cons (Mine.App.cons (Mine.App.cons (Mine.App.cons (Mine.App.cons (Mine.App.cons (Mine.App.cons (Mine.App.cons (Mine.App.cons (Mine.App.cons (Mine.App.cons (Mine.App.cons (Mine.App.base)))))))))))) | exact Mine.App.cons (Mine.App.cons (Mine.App.cons (Mine.App.cons (Mine.App.cons (Mine.App.cons (Mine.App.cons (Mine.App.cons (Mine.App.cons (Mine.App.cons (Mine.App.cons (Mine.App.cons (Mine.App.cons (Mine.App.base))))))))))))) | exact Mine.App.cons (Mine.App.cons (Mine.App.cons (Mine.App.cons (Mine.App.cons (Mine.App.cons (Mine.App.cons (Mine.App.cons (Mine.App.cons (Mine.App.cons (Mine.App.cons (Mine.App.cons (Mine.App.cons (Mine.App.cons (Mine.App.base)))))))))))))) | exact Mine.App.cons (Mine.App.cons (Mine.App.cons (Mine.App.cons (Mine.App.cons (Mine.App.cons (Mine.App.cons (Mine.App.cons (Mine.App.cons (Mine.App.cons (Mine.App.cons (Mine.App.cons (Mine.App.cons (Mine.App.cons (Mine.App.cons (Mine.App.base))))))))))))))) | exact Mine.App.cons (Mine.App.cons (Mine.App.cons (Mine.App.cons (Mine.App.cons (Mine.App.cons (Mine.App.cons (Mine.App.cons (Mine.App.cons (Mine.App.cons (Mine.App.cons (Mine.App.cons (Mine.App.cons (Mine.App.cons (Mine.App.cons (Mine.App.cons (Mine.App.base)))))))))))))))) | exact Mine.App.cons (Mine.App.cons (Mine.App.cons (Mine.App.cons (Mine.App.cons (Mine.App.cons (Mine.App.cons (Mine.App.cons (Mine.App.cons (Mine.App.cons (Mine.App.cons (Mine.App.cons (Mine.App.cons (Mine.App.cons (Mine.App.cons (Mine.App.cons (Mine.App.cons (Mine.App.base))))))))))))))))) | exact Mine.App.cons (Mine.App.cons (Mine.App.cons (Mine.App.cons (Mine.App.cons (Mine.App.cons (Mine.App.cons (Mine.App.cons (Mine.App.cons (Mine.App.cons (Mine.App.cons (Mine.App.cons (Mine.App.cons (Mine.App.cons (Mine.App.cons (Mine.App.cons (Mine.App.cons (Mine.App.cons (Mine.App.base))))))))))))))))))) (by assumption) (by (repeat (first | exact Mine.srcIn_nil | (refine Mine.srcIn_cons (by k_mem) ?_)))) ?_)
      | ((with_reducible rename News _ _ _ _ => nX9); (replace nX9 := Mine.news_skip nX9); k_extra "TEnd"))
  k_with "Int1" => (
    exact ⟨⟨_, by with_unfolding_all rfl⟩, rfl⟩)
  k_with "drawn" => (
    first | exact ⟨_, _, rfl, by omega, by omega⟩ | exact ⟨_, _, by with_unfolding_all assumption, rfl⟩)
  k_with "DrawEl" => (
    exact ⟨_, by with_reducible assumption, by k_extra "drawn", rfl⟩)
  k_with "call type:tuple" => (
    k_here
    (with_reducible show wpAny _ _ (call (Value.type _) [Value.ref _]) _ _ _)
    k_dflt (
      refine' Mine.tup_new (by k_asm) (by k_asm) (by assumption) (by k_extra "len") ?_
      intro q9 ob9 h9 hP9 F9 N9 l9
      (try k_lt l9)
      (try dsimp only)
      (try k_fold)
      (try k_sweep)))
  k_with "len" => (
    first | omega | (simp only [List.length_map, List.length_append, List.length_cons, List.length_nil, List.length_zipWith]; done) | (simp only [List.length_map, List.length_append, List.length_cons, List.length_nil, List.length_zipWith]; omega))
  k_with "binaryOp Add ref ref" => (
    k_here
    (with_reducible show wpAny _ _ (binaryOp _ (Value.ref _) (Value.ref _)) _ _ _)
    k_dflt (
      refine' Mine.add_tup (by k_asm) (by k_asm) (by k_mem) (by k_mem) (by k_extra "tupI") (by k_extra "tupI") (by constructor <;> k_extra "len") (by constructor <;> k_extra "len") ?_
      intro q9 ob9 h9 hP9 F9 N9 l9
      (try k_lt l9)
      (try dsimp only)
      (try k_fold)
      (try k_sweep)))
  k_with "item" => (
    first | exact Mine.last_item (by k_extra "len") | exact rfl)
  k_with "subscriptTail Name Constant ref int" => (
    k_here
    (with_reducible show wpAny _ _ (subscriptTail _ _ (Value.ref _) (Value.int _ _)) _ _ _)
    k_dflt (
      refine' Mine.item_tup (by k_asm) (by k_mem) (by k_extra "tupI") (by decide) (by k_extra "item") ?_ (by with_unfolding_all rfl)
      intro t9))
  k_with "call builtin:len" => (
    k_here
    (with_reducible show wpAny _ _ (call (Value.builtin _) [Value.ref _]) _ _ _)
    k_dflt (
      refine' Mine.len_tup (k := 4) (by k_asm) (by k_mem) (by k_extra "tupI") (by k_extra "len") (by decide) ?_))
  k_with "compareOp NotEq ref ref" => (
    k_here
    (with_reducible show wpAny _ _ (compareOp CmpOp.NotEq (Value.ref _) (Value.ref _)) _ _ _)
    k_dflt (
      refine' Mine.ne_tup (by k_asm) (by k_mem) (by k_mem) (by k_extra "tupI") (by k_extra "tupI") (by k_extra "units") (by k_extra "int lists") ?_))
  k_with "compareOp Eq ref ref" => (
    k_here
    (with_reducible show wpAny _ _ (compareOp CmpOp.Eq (Value.ref _) (Value.ref _)) _ _ _)
    k_dflt (
      refine' Mine.eq_tup (by k_asm) (by k_mem) (by k_mem) (by k_extra "tupI") (by k_extra "tupI") (by k_extra "units") (by k_extra "int lists") ?_))
  trivial
namespace Mine
open LCg
section
variable {prog : Program} {w : World} {A : Around} {E : Value → Shared → Prop} {s : Shared} {h₀ : Heap} {L : Addr} {m : Str → Option Value} {env : Env}
abbrev DTurn (prog : Program) (w : World) (A : Around) (s : Shared) (h₀ : Heap) (L : Addr) (m : Str → Option Value) (env : Env) (elt : PySem.Expr) (scope : Scope) (cl : List (Str × Addr)) (mk : Obj → Led) (Rel : Value → Prop) : Prop :=
  ∀ b0 o ys own C oC D m₂ h tk (E' : Value → Shared → Prop), Src o → NsObj oC m₂ → Fr h₀ L h m → News h₀ L h ((C, oC) :: (D, lst ys) :: (mk o ++ own)) → AllLt b0 (mk o) → Over b0 own → (∀ b ∈ own, @LT.lt Nat _ b.1 D) → @LE.le Nat _ b0 D → @LT.lt Nat _ D C →
      wpAny (model prog w) A (eval elt (compEnvC scope cl C env)) (TEnd h₀ L m { s with heap := h, toks := tk } own b0 C oC D (lst ys) [] (fun y news' => DrawEl Rel mk y news')) E' { s with heap := h, toks := tk }
theorem src_drawsA {al : Int} {r : Addr} {b : Int} {tu tv tw : Tok} {z : Str} {pz : Pos} {elt : PySem.Expr} {scope : Scope} {cl : List (Str × Addr)} (mk : Obj → Led) (o : Obj) {Q : Value → Shared → Prop} {l : Led} (_ : al ≤ 255)
    (ho : Src o) (hh : A.handled = none) (F : Fr h₀ L s.heap m) (N : News h₀ L s.heap l) (hM : Mk mk o l) (hr : IsRange s.heap r 0 b 1 tu tv tw) (hkind : scope.kind = .function) (hx : scope.names.lookup z = some .local) (hb0 : 0 ≤ b) (hsz : b ≤ 256)
    (turn : DTurn prog w A s h₀ L m env elt scope cl mk (IntR (al + 1)))
    (fin : ∀ D h tk ys o, Fr h₀ L h m → News h₀ L h ((D, lst ys) :: mk o) → AllLt D (mk o) → Src o → (∀ y ∈ ys, IntR (al + 1) y) → (ys.length : Int) = b → Q (.ref D) { s with heap := h, toks := tk }) :
    wpAny (model prog w) A (pyIter (.ref r)) (CSrc prog w A h₀ L m env (.Name z pz) [] elt scope cl Q) E s := src_draws mk o _ ho hh F N hM hr hkind hx hb0 hsz turn fin
end
def ColB (ps : List Int) (al : Int) : Prop := ps.length = 3 ∧ (0 ≤ al ∧ al ≤ 255) ∧ ∀ p ∈ ps, 0 ≤ p ∧ p ≤ al
theorem col_all {ps : List Int} {al : Int} (h : ∀ p ∈ ps, 0 ≤ p ∧ p ≤ al) (ha : 0 ≤ al ∧ al ≤ 255) : ∀ n ∈ ps ++ [al], 0 ≤ n ∧ n ≤ 255 := fun n hn => by
  rcases List.mem_append.mp hn with hn | hn
  · have := h n hn
    omega
  · rw [List.mem_singleton.mp hn]; exact ha
theorem colB {ps : List Int} {al : Int} (h3 : ps.length = 3) (h0 : 0 ≤ al) (h1 : al ≤ 255) (h : ∀ n ∈ ps, 0 ≤ n ∧ n < al + 1) : ColB ps al := ⟨h3, ⟨h0, h1⟩, fun p hp => ⟨(h p hp).1, by have := (h p hp).2; omega⟩⟩
end Mine
theorem Mine.words_06a : True := by
  k_with "pyIter ref" => (
    k_here
    (with_reducible show wpAny _ _ (pyIter (Value.ref _)) (Mine.CSrc _ _ _ _ _ _ _ (Expr.Name (PySem.Str.ofString "part") _) _ (Expr.Call _ [_, Expr.BinOp _ _ _ _] _ _) _ _ _) _ _)
    k_dflt (
      refine' Mine.src_drawsA _ _ (by with_reducible assumption) (by with_reducible assumption) (by exact rfl) (by k_asm) (by k_asm) (by first | exact Mine.Mk.here | exact Mine.Mk.cons (Mine.Mk.here) | exact Mine.Mk.cons (Mine.Mk.cons (Mine.Mk.here)) | exact Mine.Mk.cons (Mine.Mk.cons (Mine.Mk.cons (Mine.Mk.here))) | exact Mine.Mk.cons (Mine.Mk.cons (Mine.Mk.cons (Mine.Mk.cons (Mine.Mk.here)))) | exact Mine.Mk.cons (Mine.Mk.cons (Mine.Mk.cons (Mine.Mk.cons (Mine.Mk.cons (Mine.Mk.here))))) | exact Mine.Mk.cons (Mine.Mk.cons (Mine.Mk.cons (Mine.Mk.cons (Mine.Mk.cons (Mine.Mk.cons (Mine.Mk.here)))))) | exact Mine.Mk.cons (Mine.Mk.cons (Mine.Mk.cons (Mine.Mk.cons (Mine.Mk.cons (Mine.Mk.cons (Mine.Mk.cons (Mine.Mk.here))))))) | exact Mine.Mk.cons (Mine.Mk.cons (Mine.Mk.cons (Mine.Mk.cons (Mine.Mk.cons (Mine.Mk.cons (Mine.Mk.cons (Mine.Mk.cons (Mine.Mk.here)))))))) | exact Mine.Mk.cons (Mine.Mk.cons (Mine.Mk.cons (Mine.Mk.cons (Mine.Mk.cons (Mine.Mk.cons (Mine.Mk.cons (Mine.Mk.cons (Mine.Mk.cons (Mine.Mk.here))))))))) | exact Mine.Mk.cons (Mine.Mk.cons (Mine.Mk.cons (Mine.Mk.cons (Mine.Mk.cons (Mine.Mk.cons (Mine.Mk.cons (Mine.Mk.cons (Mine.Mk.cons (Mine.Mk.cons (Mine.Mk.here)))))))))) | exact Mine.Mk.cons (Mine.Mk.cons (Mine.Mk.cons (Mine.Mk.cons (Mine.Mk.cons (Mine.Mk.cons (Mine.Mk.cons (Mine.Mk.cons (Mine.Mk.cons (Mine.Mk.cons (Mine.Mk.cons (Mine.Mk.here)))))))))))) (by assumption) (by rfl) (by rfl) (by omega) (by omega) ?_ ?_
      rotate_left
      intro D' h' tk' ys' o9 F' N' hlt' hS9 hy' hln'
      obtain ⟨ns', hI', hnl', hnb'⟩ := Mine.ints_of hy'
      clear hy'
      (have hl3' : ns'.length = 3 := by omega)
      clear hnl' hln'
      (try simp only [AllLt, and_true] at hlt')
      (try dsimp only at N')
      (try dsimp only)
      rotate_left
      intro b0' o9 ys' own' C' oC' D' m' h' tk' E' hS9 hC' F' N' hlt' hov' hoD' hb' hDC'
      (try simp only [AllLt, and_true] at hlt')
      (try simp only [List.cons_append, List.nil_append] at N')
      walk_say "DRAWS"))
  k_with "pyIter ref" => (
    k_here
    (with_reducible show wpAny _ _ (pyIter (Value.ref _)) (Mine.CSrc _ _ _ _ _ _ _ (Expr.Name (PySem.Str.ofString "part") _) _ (Expr.Call _ [_, Expr.Constant _ _ _] _ _) _ _ _) _ _)
    k_dflt (
      refine' Mine.src_draws _ _ (Mine.IntR 256) (by with_reducible assumption) (by exact rfl) (by k_asm) (by k_asm) (by first | exact Mine.Mk.here | exact Mine.Mk.cons (Mine.Mk.here) | exact Mine.Mk.cons (Mine.Mk.cons (Mine.Mk.here)) | exact Mine.Mk.cons (Mine.Mk.cons (Mine.Mk.cons (Mine.Mk.here))) | exact Mine.Mk.cons (Mine.Mk.cons (Mine.Mk.cons (Mine.Mk.cons (Mine.Mk.here)))) | exact Mine.Mk.cons (Mine.Mk.cons (Mine.Mk.cons (Mine.Mk.cons (Mine.Mk.cons (Mine.Mk.here))))) | exact Mine.Mk.cons (Mine.Mk.cons (Mine.Mk.cons (Mine.Mk.cons (Mine.Mk.cons (Mine.Mk.cons (Mine.Mk.here)))))) | exact Mine.Mk.cons (Mine.Mk.cons (Mine.Mk.cons (Mine.Mk.cons (Mine.Mk.cons (Mine.Mk.cons (Mine.Mk.cons (Mine.Mk.here))))))) | exact Mine.Mk.cons (Mine.Mk.cons (Mine.Mk.cons (Mine.Mk.cons (Mine.Mk.cons (Mine.Mk.cons (Mine.Mk.cons (Mine.Mk.cons (Mine.Mk.here)))))))) | exact Mine.Mk.cons (Mine.Mk.cons (Mine.Mk.cons (Mine.Mk.cons (Mine.Mk.cons (Mine.Mk.cons (Mine.Mk.cons (Mine.Mk.cons (Mine.Mk.cons (Mine.Mk.here))))))))) | exact Mine.Mk.cons (Mine.Mk.cons (Mine.Mk.cons (Mine.Mk.cons (Mine.Mk.cons (Mine.Mk.cons (Mine.Mk.cons (Mine.Mk.cons (Mine.Mk.cons (Mine.Mk.cons (Mine.Mk.here)))))))))) | exact Mine.Mk.cons (Mine.Mk.cons (Mine.Mk.cons (Mine.Mk.cons (Mine.Mk.cons (Mine.Mk.cons (Mine.Mk.cons (Mine.Mk.cons (Mine.Mk.cons (Mine.Mk.cons (Mine.Mk.cons (Mine.Mk.here)))))))))))) (by assumption) (by rfl) (by rfl) (by omega) (by omega) ?_ ?_
      rotate_left
      intro D' h' tk' ys' o9 F' N' hlt' hS9 hy' hln'
      obtain ⟨ns', hI', hnl', hnb'⟩ := Mine.ints_of hy'
      clear hy'
      (have hl3' : ns'.length = 3 := by omega)
      clear hnl' hln'
      (try simp only [AllLt, and_true] at hlt')
      (try dsimp only at N')
      (try dsimp only)
      rotate_left
      intro b0' o9 ys' own' C' oC' D' m' h' tk' E' hS9 hC' F' N' hlt' hov' hoD' hb' hDC'
      (try simp only [AllLt, and_true] at hlt')
      (try simp only [List.cons_append, List.nil_append] at N')
      walk_say "DRAWS"))
  trivial
namespace Mine
section
variable {w : World} {p : Program} {loose : List Str} {mean : ExcName → Option Value} {mg mb : Str → Option Value}
theorem colour_ct (a : Addr) (o : Obj) (news : Led) (ho : Src o) (hne : ∀ b ∈ news, b.1 ≠ a) :
    CtS PySem.Challenge.rw_pf0183_01.row.prog w p loose mean mg mb 134 3 [.ref a] a o news (fun v tl => ∃ q ob ps al, v = .ref q ∧ tl = [(q, ob)] ∧ TupI ob (ps ++ [al]) ∧ ColB ps al) := by
  w_top off
  unfold CtS Ct
  k_fill
  intro dp un gd cn cs af ccd cl outer A₀ base h₀ L m s Q E B F X N T hk hd hu hret
  refine wpAny_call ?_
  k_dflt (refine' code_defC ?k1 ?k2 ?k3 ?k4 ?k5 ?kA ?kF ?kK ?k6 ?k7 ?k8 ?k9 ?kB ?kD ?_ ?c2 ?c3 ?c4; (case kA => exact rfl); (case kF => exact rfl); (case kK => assumption); (case k1 => k_asm); (case k2 => k_asm); (case k3 => k_asm); (case k4 => k_asm); (case k5 => k_asm); (case k6 => k_is); (case k7 => k_is); (case k8 => ktr_room); (case k9 => exact BindsTo.of_eq rfl); (case kB => exact rfl); (case kD => decide +kernel); (case c2 => exact rfl); (case c3 => exact rfl); (case c4 => exact rfl); k_whole; intro g' L' h' tk' cells' FG' F' N' Y' B' X' T' l1; (have hU9 := Mine.under_of l1); (try k_lt l1); (first | (have hY := Mine.cells_nil Y'; subst hY; clear Y') | k_cells Y'); (try simp only [List.cons_append, List.nil_append] at N'); (try dsimp only); (try k_lift B'); (try k_fold))
  k_steps
  all_goals (
    refine' hret _ ((_, _) :: (a, _) :: news) _ _ (by k_asm) (cb_drop (by k_asm) ?sub) ⟨_, [(_, _)], by assumption, ⟨_, _, _, _, rfl, rfl, by assumption, colB (by assumption) (by assumption) (by assumption) (by assumption)⟩, rfl, ?ord⟩
    case sub => exact List.forall_mem_cons.mpr ⟨by kcj_m, List.forall_mem_cons.mpr ⟨by kcj_m, fun b hb => by repeat (first | exact hb | refine List.mem_cons_of_mem _ ?_)⟩⟩
    case ord => exact ord_of hU9 (by omega) (by omega))
theorem colour_use {a : Addr} {o : Obj} {news : Led} {dp un : Nat} {gd : Option (List Code)} {cn : Str} {cs : Scope} {af : Addr} {ccd : Value} {cl : List (Str × Addr)} {outer : List Env} {A₀ : Around} {base h₀ : Heap} {L : Addr} {m : Str → Option Value} {s : Shared} {Q E : Value → Shared → Prop} (B : Below A₀ base outer h₀) (F : Fr h₀ L s.heap m) (X : (Mine.hd.heap_39 w.params).In h₀) (N : News h₀ L s.heap news) (T : Top p loose mean mg mb h₀) (hk : cs.kind = .function) (hd : dp + 3 < recursionLimit) (hu : un + 8 * 3 < cLine)
    (U : Upd a o o news news) (ho : Src o)
    (ret : ∀ (q : Addr) (ob : Obj) (ps : List Int) (al : Int) (o' : Obj) (h' : Heap) (tk' : Nat), TupI ob (ps ++ [al]) → ps.length = 3 → (0 ≤ al ∧ al ≤ 255) → (∀ p ∈ ps, 0 ≤ p ∧ p ≤ al) → Src o' → Fr h₀ L h' m → (∀ news', Upd a o o' news news' → News h₀ L h' ((q, ob) :: news')) → (∀ b ∈ news, b.1 < q) → Q (.ref q) { s with heap := h', toks := tk' }) : wpAny (model PySem.Challenge.rw_pf0183_01.row.prog w) (ktrTop dp un gd cn cs L af ccd cl outer) (call (.ref 134) [.ref a]) Q E s :=
  CtS.use B F X N T hk hd hu U (fun rest hne _ => colour_ct a o rest ho hne) fun v tl o' h' tk' hS hR F' hN' hlt => by
    obtain ⟨q, ob, ps, al, rfl, rfl, h1, h2, h3, h4⟩ := hR
    exact ret q ob ps al o' h' tk' h1 h2 h3 h4 hS F' hN' fun b hb => hlt b hb _ (.head _)
end
end Mine
theorem Mine.words_06b : True := by
  k_with "call ref" => (
    k_here
    (with_reducible show wpAny _ _ (call (Value.ref 134) _) _ _ _)
    k_dflt (
      refine' Mine.colour_use (by k_asm) (by k_asm) (by k_asm) (by k_asm) (by k_asm) (by first | exact rfl | assumption) (by first | exact Mine.room1 (by with_reducible assumption) (by decide) | ktr_room) (by first | exact Mine.units1 (by with_reducible assumption) (by decide) | ktr_units) (by k_upd) (by with_reducible assumption) ?_
      intro q9 ob9 ps9 al9 o9 h9 tk9 hP9 hl9 ha9 hb9 hS9 F9 hN9 l9
      (have hc9 := Mine.col_all hb9 ha9)
      refine' Mine.upd_then1 hN9 (by k_upd) ?_
      clear hN9
      intro N9
      (try simp only [List.nil_append, List.cons_append] at N9)
      (try k_lt l9)
      (try dsimp only)
      (try k_fold)
      (try k_sweep)))
  trivial
namespace Mine
section
variable {prog : Program} {w : World} {A : Around} {E : Value → Shared → Prop} {s : Shared} {h₀ : Heap} {L : Addr} {m : Str → Option Value} {news : Led}
theorem sliceApplied_3 {sl : Addr} {u : Tok} {Q : Int × Int × Nat → Shared → Prop} (hs : s.heap.IsSliceOf sl .none (.int 3 u) .none) (h : Q (0, 1, 3) s) :
    wpAny (model prog w) A (Builtin.Slice.sliceApplied (.ref sl) (pure ((4 : Nat) : Int))) Q E s := by
  obtain ⟨os, hos, hcs, hds⟩ := id hs
  unfold Builtin.Slice.sliceApplied Builtin.Slice.sliceFields
  refine wpAny_bind (wpAny_bind (wpAny_field hos hds (x := .none) rfl (wpAny_bind (wpAny_field hos hds (x := .int 3 u) rfl (wpAny_bind (wpAny_field hos hds (x := .none) rfl (wpAny_pure ?_)))))))
  refine wpAny_bind (slicePart_none ?_)
  show wpAny _ _ (if ((1 : Int) == 0) = true then _ else _) _ _ s
  rw [if_neg (by decide)]
  refine wpAny_bind (slicePart_none (wpAny_bind (slicePart_int (wpAny_bind (wpAny_pure ?_)))))
  exact wpAny_pure h
theorem getItem_tup3 {t sl : Addr} {v0 v1 v2 v3 : Value} {u : Tok} {Q : Value → Shared → Prop} (ht : IsTup s.heap t #[v0, v1, v2, v3]) (hs : s.heap.IsSliceOf sl .none (.int 3 u) .none)
    (h : Q (.ref s.heap.objs.size) { s with heap := s.heap.push { cls := .type "tuple", data := .seq #[v0, v1, v2] } }) : wpAny (model prog w) A (getItem (.ref t) (.ref sl)) Q E s := by
  have hz : sizeOk (.seq #[v0, v1, v2]) := by show 3 ≤ sizeLine; rw [sizeLine_eq]; omega
  obtain ⟨os, hos, hcs, hds⟩ := id hs
  have hTs : s.TypeIs (.ref sl) "slice" := ⟨os, hos, hcs⟩
  unfold getItem
  try with_reducible refine wpAny_holding ?_
  first | refine wpAny_bind (wpAny_pure ?_) | skip
  refine wpAny_bind (wpAny_sequenceKey ht.typeIs (by decide) ?_)
  refine wpAny_bind (wpAny_callSpecial?_slot (name := Str.ofString "__getitem__") ht.typeIs slot_tuple_getitem
    (wpAny_call_entry slot_tuple_getitem ht.typeIs entry_tuple_getitem ?_ (args_tuple_getitem _ _)))
  show wpAny _ _ (Builtin.Tuple.tupleItemsOf (.ref t) >>= _) _ _ s
  refine wpAny_bind (tupleItemsOf_ ht ?_)
  refine wpAny_bind (wpAny_typeOf hTs ?_)
  rw [if_pos (by decide)]
  refine wpAny_bind (sliceApplied_3 hs ?_)
  show wpAny _ _ (if ((0 : Int) == 0 && (1 : Int) == 1 && (3 : Nat) == 4) = true then _ else _) _ _ s
  rw [if_neg (by decide)]
  show wpAny _ _ (Builtin.Tuple.tupleExact #[v0, v1, v2] >>= _) _ _ s
  first
    | exact wpAny_bind (m := Builtin.Tuple.tupleExact _) (wpAny_newObj_type (wpAny_pure ⟨_, rfl, wpAny_pure h⟩) hz)
    | exact wpAny_bind (m := Builtin.Tuple.tupleExact _) (wpAny_newObj_type (wpAny_bind (wpAny_pure (wpAny_pure ⟨_, rfl, wpAny_pure h⟩))) hz)
theorem slice_tup3 {value slice : PySem.Expr} {t : Addr} {v0 v1 v2 v3 : Value} {u : Tok} {Q : Value → Shared → Prop}
    (F : Fr h₀ L s.heap m) (N : News h₀ L s.heap news) (ht : IsTup s.heap t #[v0, v1, v2, v3])
    (h : ∀ D h', Fr h₀ L h' m → News h₀ L h' ((D, { cls := .type "tuple", data := .seq #[v0, v1, v2] }) :: news) → (∀ b ∈ news, b.1 < D) → Q (.ref D) { s with heap := h' })
    (hs : subscripted slice false (.ref t) (.ref s.heap.objs.size) = operate [.ref s.heap.objs.size, .ref t] (getItem (.ref t) (.ref s.heap.objs.size)) := by with_unfolding_all rfl)
    (hg : ∀ r, letTemporaryGo value (.ref t) r = pure () := by intro _; with_unfolding_all rfl) :
    wpAny (model prog w) A (subscriptTail value slice (.ref t) (.ref s.heap.objs.size)) Q E { s with heap := s.heap.push { cls := .type "slice", data := .fields #[.none, .int 3 u, .none] } } := by
  have ht' : IsTup (s.heap.push { cls := .type "slice", data := .fields #[.none, .int 3 u, .none] }) t #[v0, v1, v2, v3] := ht.push _
  refine subscriptTail_ops (s := { s with heap := s.heap.push { cls := .type "slice", data := .fields #[.none, .int 3 u, .none] } }) ht'.typeIs slot_tuple_getitem.lookup
    (getItem_tup3 ht' (Heap.IsSliceOf.new ..) ?_) hs hg
  have N1 := News.push (F.push { cls := .type "slice", data := .fields #[.none, .int 3 u, .none] }) (N.grown fun _ _ e => Heap.get?_push_of_some _ e) { cls := .type "tuple", data := .seq #[v0, v1, v2] }
  exact h _ _ ((F.push _).push _) N1 (fun b hb => by
    have := Heap.lt_size (N b hb).1
    rw [Heap.size_push]
    exact Nat.lt_succ_of_lt this)
theorem ints_inv {n : Int} {ns : List Int} {vs : List Value} (h : IntsAre vs (n :: ns)) : ∃ t us, vs = .int n t :: us ∧ IntsAre us ns := by
  cases h with
  | cons _ t r => exact ⟨t, _, rfl, r⟩
theorem ints_inv0 {vs : List Value} (h : IntsAre vs []) : vs = [] := by cases h; rfl
theorem three {ps : List Int} (h : ps.length = 3) : ∃ a b c, ps = [a, b, c] := by
  match ps, h with
  | [a, b, c], _ => exact ⟨a, b, c, rfl⟩
theorem slice_col {value slice : PySem.Expr} {t : Addr} {ob : Obj} {ps : List Int} {al : Int} {u : Tok} {Q : Value → Shared → Prop}
    (F : Fr h₀ L s.heap m) (N : News h₀ L s.heap news) (hm : (t, ob) ∈ news) (ht : TupI ob (ps ++ [al])) (h3 : ps.length = 3)
    (h : ∀ D ob' h', TupI ob' ps → Fr h₀ L h' m → News h₀ L h' ((D, ob') :: news) → (∀ b ∈ news, b.1 < D) → Q (.ref D) { s with heap := h' })
    (hs : subscripted slice false (.ref t) (.ref s.heap.objs.size) = operate [.ref s.heap.objs.size, .ref t] (getItem (.ref t) (.ref s.heap.objs.size)))
    (hg : ∀ r, letTemporaryGo value (.ref t) r = pure ()) :
    wpAny (model prog w) A (subscriptTail value slice (.ref t) (.ref s.heap.objs.size)) Q E { s with heap := s.heap.push { cls := .type "slice", data := .fields #[.none, .int 3 u, .none] } } := by
  obtain ⟨p0, p1, p2, rfl⟩ := three h3
  obtain ⟨vs, rfl, hI⟩ := ht
  obtain ⟨t0, u0, rfl, hI0⟩ := ints_inv hI
  obtain ⟨t1, u1, rfl, hI1⟩ := ints_inv hI0
  obtain ⟨t2, u2, rfl, hI2⟩ := ints_inv hI1
  obtain ⟨t3, u3, rfl, hI3⟩ := ints_inv hI2
  obtain rfl := ints_inv0 hI3
  exact slice_tup3 F N ⟨_, (N _ hm).1, rfl, _, rfl⟩ (fun D h' F' N' hlt => h D _ h' ⟨_, rfl, .cons _ _ (.cons _ _ (.cons _ _ .nil))⟩ F' N' hlt) hs hg
end
def sh (n a : Int) : Int := Int.fdiv (2 * n * 255 + a) (2 * a)
def Dim (_ : Int) : Prop := True
open LCg
section
variable {prog : Program} {w : World} {A : Around} {E : Value → Shared → Prop} {s : Shared} {h₀ : Heap} {L : Addr} {m : Str → Option Value} {env : Env}
theorem src_wtM {al : Int} {t : Addr} {ob : Obj} {as : List Int} {x : Str} {px : Pos} {elt : PySem.Expr} {scope : Scope} {cl : List (Str × Addr)} {news : Led} {Q : Value → Shared → Prop} (_ : Dim al)
    (hh : A.handled = none) (F : Fr h₀ L s.heap m) (N : News h₀ L s.heap news) (hm : (t, ob) ∈ news) (ht : TupI ob as) (hkind : scope.kind = .function) (hx : scope.names.lookup x = some .local) (hsz : as.length ≤ 256)
    (turn : ∀ b0 a u ys own C oC D m₂ h tk (E' : Value → Shared → Prop), a ∈ as → m₂ x = some (.int a u) → NsObj oC m₂ → Fr h₀ L h m → News h₀ L h ((C, oC) :: (D, lst ys) :: (news ++ own)) → AllLt b0 news → Over b0 own → (∀ b ∈ own, @LT.lt Nat _ b.1 D) → @LE.le Nat _ b0 D → @LT.lt Nat _ D C →
      wpAny (model prog w) A (eval elt (compEnvC scope cl C env)) (TEnd h₀ L m { s with heap := h, toks := tk } own b0 C oC D (lst ys) [(t, ob)] (fun y news' => Int1 ((fun n => wt n al) a) news y news')) E' { s with heap := h, toks := tk })
    (fin : ∀ D h tk ys, Fr h₀ L h m → News h₀ L h ((D, lst ys) :: news) → AllLt D news → IntsAre ys (as.map (fun n => wt n al)) → Q (.ref D) { s with heap := h, toks := tk }) :
    wpAny (model prog w) A (pyIter (.ref t)) (CSrc prog w A h₀ L m env (.Name x px) [] elt scope cl Q) E s := src_tupM (fun n => wt n al) hh F N hm ht hkind hx hsz turn fin
theorem src_shM {al : Int} {t : Addr} {ob : Obj} {as : List Int} {x : Str} {px : Pos} {elt : PySem.Expr} {scope : Scope} {cl : List (Str × Addr)} {news : Led} {Q : Value → Shared → Prop} (_ : Dim al)
    (hh : A.handled = none) (F : Fr h₀ L s.heap m) (N : News h₀ L s.heap news) (hm : (t, ob) ∈ news) (ht : TupI ob as) (hkind : scope.kind = .function) (hx : scope.names.lookup x = some .local) (hsz : as.length ≤ 256)
    (turn : ∀ b0 a u ys own C oC D m₂ h tk (E' : Value → Shared → Prop), a ∈ as → m₂ x = some (.int a u) → NsObj oC m₂ → Fr h₀ L h m → News h₀ L h ((C, oC) :: (D, lst ys) :: (news ++ own)) → AllLt b0 news → Over b0 own → (∀ b ∈ own, @LT.lt Nat _ b.1 D) → @LE.le Nat _ b0 D → @LT.lt Nat _ D C →
      wpAny (model prog w) A (eval elt (compEnvC scope cl C env)) (TEnd h₀ L m { s with heap := h, toks := tk } own b0 C oC D (lst ys) [(t, ob)] (fun y news' => Int1 ((fun n => sh n al) a) news y news')) E' { s with heap := h, toks := tk })
    (fin : ∀ D h tk ys, Fr h₀ L h m → News h₀ L h ((D, lst ys) :: news) → AllLt D news → IntsAre ys (as.map (fun n => sh n al)) → Q (.ref D) { s with heap := h, toks := tk }) :
    wpAny (model prog w) A (pyIter (.ref t)) (CSrc prog w A h₀ L m env (.Name x px) [] elt scope cl Q) E s := src_tupM (fun n => sh n al) hh F N hm ht hkind hx hsz turn fin
end
theorem sh_zero {ps : List Int} {al : Int} (ha : al = 0) : ps.map (fun n => sh n al) = List.replicate ps.length 0 := by
  subst ha
  induction ps with
  | nil => rfl
  | cons a r ih => rw [List.map_cons, ih]; simp [sh, List.replicate_succ]
theorem tup_zero {o : Obj} {ps : List Int} {al : Int} (h3 : ps.length = 3) (ha : al = 0) (h : TupI o [0, 0, 0]) : TupI o (ps.map (fun n => sh n al)) := by
  rw [sh_zero ha, h3]; exact h
end Mine
theorem Mine.words_07a : True := by
  k_with "subscriptTail Name Slice ref ref" => (
    k_here
    (with_reducible show wpAny _ _ (subscriptTail _ (PySem.Expr.Slice _ _ none _) (Value.ref _) (Value.ref _)) _ _ _)
    k_dflt (
      refine' Mine.slice_col (by k_asm) (by k_asm) (by k_mem) (by with_reducible assumption) (by with_reducible assumption) ?_ (by with_unfolding_all rfl) (by intro _; with_unfolding_all rfl)
      intro q9 ob9 h9 hP9 F9 N9 l9
      (try k_lt l9)
      (try k_sweep)))
  k_with "pyIter ref" => (
    k_here
    (with_reducible show wpAny _ _ (pyIter (Value.ref _)) (Mine.CSrc _ _ _ _ _ _ _ (Expr.Name _ _) _ (Expr.BinOp _ _ _ _) _ _ _) _ _)
    k_dflt (
      refine' Mine.src_shM (by with_reducible assumption) (by exact rfl) (by k_asm) (by k_asm) (by k_mem) (by with_reducible assumption) (by rfl) (by rfl) (by k_extra "len") ?_ ?_
      rotate_left
      intro D' h' tk' ys' F' N' hlt' hI'
      (try simp only [AllLt, and_true] at hlt')
      (try dsimp only)
      rotate_left
      intro b0' a' u' ys' own' C' oC' D' m' h' tk' E' ha' hx' hC' F' N' hlt' hov' hoD' hb' hDC'
      (try simp only [AllLt, and_true] at hlt')
      (try simp only [List.cons_append, List.nil_append] at N')
      walk_say "A TUPLE's TURNS"))
  k_with "pyIter ref" => (
    k_here
    (with_reducible show wpAny _ _ (pyIter (Value.ref _)) (Mine.CSrc _ _ _ _ _ _ _ (Expr.Name _ _) _ (Expr.Call _ _ _ _) _ _ _) _ _)
    k_dflt (
      refine' Mine.src_wtM (by with_reducible assumption) (by exact rfl) (by k_asm) (by k_asm) (by k_mem) (by with_reducible assumption) (by rfl) (by rfl) (by k_extra "len") ?_ ?_
      rotate_left
      intro D' h' tk' ys' F' N' hlt' hI'
      (try simp only [AllLt, and_true] at hlt')
      (try dsimp only)
      rotate_left
      intro b0' a' u' ys' own' C' oC' D' m' h' tk' E' ha' hx' hC' F' N' hlt' hov' hoD' hb' hDC'
      (try simp only [AllLt, and_true] at hlt')
      (try simp only [List.cons_append, List.nil_append] at N')
      (with_reducible rename ∀ n ∈ _, 0 ≤ n ∧ n ≤ 255 => hall9)
      (have hb9 := hall9 _ ha')
      walk_say "A TUPLE's TURNS"))
  trivial
namespace Mine
section
variable {w : World} {p : Program} {loose : List Str} {mean : ExcName → Option Value} {mg mb : Str → Option Value}
theorem shade_ct (c : Addr) (ob : Obj) (ps : List Int) (al : Int) (news : Led) (hm : (c, ob) ∈ news) (hc : TupI ob (ps ++ [al])) (h3 : ps.length = 3) (ha : 0 ≤ al ∧ al ≤ 255) :
    CtP PySem.Challenge.rw_pf0183_01.row.prog w p loose mean mg mb 38 1 [.ref c] news (fun v tl => ∃ q o', v = .ref q ∧ tl = [(q, o')] ∧ TupI o' (ps.map fun n => sh n al)) := by
  have hD9 : Dim al := trivial
  w_top off
  unfold CtP Ct
  k_fill
  intro dp un gd cn cs af ccd cl outer A₀ base h₀ L m s Q E B F X N T hk hd hu hret
  refine wpAny_call ?_
  k_dflt (refine' code_defC ?k1 ?k2 ?k3 ?k4 ?k5 ?kA ?kF ?kK ?k6 ?k7 ?k8 ?k9 ?kB ?kD ?_ ?c2 ?c3 ?c4; (case kA => exact rfl); (case kF => exact rfl); (case kK => assumption); (case k1 => k_asm); (case k2 => k_asm); (case k3 => k_asm); (case k4 => k_asm); (case k5 => k_asm); (case k6 => k_is); (case k7 => k_is); (case k8 => ktr_room); (case k9 => exact BindsTo.of_eq rfl); (case kB => exact rfl); (case kD => decide +kernel); (case c2 => exact rfl); (case c3 => exact rfl); (case c4 => exact rfl); k_whole; intro g' L' h' tk' cells' FG' F' N' Y' B' X' T' l1; (have hU9 := Mine.under_p l1); (try k_lt l1); (first | (have hY := Mine.cells_nil Y'; subst hY; clear Y') | k_cells Y'); (try simp only [List.cons_append, List.nil_append] at N'); (try dsimp only); (try k_lift B'); (try k_fold))
  k_steps
  all_goals (
    refine' hret _ ((_, _) :: news) _ _ (by k_asm) (cb_drop (by k_asm) ?sub) ⟨[(_, _)], ⟨_, _, rfl, rfl, ?tri⟩, rfl, ?ord⟩
    case sub => exact List.forall_mem_cons.mpr ⟨by kcj_m, fun b hb => by repeat (first | exact hb | refine List.mem_cons_of_mem _ ?_)⟩
    case tri => first | assumption | exact tup_zero (by assumption) (by assumption) ⟨_, rfl, by k_extra "ints"⟩
    case ord => exact ordp_of hU9 (by omega))
theorem dimmed_ct (c : Addr) (ob : Obj) (ns : List Int) (a : Int) (ta : Tok) (news : Led) (hm : (c, ob) ∈ news) (hc : TupI ob ns) (hz : ns.length ≤ 256) (hb : ∀ n ∈ ns, 0 ≤ n ∧ n ≤ 255) :
    CtP PySem.Challenge.rw_pf0183_01.row.prog w p loose mean mg mb 33 2 [.ref c, .int a ta] news (fun v tl => ∃ q o', v = .ref q ∧ tl = [(q, o')] ∧ TupI o' (ns.map fun n => wt n a)) := by
  have hD9 : Dim a := trivial
  w_top off
  unfold CtP Ct
  k_fill
  intro dp un gd cn cs af ccd cl outer A₀ base h₀ L m s Q E B F X N T hk hd hu hret
  refine wpAny_call ?_
  k_dflt (refine' code_defC ?k1 ?k2 ?k3 ?k4 ?k5 ?kA ?kF ?kK ?k6 ?k7 ?k8 ?k9 ?kB ?kD ?_ ?c2 ?c3 ?c4; (case kA => exact rfl); (case kF => exact rfl); (case kK => assumption); (case k1 => k_asm); (case k2 => k_asm); (case k3 => k_asm); (case k4 => k_asm); (case k5 => k_asm); (case k6 => k_is); (case k7 => k_is); (case k8 => ktr_room); (case k9 => exact BindsTo.of_eq rfl); (case kB => exact rfl); (case kD => decide +kernel); (case c2 => exact rfl); (case c3 => exact rfl); (case c4 => exact rfl); k_whole; intro g' L' h' tk' cells' FG' F' N' Y' B' X' T' l1; (have hU9 := Mine.under_p l1); (try k_lt l1); (first | (have hY := Mine.cells_nil Y'; subst hY; clear Y') | k_cells Y'); (try simp only [List.cons_append, List.nil_append] at N'); (try dsimp only); (try k_lift B'); (try k_fold))
  k_steps
  all_goals (
    refine' hret _ ((_, _) :: news) _ _ (by k_asm) (cb_drop (by k_asm) ?sub) ⟨[(_, _)], ⟨_, _, rfl, rfl, by assumption⟩, rfl, ?ord⟩
    case sub => exact List.forall_mem_cons.mpr ⟨by kcj_m, fun b hb => by repeat (first | exact hb | refine List.mem_cons_of_mem _ ?_)⟩
    case ord => exact ordp_of hU9 (by omega))
theorem premult_ct (c : Addr) (ob : Obj) (ns : List Int) (a : Int) (ta : Tok) (news : Led) (hm : (c, ob) ∈ news) (hc : TupI ob ns) (h3 : ns.length = 3) (hb : ∀ n ∈ ns, 0 ≤ n ∧ n ≤ 255) :
    CtP PySem.Challenge.rw_pf0183_01.row.prog w p loose mean mg mb 28 2 [.ref c, .int a ta] news (fun v tl => ∃ q o', v = .ref q ∧ tl = [(q, o')] ∧ TupI o' ((ns.map fun n => wt n a) ++ [a])) := by
  obtain ⟨n0, n1, n2, rfl⟩ := three h3
  have h0 := hb n0 (by simp)
  have h1 := hb n1 (by simp)
  have h2 := hb n2 (by simp)
  clear hb
  unfold CtP
  w_top off
  unfold Ct
  k_fill
  intro dp un gd cn cs af ccd cl outer A₀ base h₀ L m s Q E B F X N T hk hd hu hret
  refine wpAny_call ?_
  k_dflt cell_enter
  k_steps
  all_goals (
    refine' hret _ ((_, _) :: news) _ _ (by k_asm) (cb_drop (by k_asm) ?sub) ⟨[(_, _)], ⟨_, _, rfl, rfl, ⟨_, rfl, IntsAre.cons _ _ (IntsAre.cons _ _ (IntsAre.cons _ _ (IntsAre.cons _ _ IntsAre.nil)))⟩⟩, rfl, ?ord⟩
    case sub => exact List.forall_mem_cons.mpr ⟨by kcj_m, fun b hb => by repeat (first | exact hb | refine List.mem_cons_of_mem _ ?_)⟩
    case ord => first | exact ordl_of (by assumption) | exact ordl_of (allLt_of (by assumption)))
end
theorem lt_le {ns : List Int} (h : ∀ n ∈ ns, 0 ≤ n ∧ n < 256) : ∀ n ∈ ns, 0 ≤ n ∧ n ≤ 255 := fun n hn => by
  have := h n hn
  omega
end Mine
theorem Mine.words_07b : True := by
  k_with "bounds" => (
    first | assumption | exact Mine.lt_le (by assumption) | exact Mine.col_all (by assumption) (by assumption))
  k_with "call ref" => (
    k_here
    (with_reducible show wpAny _ _ (call (Value.ref 38) _) _ _ _)
    k_dflt (
      refine' Mine.CtP.obj (by k_asm) (by k_asm) (by k_asm) (by k_asm) (by k_asm) (by first | exact rfl | assumption) (by first | exact Mine.room1 (by with_reducible assumption) (by decide) | ktr_room) (by first | exact Mine.units1 (by with_reducible assumption) (by decide) | ktr_units) (Mine.shade_ct _ _ _ _ _ (by k_mem) (by with_reducible assumption) (by k_extra "len") (by first | assumption | omega | (constructor <;> omega))) ?_
      intro q9 ob9 h9 tk9 hP9 F9 N9 l9
      (try k_lt l9)
      (try dsimp only)
      (try k_fold)
      (try k_sweep)))
  k_with "call ref" => (
    k_here
    (with_reducible show wpAny _ _ (call (Value.ref 33) _) _ _ _)
    k_dflt (
      refine' Mine.CtP.obj (by k_asm) (by k_asm) (by k_asm) (by k_asm) (by k_asm) (by first | exact rfl | assumption) (by first | exact Mine.room1 (by with_reducible assumption) (by decide) | ktr_room) (by first | exact Mine.units1 (by with_reducible assumption) (by decide) | ktr_units) (Mine.dimmed_ct _ _ _ _ _ _ (by k_mem) (by with_reducible assumption) (by k_extra "len") (by k_extra "bounds")) ?_
      intro q9 ob9 h9 tk9 hP9 F9 N9 l9
      (try k_lt l9)
      (try dsimp only)
      (try k_fold)
      (try k_sweep)))
  k_with "call ref" => (
    k_here
    (with_reducible show wpAny _ _ (call (Value.ref 28) _) _ _ _)
    k_dflt (
      refine' Mine.CtP.obj (by k_asm) (by k_asm) (by k_asm) (by k_asm) (by k_asm) (by first | exact rfl | assumption) (by first | exact Mine.room1 (by with_reducible assumption) (by decide) | ktr_room) (by first | exact Mine.units1 (by with_reducible assumption) (by decide) | ktr_units) (Mine.premult_ct _ _ _ _ _ _ (by k_mem) (by with_reducible assumption) (by k_extra "len") (by k_extra "bounds")) ?_
      intro q9 ob9 h9 tk9 hP9 F9 N9 l9
      (try k_lt l9)
      (try dsimp only)
      (try k_fold)
      (try k_sweep)))
  trivial
namespace Mine
structure Cm where
  src : Addr
  xs : Array Value
  lst : Bool
def CAt (h : Heap) (it : Addr) (c : Cm) (i : Nat) : Prop :=
  (c.lst = true ∧ h.IsListIter it c.src i ∧ h.IsList c.src c.xs) ∨ (c.lst = false ∧ h.IsTupleIter it c.src i ∧ h.IsTuple c.src c.xs)
theorem CAt.mono {h h' : Heap} {it : Addr} {c : Cm} {i : Nat} (x : CAt h it c i) (k : ∀ o, h.get? it = some o → h'.get? it = some o) (k2 : ∀ o, h.get? c.src = some o → h'.get? c.src = some o) : CAt h' it c i := by
  rcases x with ⟨e, a, b⟩ | ⟨e, a, b⟩
  · exact .inl ⟨e, a.at k, b.at k2⟩
  · exact .inr ⟨e, a.at k, b.at k2⟩
theorem CAt.there {h : Heap} {it : Addr} {c : Cm} {i : Nat} (x : CAt h it c i) : ∃ o, h.get? it = some o := by
  rcases x with ⟨_, ⟨o, e, _⟩, _⟩ | ⟨_, ⟨o, e, _⟩, _⟩ <;> exact ⟨o, e⟩

section
variable {prog : Program} {w : World} {A : Around} {E : Value → Shared → Prop} {s : Shared}
theorem nextOf_tuple_item {it t : Addr} {i : Nat} {items : Array Value} {x : Value} {Q : Value → Shared → Prop} (hit : s.heap.IsTupleIter it t i)
    (ht : s.heap.IsTuple t items) (hx : items[i]? = some x)
    (hQ : ∀ h', h'.IsTupleIter it t (i + 1) → Heap.SameBut it s.heap h' → Q x { s with heap := h' }) :
    wpAny (model prog w) A (Builtin.SmallTypes.nextOf (.ref it)) Q E s := by
  obtain ⟨o, ho, hc, hd⟩ := id hit
  obtain ⟨ol, hol, _, nl, hdl⟩ := ht
  have hT : s.TypeIs (.ref it) "tuple_iterator" := ⟨o, ho, hc⟩
  unfold Builtin.SmallTypes.nextOf
  refine wpAny_bind (wpAny_callSpecial?_slot (name := Str.ofString "__next__") hT slot_tupleiter_next
    (wpAny_call_entry slot_tupleiter_next hT entry_tupleiter_next ?_ (args_tupleiter_next _)))
  show wpAny _ _ (field (.ref it) 0 >>= _) _ _ s
  refine wpAny_bind (wpAny_field ho hd (x := .ref t) rfl ?_)
  show wpAny _ _ (if (Value.ref t == Value.none) = true then _ else _) _ _ s
  rw [if_neg (show ¬ ((Value.ref t == Value.none) = true) from Bool.false_ne_true)]
  show wpAny _ _ (field (.ref it) 1 >>= _) _ _ s
  refine wpAny_bind (wpAny_field ho hd (x := .int i 0) rfl ?_)
  show wpAny _ _ (seqItems? (.ref t) >>= _) _ _ s
  refine wpAny_bind (wpAny_seqItems hol hdl ?_)
  simp only [Int.toNat_natCast, hx]
  refine wpAny_bind (wpAny_setField ho hd (by simp) (wpAny_pure ⟨x, rfl, wpAny_pure (hQ _ ?_ (Heap.SameBut.update ..))⟩))
  exact ⟨_, Heap.get?_update_self _ ho (Obj.isFreed_of_fields (Obj.data_mapFields hd _)), (Obj.cls_mapFields ..).trans hc, by
    rw [Obj.data_mapFields hd]; simp [rawInt]⟩
theorem nextOf_tuple_end {it t : Addr} {i : Nat} {items : Array Value} {Q : Value → Shared → Prop} (hh : A.handled = none)
    (hit : s.heap.IsTupleIter it t i) (ht : s.heap.IsTuple t items) (hx : items[i]? = none)
    (hE : ∀ h' e, Heap.ExtBut it s.heap h' → (∃ o, h'.get? e = some o ∧ o.cls = .type "StopIteration") → E (.ref e) { s with heap := h' }) :
    wpAny (model prog w) A (Builtin.SmallTypes.nextOf (.ref it)) Q E s := by
  obtain ⟨o, ho, hc, hd⟩ := id hit
  obtain ⟨ol, hol, _, nl, hdl⟩ := ht
  have hT : s.TypeIs (.ref it) "tuple_iterator" := ⟨o, ho, hc⟩
  unfold Builtin.SmallTypes.nextOf
  refine wpAny_bind (wpAny_callSpecial?_slot (name := Str.ofString "__next__") hT slot_tupleiter_next
    (wpAny_call_entry slot_tupleiter_next hT entry_tupleiter_next ?_ (args_tupleiter_next _)))
  show wpAny _ _ (field (.ref it) 0 >>= _) _ _ s
  refine wpAny_bind (wpAny_field ho hd (x := .ref t) rfl ?_)
  show wpAny _ _ (if (Value.ref t == Value.none) = true then _ else _) _ _ s
  rw [if_neg (show ¬ ((Value.ref t == Value.none) = true) from Bool.false_ne_true)]
  show wpAny _ _ (field (.ref it) 1 >>= _) _ _ s
  refine wpAny_bind (wpAny_field ho hd (x := .int i 0) rfl ?_)
  show wpAny _ _ (seqItems? (.ref t) >>= _) _ _ s
  refine wpAny_bind (wpAny_seqItems hol hdl ?_)
  simp only [Int.toNat_natCast, hx]
  refine wpAny_bind (wpAny_rule (wpAny_bind (wpAny_setField ho hd (by simp) ?_)))
  show wpAny _ _ (newExc (.type "StopIteration") [] >>= _) _ _ _
  refine wpAny_bind ?_
  simp only [newExc, newTuple]
  refine wpAny_bind (wpAny_newObj_type ?_ (by size_fits))
  refine wpAny_bind (m := firstArgMember _ _) (wpAny_of_eq (a := Value.none) (by first | rfl | (simp only [firstArgMember]; rfl)) ?_)
  refine wpAny_newObj_type ?_ (by size_fits)
  simp only [raiseNew]
  refine wpAny_bind (wpAny_handled ?_)
  first | rw [show A.in1.handled = none from hh] | rw [hh]
  refine wpAny_bind (wpAny_pure (wpAny_throw ?_))
  exact hE _ _ (((Heap.SameBut.update ..).extBut.push _).push _) ⟨_, Heap.get?_push_size _ rfl, rfl⟩

theorem cm_item {it : Addr} {c : Cm} {i : Nat} {x : Value} {Q : Value → Shared → Prop} (hc : CAt s.heap it c i) (hne : c.src ≠ it) (hx : c.xs[i]? = some x)
    (hQ : ∀ h', CAt h' it c (i + 1) → Heap.SameBut it s.heap h' → Q x { s with heap := h' }) : wpAny (model prog w) A (Builtin.SmallTypes.nextOf (.ref it)) Q E s := by
  rcases hc with ⟨e, hit, hl⟩ | ⟨e, hit, hl⟩
  · exact wpAny_nextOf_list_item hit hl hx fun h' hit' hs => hQ h' (.inl ⟨e, hit', hl.extBut hs.extBut hne⟩) hs
  · exact nextOf_tuple_item hit hl hx fun h' hit' hs => hQ h' (.inr ⟨e, hit', hl.extBut hs.extBut hne⟩) hs
theorem cm_end {it : Addr} {c : Cm} {i : Nat} {Q : Value → Shared → Prop} (hh : A.handled = none) (hc : CAt s.heap it c i) (hx : c.xs[i]? = none)
    (hE : ∀ h' e, Heap.ExtBut it s.heap h' → (∃ o, h'.get? e = some o ∧ o.cls = .type "StopIteration") → E (.ref e) { s with heap := h' }) : wpAny (model prog w) A (Builtin.SmallTypes.nextOf (.ref it)) Q E s := by
  rcases hc with ⟨e, hit, hl⟩ | ⟨e, hit, hl⟩
  · exact wpAny_nextOf_list_end hh hit hl hx hE
  · exact nextOf_tuple_end hh hit hl hx hE
end

theorem zA {b0 k j z : Nat} (p : z = b0 + k + 2) (hj : j < k) : @Ne Nat (Nat.add b0 j) z := by show b0 + j ≠ z; omega
theorem zB {b0 k j z : Nat} (p : z = b0 + k) (hj : j < k) : @Ne Nat (Nat.add b0 j) z := by show b0 + j ≠ z; omega
theorem zC {b0 k j z : Nat} (p : z = b0 + k + 1) (hj : j < k) : @Ne Nat (Nat.add b0 j) z := by show b0 + j ≠ z; omega
theorem zS {c b0 k z : Nat} (p : z = b0 + k + 2) (h : c < b0) : @Ne Nat c z := by omega
theorem zT {c b0 k z : Nat} (p : z = b0 + k + 1) (h : c < b0) : @Ne Nat c z := by omega
theorem zJ {c b0 j : Nat} (h : c < b0) : @Ne Nat c (Nat.add b0 j) := by show c ≠ b0 + j; omega
theorem zJJ {b0 i j : Nat} (h : ¬ i = j) : @Ne Nat (Nat.add b0 i) (Nat.add b0 j) := by show b0 + i ≠ b0 + j; omega
def tupL (vs : List Value) : Obj := { cls := .type "tuple", data := .seq vs.toArray }
def refsOf (b0 k : Nat) : List Value := (List.range k).map fun j => Value.ref (b0 + j)
structure ZPos (b0 k TI TO z : Nat) : Prop where
  i : TI = b0 + k
  o : TO = b0 + k + 1
  z : z = b0 + k + 2
def ZAt (h : Heap) (b0 TI TO z : Nat) (cs : List Cm) (f0 : Value) (pl : Nat → Nat) : Prop :=
  IsZip h z TI TO f0 ∧ h.get? TI = some (tupL (refsOf b0 cs.length)) ∧
  (∃ vals : List Value, vals.length = cs.length ∧ h.get? TO = some (tupL vals)) ∧ ∀ j c, cs[j]? = some c → CAt h (Nat.add b0 j) c (pl j)
def ZKeep (b0 k : Nat) (h h' : Heap) : Prop := ∀ c o, ¬ (@LE.le Nat _ b0 c ∧ @LE.le Nat _ c (b0 + k + 2)) → h.get? c = some o → h'.get? c = some o
theorem refsOf_length (b0 k : Nat) : (refsOf b0 k).length = k := by simp [refsOf]
theorem refs_drop {b0 k j : Nat} {x : Value × Nat} {rest : List (Value × Nat)} (h : x :: rest = (refsOf b0 k).toArray.toList.zipIdx.drop j) : j < k ∧ x = (.ref (Nat.add b0 j), j) ∧ rest = (refsOf b0 k).toArray.toList.zipIdx.drop (j + 1) := by
  have hl : ((refsOf b0 k).toArray.toList.zipIdx).length = k := by simp [refsOf_length]
  have hj : j < k := by
    rcases Nat.lt_or_ge j k with q | q
    · exact q
    · rw [List.drop_eq_nil_of_le (by rw [hl]; exact q)] at h
      cases h
  rw [List.drop_eq_getElem_cons (by rw [hl]; exact hj)] at h
  injection h with h1 h2
  refine ⟨hj, ?_, h2⟩
  rw [h1]
  simp [refsOf]
theorem cs_get {cs : List Cm} {j : Nat} (h : j < cs.length) : ∃ c, cs[j]? = some c ∧ c ∈ cs := ⟨cs[j], List.getElem?_eq_getElem h, List.getElem_mem h⟩
section
variable {prog : Program} {w : World} {A : Around} {E : Value → Shared → Prop} {s : Shared}
theorem zip_item {b0 TI TO z i : Nat} {cs : List Cm} {Q : Value → Shared → Prop} (P : ZPos b0 cs.length TI TO z) (h0 : 0 < cs.length) (hk : cs.length ≤ 8) (hall : ∀ c ∈ cs, i < c.xs.size) (hsrc : ∀ c ∈ cs, @LT.lt Nat _ c.src b0) (Z : ZAt s.heap b0 TI TO z cs .none (fun _ => i))
    (hQ : ∀ (h' : Heap) (T : Nat), ZAt h' b0 TI TO z cs (rawInt T) (fun _ => i + 1) → h'.get? T = some (tupL (cs.map fun c => c.xs.getD i .none)) → z < T → ZKeep b0 cs.length s.heap h' → Q (.ref T) { s with heap := h' }) :
    wpAny (model prog w) A (Builtin.«zip.__next__» ⟨[.ref z], []⟩) (fun fin s' => ∃ v, fin = .done (.ret v) ∧ Q v s') E s := by
  obtain ⟨pI, pO, pZ⟩ := P
  obtain ⟨hz, hTI, ⟨vals, hvl, hTO⟩, hcs⟩ := Z
  have nIz : @Ne Nat TI z := by omega
  have nOz : @Ne Nat TO z := by omega
  have nIO : @Ne Nat TI TO := by omega
  show wpAny _ _ (field (.ref z) 2 >>= _) _ _ _
  refine wpAny_bind (wpAny_field hz rfl (x := .bool false) rfl ?_)
  show wpAny _ _ (field (.ref z) 3 >>= _) _ _ _
  refine wpAny_bind (wpAny_field hz rfl (x := .ref TI) rfl ?_)
  refine wpAny_bind (wpAny_seqItems hTI rfl ?_)
  have hne : ¬ ((refsOf b0 cs.length).toArray.isEmpty = true) := by
    simp [refsOf, Array.isEmpty, List.size_toArray]
    intro q; rw [q] at h0; exact Nat.lt_irrefl _ h0
  show wpAny _ _ (if (refsOf b0 cs.length).toArray.isEmpty = true then _ else Builtin.SmallTypes.ownedTupleIsFree (.ref z) >>= _) _ _ _
  rw [if_neg hne]
  refine wpAny_bind ?_
  unfold Builtin.SmallTypes.ownedTupleIsFree
  refine wpAny_bind (wpAny_field hz rfl (x := .none) rfl (wpAny_pure ?_))
  simp only [if_true]
  refine wpAny_bind (wpAny_rule ?_)
  refine wpAny_bind (wpAny_field hz rfl (x := .ref TO) rfl ?_)
  refine wpAny_bind (wpAny_setField_rec hz (by simp) fun h₁ hz₁ hs₁ => ?_)
  replace hz₁ : IsZip h₁ z TI TO .ellipsis := hz₁
  refine wpAny_bind (wpAny_forIn_list _ (fun rest b s' => b = (none, ()) ∧ ∃ j h', j ≤ cs.length ∧ rest = (refsOf b0 cs.length).toArray.toList.zipIdx.drop j ∧ s' = { s with heap := h' } ∧ IsZip h' z TI TO .ellipsis ∧
    h'.get? TI = some (tupL (refsOf b0 cs.length)) ∧ (∃ vs, vs.length = cs.length ∧ vs.take j = (cs.map fun c => c.xs.getD i .none).take j ∧ h'.get? TO = some (tupL vs)) ∧
    (∀ j' c, cs[j']? = some c → CAt h' (Nat.add b0 j') c (if j' < j then i + 1 else i)) ∧ ZKeep b0 cs.length s.heap h') _ ?turn ?fin _ _ ?start)
  case start =>
    refine ⟨rfl, 0, h₁, Nat.zero_le _, rfl, rfl, hz₁, hs₁.extBut _ _ nIz hTI, ⟨vals, hvl, rfl, hs₁.extBut _ _ nOz hTO⟩, fun j c hc => ?_, fun c o hc e => hs₁.extBut _ _ (fun q => hc (by subst q; omega)) e⟩
    have hj : j < cs.length := (List.getElem?_eq_some_iff.mp hc).1
    have hb : @Ne Nat (Nat.add b0 j) z := zA pZ hj
    have hs' : @Ne Nat c.src z := zS pZ (hsrc c (List.mem_of_getElem? hc))
    rw [if_neg (Nat.not_lt_zero _)]
    exact (hcs j c hc).mono (fun o e => hs₁.extBut _ _ hb e) fun o e => hs₁.extBut _ _ hs' e
  case fin =>
    rintro b s' ⟨rfl, j, h', hj, hd, rfl, hz', hTI', ⟨vs, hvs, htk, hTO'⟩, hcs', hkp⟩
    have hjk : j = cs.length := by
      rcases Nat.lt_or_ge j cs.length with q | q
      · have : ((refsOf b0 cs.length).toArray.toList.zipIdx.drop j).length = 0 := by rw [← hd]; rfl
        rw [List.length_drop] at this
        simp [refsOf_length] at this
        omega
      · omega
    subst hjk
    have hve : vs = cs.map fun c => c.xs.getD i .none := by
      rw [← hvs] at htk
      rw [List.take_length] at htk
      rw [htk, List.take_of_length_le (by rw [List.length_map]; omega)]
    subst hve
    show wpAny _ _ (seqItems? (.ref TO) >>= _) _ _ _
    refine wpAny_bind (wpAny_seqItems hTO' rfl ?_)
    refine wpAny_bind (wpAny_newTuple ?_ (by rw [sizeLine_eq]; simp; omega))
    have hzlt : z < h'.objs.size := Heap.lt_size hz'
    show wpAny _ _ (Builtin.SmallTypes.ownedTupleHandOut (.ref z) (.ref h'.objs.size) >>= _) _ _ _
    refine wpAny_bind ?_
    unfold Builtin.SmallTypes.ownedTupleHandOut
    have hz₆ : IsZip (h'.push (tupL (cs.map fun c => c.xs.getD i .none))) z TI TO .ellipsis := Heap.get?_push_of_some _ hz'
    refine wpAny_bind (wpAny_setField_rec hz₆ (by simp) fun h₇ hz₇ hs₇ => ?_)
    replace hz₇ : IsZip h₇ z TI TO (rawInt h'.objs.size) := hz₇
    refine wpAny_setField_rec hz₇ (by simp) fun h₈ hz₈ hs₈ => ?_
    replace hz₈ : IsZip h₈ z TI TO (rawInt h'.objs.size) := hz₈
    have up : ∀ c o, c ≠ z → h'.get? c = some o → h₈.get? c = some o := fun c o c1 e => hs₈.extBut _ _ c1 (hs₇.extBut _ _ c1 (Heap.get?_push_of_some _ e))
    have hT₈ : h₈.get? h'.objs.size = some (tupL (cs.map fun c => c.xs.getD i .none)) := hs₈.extBut _ _ (Nat.ne_of_gt hzlt) (hs₇.extBut _ _ (Nat.ne_of_gt hzlt) (Heap.get?_push_size _ rfl))
    refine wpAny_pure ⟨_, rfl, ?_⟩
    refine hQ h₈ h'.objs.size ⟨hz₈, up _ _ nIz hTI', ⟨_, hvs, up _ _ nOz hTO'⟩, fun j c hc => ?_⟩ hT₈ hzlt fun c o hc e => up c o (fun q => hc (by subst q; omega)) (hkp c o hc e)
    have hj : j < cs.length := (List.getElem?_eq_some_iff.mp hc).1
    have hb : @Ne Nat (Nat.add b0 j) z := zA pZ hj
    have hs' : @Ne Nat c.src z := zS pZ (hsrc c (List.mem_of_getElem? hc))
    have := hcs' j c hc
    rw [if_pos hj] at this
    exact this.mono (fun o e => up _ o hb e) fun o e => up _ o hs' e
  case turn =>
    rintro x rest b s' ⟨rfl, j, h', hj, hd, rfl, hz', hTI', ⟨vs, hvs, htk, hTO'⟩, hcs', hkp⟩
    obtain ⟨hjk, rfl, hrest⟩ := refs_drop hd
    obtain ⟨c, hc, hcm⟩ := cs_get hjk
    have hcat := hcs' j c hc
    rw [if_neg (Nat.lt_irrefl _)] at hcat
    have hsc := hsrc c hcm
    have hix := hall c hcm
    have hne' : @Ne Nat c.src (Nat.add b0 j) := zJ hsc
    have nbz : @Ne Nat z (Nat.add b0 j) := (zA pZ hjk).symm
    have nbI : @Ne Nat TI (Nat.add b0 j) := (zB pI hjk).symm
    have nbO : @Ne Nat TO (Nat.add b0 j) := (zC pO hjk).symm
    refine wpAny_bind (wpAny_onRaise ?_)
    show wpAny _ _ (Builtin.SmallTypes.nextOf (.ref (Nat.add b0 j)) >>= _) _ _ _
    refine wpAny_bind (cm_item hcat hne' (x := c.xs.getD i .none) (by simp [Array.getD, hix]) fun h₂ hc₂ hs₂ => wpAny_pure ?_)
    have hTO₂ := hs₂.extBut _ _ nbO hTO'
    refine wpAny_bind (wpAny_seqItems hTO₂ rfl ?_)
    refine wpAny_bind (wpAny_updateSeq hTO₂ rfl ?_ (by rw [sizeLine_eq]; simp; omega) (by rw [sizeLine_eq]; simp; omega))
    refine wpAny_bind (wpAny_letGo (wpAny_pure ?_))
    have hs₃ : Heap.SameBut TO h₂ (h₂.update TO (Obj.mapSeq (fun x => x.setIfInBounds j (c.xs.getD i .none)))) := Heap.SameBut.update ..
    have hTO₃ : (h₂.update TO (Obj.mapSeq (fun x => x.setIfInBounds j (c.xs.getD i .none)))).get? TO = some (tupL (vs.set j (c.xs.getD i .none))) := by
      rw [Heap.get?_update_self _ hTO₂ (by simp [tupL, Obj.mapSeq, Obj.isFreed])]
      simp [tupL, Obj.mapSeq]
    refine ⟨rfl, j + 1, _, hjk, hrest, rfl, hs₃.extBut _ _ (Ne.symm nOz) (hs₂.extBut _ _ nbz hz'), hs₃.extBut _ _ nIO (hs₂.extBut _ _ nbI hTI'), ⟨_, ?_, ?_, hTO₃⟩, fun j' c' hc' => ?_, fun a o ha e => ?_⟩
    · rw [List.length_set]; exact hvs
    · apply List.ext_getElem?
      intro n
      rw [List.getElem?_take, List.getElem?_take]
      by_cases hn : n < j + 1
      · rw [if_pos hn, if_pos hn]
        by_cases hnj : n = j
        · subst hnj
          rw [List.getElem?_set_self (by omega), List.getElem?_map, hc]; rfl
        · rw [List.getElem?_set_ne (fun q => hnj q.symm)]
          have h1 := congrArg (fun l => l[n]?) htk
          simp only [List.getElem?_take, if_pos (show n < j by omega)] at h1
          exact h1
      · rw [if_neg hn, if_neg hn]
    · have hj' : j' < cs.length := (List.getElem?_eq_some_iff.mp hc').1
      have hsc' := hsrc c' (List.mem_of_getElem? hc')
      have n1 : @Ne Nat (Nat.add b0 j') TO := zC pO hj'
      have n2 : @Ne Nat c'.src TO := zT pO hsc'
      by_cases hjj : j' = j
      · subst hjj
        rw [hc] at hc'
        cases hc'
        rw [if_pos (Nat.lt_succ_self _)]
        exact hc₂.mono (fun o e => hs₃.extBut _ _ n1 e) fun o e => hs₃.extBut _ _ n2 e
      · have n3 : @Ne Nat (Nat.add b0 j') (Nat.add b0 j) := zJJ (by omega)
        have n4 : @Ne Nat c'.src (Nat.add b0 j) := zJ hsc'
        have := hcs' j' c' hc'
        rw [show (if j' < j + 1 then i + 1 else i) = (if j' < j then i + 1 else i) by split <;> split <;> omega]
        exact this.mono (fun o e => hs₃.extBut _ _ n1 (hs₂.extBut _ _ n3 e)) fun o e => hs₃.extBut _ _ n2 (hs₂.extBut _ _ n4 e)
    · have n5 : @Ne Nat a TO := fun q => ha (by subst q; omega)
      have n6 : @Ne Nat a (Nat.add b0 j) := fun q => ha (by subst q; exact ⟨by show b0 ≤ b0 + j; omega, by show b0 + j ≤ _; omega⟩)
      exact hs₃.extBut _ _ n5 (hs₂.extBut _ _ n6 (hkp a o ha e))

theorem zip_end {b0 TI TO z i : Nat} {cs : List Cm} {Q : PySem.Fin → Shared → Prop} (hh : A.handled = none) (P : ZPos b0 cs.length TI TO z) (h0 : 0 < cs.length) (hk : cs.length ≤ 8) (hend : ∃ c ∈ cs, c.xs.size ≤ i) (hsrc : ∀ c ∈ cs, @LT.lt Nat _ c.src b0) (Z : ZAt s.heap b0 TI TO z cs .none (fun _ => i))
    (hE : ∀ h' e, ZKeep b0 cs.length s.heap h' → (∃ o, h'.get? e = some o ∧ o.cls = .type "StopIteration") → E (.ref e) { s with heap := h' }) :
    wpAny (model prog w) A (Builtin.«zip.__next__» ⟨[.ref z], []⟩) Q E s := by
  obtain ⟨pI, pO, pZ⟩ := P
  obtain ⟨hz, hTI, ⟨vals, hvl, hTO⟩, hcs⟩ := Z
  have nIz : @Ne Nat TI z := by omega
  have nOz : @Ne Nat TO z := by omega
  show wpAny _ _ (field (.ref z) 2 >>= _) _ _ _
  refine wpAny_bind (wpAny_field hz rfl (x := .bool false) rfl ?_)
  show wpAny _ _ (field (.ref z) 3 >>= _) _ _ _
  refine wpAny_bind (wpAny_field hz rfl (x := .ref TI) rfl ?_)
  refine wpAny_bind (wpAny_seqItems hTI rfl ?_)
  have hne : ¬ ((refsOf b0 cs.length).toArray.isEmpty = true) := by
    simp [refsOf, Array.isEmpty, List.size_toArray]
    intro q; rw [q] at h0; exact Nat.lt_irrefl _ h0
  show wpAny _ _ (if (refsOf b0 cs.length).toArray.isEmpty = true then _ else Builtin.SmallTypes.ownedTupleIsFree (.ref z) >>= _) _ _ _
  rw [if_neg hne]
  refine wpAny_bind ?_
  unfold Builtin.SmallTypes.ownedTupleIsFree
  refine wpAny_bind (wpAny_field hz rfl (x := .none) rfl (wpAny_pure ?_))
  simp only [if_true]
  refine wpAny_bind (wpAny_rule ?_)
  refine wpAny_bind (wpAny_field hz rfl (x := .ref TO) rfl ?_)
  refine wpAny_bind (wpAny_setField_rec hz (by simp) fun h₁ hz₁ hs₁ => ?_)
  replace hz₁ : IsZip h₁ z TI TO .ellipsis := hz₁
  refine wpAny_bind (wpAny_forIn_list _ (fun rest b s' => b = (none, ()) ∧ ∃ j h', j ≤ cs.length ∧ rest = (refsOf b0 cs.length).toArray.toList.zipIdx.drop j ∧ s' = { s with heap := h' } ∧ IsZip h' z TI TO .ellipsis ∧
    (∃ vs : List Value, vs.length = cs.length ∧ h'.get? TO = some (tupL vs)) ∧ (∀ j' c, cs[j']? = some c → j' < j → i < c.xs.size) ∧
    (∀ j' c, cs[j']? = some c → j ≤ j' → CAt h' (Nat.add b0 j') c i) ∧ ZKeep b0 cs.length s.heap h') _ ?turn ?fin _ _ ?start)
  case start =>
    refine ⟨rfl, 0, h₁, Nat.zero_le _, rfl, rfl, hz₁, ⟨vals, hvl, hs₁.extBut _ _ nOz hTO⟩, fun _ _ _ q => absurd q (Nat.not_lt_zero _), fun j c hc _ => ?_, fun c o hc e => hs₁.extBut _ _ (fun q => hc (by subst q; omega)) e⟩
    have hj : j < cs.length := (List.getElem?_eq_some_iff.mp hc).1
    have hb : @Ne Nat (Nat.add b0 j) z := zA pZ hj
    have hs' : @Ne Nat c.src z := zS pZ (hsrc c (List.mem_of_getElem? hc))
    exact (hcs j c hc).mono (fun o e => hs₁.extBut _ _ hb e) fun o e => hs₁.extBut _ _ hs' e
  case fin =>
    rintro b s' ⟨rfl, j, h', hj, hd, rfl, _, _, hall, _, _⟩
    exfalso
    have hjk : j = cs.length := by
      rcases Nat.lt_or_ge j cs.length with q | q
      · have : ((refsOf b0 cs.length).toArray.toList.zipIdx.drop j).length = 0 := by rw [← hd]; rfl
        rw [List.length_drop] at this
        simp [refsOf_length] at this
        omega
      · omega
    obtain ⟨c, hcm, hle⟩ := hend
    obtain ⟨n, hn, e⟩ := List.mem_iff_getElem.mp hcm
    have := hall n c (by rw [← e]; exact List.getElem?_eq_getElem hn) (by omega)
    omega
  case turn =>
    rintro x rest b s' ⟨rfl, j, h', hj, hd, rfl, hz', ⟨vs, hvs, hTO'⟩, hall, hcs', hkp⟩
    obtain ⟨hjk, rfl, hrest⟩ := refs_drop hd
    obtain ⟨c, hc, hcm⟩ := cs_get hjk
    have hcat := hcs' j c hc (Nat.le_refl _)
    have hsc := hsrc c hcm
    have hne' : @Ne Nat c.src (Nat.add b0 j) := zJ hsc
    have nbz : @Ne Nat z (Nat.add b0 j) := (zA pZ hjk).symm
    have nbO : @Ne Nat TO (Nat.add b0 j) := (zC pO hjk).symm
    by_cases hix : i < c.xs.size
    · refine wpAny_bind (wpAny_onRaise ?_)
      show wpAny _ _ (Builtin.SmallTypes.nextOf (.ref (Nat.add b0 j)) >>= _) _ _ _
      refine wpAny_bind (cm_item hcat hne' (x := c.xs.getD i .none) (by simp [Array.getD, hix]) fun h₂ hc₂ hs₂ => wpAny_pure ?_)
      have hTO₂ := hs₂.extBut _ _ nbO hTO'
      refine wpAny_bind (wpAny_seqItems hTO₂ rfl ?_)
      refine wpAny_bind (wpAny_updateSeq hTO₂ rfl ?_ (by rw [sizeLine_eq]; simp; omega) (by rw [sizeLine_eq]; simp; omega))
      refine wpAny_bind (wpAny_letGo (wpAny_pure ?_))
      have hs₃ : Heap.SameBut TO h₂ (h₂.update TO (Obj.mapSeq (fun x => x.setIfInBounds j (c.xs.getD i .none)))) := Heap.SameBut.update ..
      have hTO₃ : (h₂.update TO (Obj.mapSeq (fun x => x.setIfInBounds j (c.xs.getD i .none)))).get? TO = some (tupL (vs.set j (c.xs.getD i .none))) := by
        rw [Heap.get?_update_self _ hTO₂ (by simp [tupL, Obj.mapSeq, Obj.isFreed])]
        simp [tupL, Obj.mapSeq]
      refine ⟨rfl, j + 1, _, hjk, hrest, rfl, hs₃.extBut _ _ (Ne.symm nOz) (hs₂.extBut _ _ nbz hz'), ⟨_, ?_, hTO₃⟩, fun j' c' hc' hlt => ?_, fun j' c' hc' hle => ?_, fun a o ha e => ?_⟩
      · rw [List.length_set]; exact hvs
      · rcases Nat.lt_or_ge j' j with q | q
        · exact hall j' c' hc' q
        · have e : j' = j := by omega
          subst e
          rw [hc] at hc'
          cases hc'
          exact hix
      · have hj' : j' < cs.length := (List.getElem?_eq_some_iff.mp hc').1
        have hsc' := hsrc c' (List.mem_of_getElem? hc')
        have n1 : @Ne Nat (Nat.add b0 j') TO := zC pO hj'
        have n2 : @Ne Nat c'.src TO := zT pO hsc'
        have n3 : @Ne Nat (Nat.add b0 j') (Nat.add b0 j) := zJJ (by omega)
        have n4 : @Ne Nat c'.src (Nat.add b0 j) := zJ hsc'
        exact (hcs' j' c' hc' (by omega)).mono (fun o e => hs₃.extBut _ _ n1 (hs₂.extBut _ _ n3 e)) fun o e => hs₃.extBut _ _ n2 (hs₂.extBut _ _ n4 e)
      · have n5 : @Ne Nat a TO := fun q => ha (by subst q; omega)
        have n6 : @Ne Nat a (Nat.add b0 j) := fun q => ha (by subst q; exact ⟨by show b0 ≤ b0 + j; omega, by show b0 + j ≤ _; omega⟩)
        exact hs₃.extBut _ _ n5 (hs₂.extBut _ _ n6 (hkp a o ha e))
    · refine wpAny_bind (wpAny_onRaise ?_)
      show wpAny _ _ (Builtin.SmallTypes.nextOf (.ref (Nat.add b0 j)) >>= _) _ _ _
      refine wpAny_bind (cm_end hh hcat (by simp; omega) fun h₂ e hs₂ he => ?_)
      obtain ⟨oe, hoe, hce⟩ := he
      have hz₂ : IsZip h₂ z TI TO .ellipsis := hs₂ _ _ nbz hz'
      have hez : e ≠ z := fun x => by subst x; rw [hz₂] at hoe; cases hoe; simp at hce
      refine wpAny_setField_rec hz₂ (by simp) fun h₃ _ hs₃ => hE h₃ e (fun a o ha q => ?_) ⟨oe, hs₃.extBut _ _ hez hoe, hce⟩
      have n5 : @Ne Nat a z := fun q => ha (by subst q; omega)
      have n6 : @Ne Nat a (Nat.add b0 j) := fun q => ha (by subst q; exact ⟨by show b0 ≤ b0 + j; omega, by show b0 + j ≤ _; omega⟩)
      exact hs₃.extBut _ _ n5 (hs₂ _ _ n6 (hkp a o ha q))

theorem zip_letGo {elts : List PySem.Expr} {x1} {pos : Pos} {z TI TO T : Addr} {Q : Unit → Shared → Prop} (hz : IsZip s.heap z TI TO (rawInt T))
    (hQ : ∀ h', IsZip h' z TI TO .none → Heap.SameBut z s.heap h' → Q () { s with heap := h' }) :
    wpAny (model prog w) A (letOwnedTupleGo (.Tuple elts x1 pos) (.ref z) (.ref T)) Q E s := wpAny_letOwnedTupleGo_zip hz hQ

def zwr (b0 k : Nat) : List Addr := (List.range (k + 3)).map fun j => Nat.add b0 j
theorem mem_zwr {b0 k c : Nat} : c ∈ zwr b0 k ↔ b0 ≤ c ∧ c ≤ b0 + k + 2 := by
  unfold zwr
  rw [List.mem_map]
  constructor
  · rintro ⟨j, hj, rfl⟩
    have := List.mem_range.mp hj
    exact ⟨by show b0 ≤ b0 + j; omega, by show b0 + j ≤ _; omega⟩
  · rintro ⟨h1, h2⟩
    exact ⟨c - b0, List.mem_range.mpr (by omega), by show b0 + (c - b0) = c; omega⟩
theorem ZKeep.wr {b0 k : Nat} {h h' : Heap} (x : ZKeep b0 k h h') : ∀ c o, c ∉ zwr b0 k → h.get? c = some o → h'.get? c = some o := fun c o hc e => x c o (fun q => hc (mem_zwr.mpr q)) e
theorem ZAt.frame {b0 TI TO z : Nat} {cs : List Cm} {f0 : Value} {pl : Nat → Nat} {h h' : Heap} (P : ZPos b0 cs.length TI TO z) (Z : ZAt h b0 TI TO z cs f0 pl) (k : ∀ b ∈ zwr b0 cs.length ++ cs.map (·.src), ∀ o, h.get? b = some o → h'.get? b = some o) : ZAt h' b0 TI TO z cs f0 pl := by
  obtain ⟨pI, pO, pZ⟩ := P
  obtain ⟨hz, hTI, ⟨vals, hvl, hTO⟩, hcs⟩ := Z
  refine ⟨k z (List.mem_append_left _ (mem_zwr.mpr (by omega))) _ hz, k TI (List.mem_append_left _ (mem_zwr.mpr (by omega))) _ hTI, ⟨vals, hvl, k TO (List.mem_append_left _ (mem_zwr.mpr (by omega))) _ hTO⟩, fun j c hc => ?_⟩
  have hj : j < cs.length := (List.getElem?_eq_some_iff.mp hc).1
  exact (hcs j c hc).mono (fun o e => k _ (List.mem_append_left _ (mem_zwr.mpr ⟨by show b0 ≤ b0 + j; omega, by show b0 + j ≤ _; omega⟩)) o e) fun o e => k _ (List.mem_append_right _ (List.mem_map_of_mem (List.mem_of_getElem? hc))) o e

theorem walks_zip {b0 TI TO z n : Nat} {cs : List Cm} (hh : A.handled = none) (P : ZPos b0 cs.length TI TO z) (h0 : 0 < cs.length) (hk : cs.length ≤ 8) (hall : ∀ c ∈ cs, n ≤ c.xs.size) (hend : ∃ c ∈ cs, c.xs.size ≤ n) (hsrc : ∀ c ∈ cs, @LT.lt Nat _ c.src b0) :
    WalksU prog w A z (zwr b0 cs.length ++ cs.map (·.src)) (zwr b0 cs.length) n (fun i vals => vals = (cs.map fun c => c.xs.getD i .none).toArray) (fun i h => ZAt h b0 TI TO z cs .none (fun _ => i))
      (fun i T h => ZAt h b0 TI TO z cs (rawInt T) (fun _ => i + 1) ∧ @LT.lt Nat _ z T) where
  sub := fun b hb => List.mem_append_left _ hb
  frame := fun i h h' st k => st.frame P k
  item := fun i s Q E hi st hQ => by
    have hT : s.TypeIs (.ref z) "zip" := ⟨_, st.1, rfl⟩
    unfold pyNext
    exact wpAny_bind (wpAny_attempt (wpAny_callSpecial?_slot (name := Str.ofString "__next__") hT F.slot_zip_next
      (wpAny_call_entry F.slot_zip_next hT F.entry_zip_next
        (zip_item (Q := fun v s' => wpAny _ _ _ Q E s') P h0 hk (fun c hc => Nat.lt_of_lt_of_le hi (hall c hc)) hsrc st fun h' T a1 a2 a3 a4 => wpAny_pure (hQ T _ h' s.toks rfl ⟨_, a2, rfl, _, rfl⟩ ⟨a1, a3⟩ a4.wr)) (F.args_zip_next_1 _))))
  go := fun elts k pos i T s Q E hm hQ => by
    obtain ⟨Z, hT⟩ := hm
    have Z' := Z
    obtain ⟨hz, hTI, hTO, hcs⟩ := Z
    obtain ⟨pI, pO, pZ⟩ := P
    refine zip_letGo hz fun h' hz' hs' => hQ h' ⟨hz', hs'.extBut _ _ (by show @Ne Nat TI z; omega) hTI, ?_, fun j c hc => ?_⟩ fun c o hc e => hs'.extBut _ _ (fun q => hc (by subst q; exact mem_zwr.mpr (by omega))) e
    · obtain ⟨vals, hvl, hTO⟩ := hTO
      exact ⟨vals, hvl, hs'.extBut _ _ (by show @Ne Nat TO z; omega) hTO⟩
    · have hj : j < cs.length := (List.getElem?_eq_some_iff.mp hc).1
      have hb : @Ne Nat (Nat.add b0 j) z := zA pZ hj
      have hs2 : @Ne Nat c.src z := zS pZ (hsrc c (List.mem_of_getElem? hc))
      exact (hcs j c hc).mono (fun o e => hs'.extBut _ _ hb e) fun o e => hs'.extBut _ _ hs2 e
  apart := fun i T h hm hT => by
    have := mem_zwr.mp hT
    have h2 := hm.2
    have := P.z
    omega
  done := fun s Q E st hQ => by
    have hT : s.TypeIs (.ref z) "zip" := ⟨_, st.1, rfl⟩
    unfold pyNext
    refine wpAny_bind (wpAny_attempt (wpAny_callSpecial?_slot (name := Str.ofString "__next__") hT F.slot_zip_next
      (wpAny_call_entry F.slot_zip_next hT F.entry_zip_next (zip_end (by exact hh) P h0 hk hend hsrc st fun h' e hkp he => ?_) (F.args_zip_next_1 _))))
    obtain ⟨o, ho, hc⟩ := he
    refine wpAny_bind (wpAny_isInstance (T := "StopIteration") (b := true) ⟨o, ho, hc⟩ isSubtype_stop ?_)
    exact wpAny_pure (hQ _ s.toks hkp.wr)
  self := fun i s Q E st hQ => wpAny_pyIter_zip st.1 hQ
end
end Mine
namespace Mine
abbrev pIt (ty : String) (l : Addr) : Obj := { cls := .type ty, data := .fields #[.ref l, .int 0 0] }
abbrev yH1 (h : Heap) (t1 : String) (l1 : Addr) : Heap := h.push (pIt t1 l1)
abbrev yH2 (h : Heap) (t1 t2 : String) (l1 l2 : Addr) : Heap := (yH1 h t1 l1).push (pIt t2 l2)
abbrev yH3 (h : Heap) (t1 t2 : String) (l1 l2 : Addr) : Heap := (yH2 h t1 t2 l1 l2).push { cls := .type "tuple", data := .seq #[.ref h.objs.size, .ref (yH1 h t1 l1).objs.size] }
abbrev yH4 (h : Heap) (t1 t2 : String) (l1 l2 : Addr) : Heap := (yH3 h t1 t2 l1 l2).push { cls := .type "tuple", data := .seq #[.none, .none] }
abbrev yH5 (h : Heap) (t1 t2 : String) (l1 l2 : Addr) : Heap := (yH4 h t1 t2 l1 l2).push { cls := .type "zip", data := .fields #[.none, .bool false, .bool false, .ref (yH2 h t1 t2 l1 l2).objs.size, .ref (yH3 h t1 t2 l1 l2).objs.size] }

theorem meets_zip_tt (l1 l2 : Addr) (xs ys : Array Value) :
    Meets (Builtin.«zip.__new__» ⟨[.type "zip", .ref l1, .ref l2], []⟩) (fun _ R s => s.heap.IsTuple l1 xs ∧ s.heap.IsTuple l2 ys ∧
      R (.ok (.ret (.ref (yH4 s.heap "tuple_iterator" "tuple_iterator" l1 l2).objs.size))) { s with heap := yH5 s.heap "tuple_iterator" "tuple_iterator" l1 l2 }) :=
  .of_wp fun prog w A R s h => by
    obtain ⟨hp, g, d, tk, os⟩ := s; obtain ⟨hl1, hl2, h⟩ := h
    have hsub := sub_zip
    have hL1 : Heap.IsTuple (Shared.heap ⟨hp, g, d, tk, os⟩) l1 xs := hl1
    have hL2 : Heap.IsTuple (Shared.heap ⟨hp.push (pIt "tuple_iterator" l1), g, d, tk, os⟩) l2 ys := Heap.IsTuple.at hl2 fun o e => Heap.get?_push_of_some _ e
    wp_walk using wpAny_pyIter_tuple hL1, wpAny_pyIter_tuple hL2
    exact ⟨_, rfl, h⟩
theorem meets_zip_lt (l1 l2 : Addr) (xs ys : Array Value) :
    Meets (Builtin.«zip.__new__» ⟨[.type "zip", .ref l1, .ref l2], []⟩) (fun _ R s => s.heap.IsList l1 xs ∧ s.heap.IsTuple l2 ys ∧
      R (.ok (.ret (.ref (yH4 s.heap "list_iterator" "tuple_iterator" l1 l2).objs.size))) { s with heap := yH5 s.heap "list_iterator" "tuple_iterator" l1 l2 }) :=
  .of_wp fun prog w A R s h => by
    obtain ⟨hp, g, d, tk, os⟩ := s; obtain ⟨hl1, hl2, h⟩ := h
    have hsub := sub_zip
    have hL1 : Heap.IsList (Shared.heap ⟨hp, g, d, tk, os⟩) l1 xs := hl1
    have hL2 : Heap.IsTuple (Shared.heap ⟨hp.push (pIt "list_iterator" l1), g, d, tk, os⟩) l2 ys := Heap.IsTuple.at hl2 fun o e => Heap.get?_push_of_some _ e
    wp_walk using wpAny_pyIter_list hL1, wpAny_pyIter_tuple hL2
    exact ⟨_, rfl, h⟩

section
variable {prog : Program} {w : World} {A : Around} {E : Value → Shared → Prop} {s : Shared}
theorem zat2 {h : Heap} {t1 t2 : String} {c1 c2 : Cm} (k1 : ∀ g : Heap, g.get? h.objs.size = some (pIt t1 c1.src) → (∀ c o, h.get? c = some o → g.get? c = some o) → CAt g h.objs.size c1 0) (k2 : ∀ g : Heap, g.get? (Nat.add h.objs.size 1) = some (pIt t2 c2.src) → (∀ c o, h.get? c = some o → g.get? c = some o) → CAt g (Nat.add h.objs.size 1) c2 0) :
    ZAt (yH5 h t1 t2 c1.src c2.src) h.objs.size (h.objs.size + 2) (h.objs.size + 3) (h.objs.size + 4) [c1, c2] .none (fun _ => 0) ∧ (yH4 h t1 t2 c1.src c2.src).objs.size = h.objs.size + 4 ∧ (yH5 h t1 t2 c1.src c2.src).objs.size = h.objs.size + 5 ∧ ∀ c o, h.get? c = some o → (yH5 h t1 t2 c1.src c2.src).get? c = some o := by
  have z1 : (yH1 h t1 c1.src).objs.size = h.objs.size + 1 := Heap.size_push ..
  have z2 : (yH2 h t1 t2 c1.src c2.src).objs.size = h.objs.size + 2 := by rw [Heap.size_push, z1]
  have z3 : (yH3 h t1 t2 c1.src c2.src).objs.size = h.objs.size + 3 := by rw [Heap.size_push, z2]
  have z4 : (yH4 h t1 t2 c1.src c2.src).objs.size = h.objs.size + 4 := by rw [Heap.size_push, z3]
  have z5 : (yH5 h t1 t2 c1.src c2.src).objs.size = h.objs.size + 5 := by rw [Heap.size_push, z4]
  have g5 : (yH5 h t1 t2 c1.src c2.src).get? (yH4 h t1 t2 c1.src c2.src).objs.size = some _ := Heap.get?_push_size _ rfl
  have g4 : (yH5 h t1 t2 c1.src c2.src).get? (yH3 h t1 t2 c1.src c2.src).objs.size = some _ := Heap.get?_push_of_some _ (Heap.get?_push_size _ rfl)
  have g3 : (yH5 h t1 t2 c1.src c2.src).get? (yH2 h t1 t2 c1.src c2.src).objs.size = some _ := Heap.get?_push_of_some _ (Heap.get?_push_of_some _ (Heap.get?_push_size _ rfl))
  have g2 : (yH5 h t1 t2 c1.src c2.src).get? (yH1 h t1 c1.src).objs.size = some _ := Heap.get?_push_of_some _ (Heap.get?_push_of_some _ (Heap.get?_push_of_some _ (Heap.get?_push_size _ rfl)))
  have g1 : (yH5 h t1 t2 c1.src c2.src).get? h.objs.size = some _ := Heap.get?_push_of_some _ (Heap.get?_push_of_some _ (Heap.get?_push_of_some _ (Heap.get?_push_of_some _ (Heap.get?_push_size _ rfl))))
  have up : ∀ c o, h.get? c = some o → (yH5 h t1 t2 c1.src c2.src).get? c = some o := fun c o x =>
    Heap.get?_push_of_some _ (Heap.get?_push_of_some _ (Heap.get?_push_of_some _ (Heap.get?_push_of_some _ (Heap.get?_push_of_some _ x))))
  rw [z2, z3, z4] at g5
  rw [z1, z2] at g3
  rw [z3] at g4
  rw [z1] at g2
  refine ⟨⟨g5, g3, ⟨[.none, .none], rfl, g4⟩, fun j c hc => ?_⟩, z4, z5, up⟩
  match j, hc with
  | 0, hc =>
    have e : c1 = c := by simpa using hc
    subst e
    exact k1 _ g1 up
  | 1, hc =>
    have e : c2 = c := by simpa using hc
    subst e
    exact k2 _ g2 up
  | n + 2, hc => simp at hc
theorem cat_tup {g : Heap} {h : Heap} {it : Addr} {l : Addr} {xs : Array Value} (ht : h.IsTuple l xs) (e : g.get? it = some (pIt "tuple_iterator" l)) (up : ∀ c o, h.get? c = some o → g.get? c = some o) : CAt g it ⟨l, xs, false⟩ 0 :=
  .inr ⟨rfl, ⟨_, e, rfl, rfl⟩, ht.at fun o e => up _ o e⟩
theorem cat_list {g : Heap} {h : Heap} {it : Addr} {l : Addr} {xs : Array Value} (ht : h.IsList l xs) (e : g.get? it = some (pIt "list_iterator" l)) (up : ∀ c o, h.get? c = some o → g.get? c = some o) : CAt g it ⟨l, xs, true⟩ 0 :=
  .inl ⟨rfl, ⟨_, e, rfl, rfl⟩, ht.at fun o e => up _ o e⟩
theorem call_zip_tt {l1 l2 : Addr} {xs ys : Array Value} {Q : Value → Shared → Prop} (hl1 : s.heap.IsTuple l1 xs) (hl2 : s.heap.IsTuple l2 ys)
    (h : ∀ h', ZAt h' s.heap.objs.size (s.heap.objs.size + 2) (s.heap.objs.size + 3) (s.heap.objs.size + 4) [⟨l1, xs, false⟩, ⟨l2, ys, false⟩] .none (fun _ => 0) → h'.objs.size = s.heap.objs.size + 5 →
      (∀ c o, s.heap.get? c = some o → h'.get? c = some o) → Q (.ref (s.heap.objs.size + 4)) { s with heap := h' }) :
    wpAny (model prog w) A (call (.type "zip") [.ref l1, .ref l2]) Q E s := by
  refine callType_new F.called_zip (by decide) (F.typeCall_zip_2 _ _) (F.newCall_zip_2 _ _) (fun obj => F.args_object_init_3 obj _ _) F.entry_zip_new
    (meets_zip_tt l1 l2 xs ys) ⟨hl1, hl2, ?_⟩
  obtain ⟨Z, z4, z5, up⟩ := zat2 (h := s.heap) (t1 := "tuple_iterator") (t2 := "tuple_iterator") (c1 := ⟨l1, xs, false⟩) (c2 := ⟨l2, ys, false⟩) (fun g e u => cat_tup hl1 e u) (fun g e u => cat_tup hl2 e u)
  show _ ∧ _
  rw [z4]
  exact ⟨⟨_, Z.1, rfl⟩, h _ Z z5 up⟩
theorem call_zip_lt {l1 l2 : Addr} {xs ys : Array Value} {Q : Value → Shared → Prop} (hl1 : s.heap.IsList l1 xs) (hl2 : s.heap.IsTuple l2 ys)
    (h : ∀ h', ZAt h' s.heap.objs.size (s.heap.objs.size + 2) (s.heap.objs.size + 3) (s.heap.objs.size + 4) [⟨l1, xs, true⟩, ⟨l2, ys, false⟩] .none (fun _ => 0) → h'.objs.size = s.heap.objs.size + 5 →
      (∀ c o, s.heap.get? c = some o → h'.get? c = some o) → Q (.ref (s.heap.objs.size + 4)) { s with heap := h' }) :
    wpAny (model prog w) A (call (.type "zip") [.ref l1, .ref l2]) Q E s := by
  refine callType_new F.called_zip (by decide) (F.typeCall_zip_2 _ _) (F.newCall_zip_2 _ _) (fun obj => F.args_object_init_3 obj _ _) F.entry_zip_new
    (meets_zip_lt l1 l2 xs ys) ⟨hl1, hl2, ?_⟩
  obtain ⟨Z, z4, z5, up⟩ := zat2 (h := s.heap) (t1 := "list_iterator") (t2 := "tuple_iterator") (c1 := ⟨l1, xs, true⟩) (c2 := ⟨l2, ys, false⟩) (fun g e u => cat_list hl1 e u) (fun g e u => cat_tup hl2 e u)
  show _ ∧ _
  rw [z4]
  exact ⟨⟨_, Z.1, rfl⟩, h _ Z z5 up⟩
end
abbrev xH1 (h : Heap) (l1 : Addr) : Heap := h.push (pIt "tuple_iterator" l1)
abbrev xH2 (h : Heap) (l1 l2 : Addr) : Heap := (xH1 h l1).push (pIt "tuple_iterator" l2)
abbrev xH3 (h : Heap) (l1 l2 l3 : Addr) : Heap := (xH2 h l1 l2).push (pIt "tuple_iterator" l3)
abbrev xH4 (h : Heap) (l1 l2 l3 : Addr) : Heap := (xH3 h l1 l2 l3).push { cls := .type "tuple", data := .seq #[.ref h.objs.size, .ref (xH1 h l1).objs.size, .ref (xH2 h l1 l2).objs.size] }
abbrev xH5 (h : Heap) (l1 l2 l3 : Addr) : Heap := (xH4 h l1 l2 l3).push { cls := .type "tuple", data := .seq #[.none, .none, .none] }
abbrev xH6 (h : Heap) (l1 l2 l3 : Addr) : Heap := (xH5 h l1 l2 l3).push { cls := .type "zip", data := .fields #[.none, .bool false, .bool false, .ref (xH3 h l1 l2 l3).objs.size, .ref (xH4 h l1 l2 l3).objs.size] }
theorem typeCall_zip_3 (a b c : Value) : checkTypeCall "zip" ⟨[a, b, c], []⟩ = pure () := by kernel_rfl
theorem newCall_zip_3 (a b c : Value) : checkBuiltinCall "zip.__new__" ⟨[.type "zip", a, b, c], []⟩ = pure () := by kernel_rfl
theorem args_object_init_4 (a b c d : Value) : argsOk "object.__init__" ⟨[a, b, c, d], []⟩ := by
  unfold argsOk; rw [signature?_of (id := "object.__init__") (n := ['_', '_', 't', 'i', 'n', 'i', '_', '_']) (o := ['t', 'c', 'e', 'j', 'b', 'o']) (by kernel_rfl) PySem.F.owner_object]; kernel_rfl
theorem meets_zip_ttt (l1 l2 l3 : Addr) (xs ys zs : Array Value) :
    Meets (Builtin.«zip.__new__» ⟨[.type "zip", .ref l1, .ref l2, .ref l3], []⟩) (fun _ R s => s.heap.IsTuple l1 xs ∧ s.heap.IsTuple l2 ys ∧ s.heap.IsTuple l3 zs ∧
      R (.ok (.ret (.ref (xH5 s.heap l1 l2 l3).objs.size))) { s with heap := xH6 s.heap l1 l2 l3 }) :=
  .of_wp fun prog w A R s h => by
    obtain ⟨hp, g, d, tk, os⟩ := s; obtain ⟨hl1, hl2, hl3, h⟩ := h
    have hsub := sub_zip
    have hL1 : Heap.IsTuple (Shared.heap ⟨hp, g, d, tk, os⟩) l1 xs := hl1
    have hL2 : Heap.IsTuple (Shared.heap ⟨hp.push (pIt "tuple_iterator" l1), g, d, tk, os⟩) l2 ys := Heap.IsTuple.at hl2 fun o e => Heap.get?_push_of_some _ e
    have hL3 : Heap.IsTuple (Shared.heap ⟨(hp.push (pIt "tuple_iterator" l1)).push (pIt "tuple_iterator" l2), g, d, tk, os⟩) l3 zs := Heap.IsTuple.at hl3 fun o e => Heap.get?_push_of_some _ (Heap.get?_push_of_some _ e)
    wp_walk using wpAny_pyIter_tuple hL1, wpAny_pyIter_tuple hL2, wpAny_pyIter_tuple hL3
    exact ⟨_, rfl, h⟩
section
variable {prog : Program} {w : World} {A : Around} {E : Value → Shared → Prop} {s : Shared}
theorem zat3 {h : Heap} {c1 c2 c3 : Cm} (k1 : ∀ g : Heap, g.get? h.objs.size = some (pIt "tuple_iterator" c1.src) → (∀ c o, h.get? c = some o → g.get? c = some o) → CAt g h.objs.size c1 0) (k2 : ∀ g : Heap, g.get? (Nat.add h.objs.size 1) = some (pIt "tuple_iterator" c2.src) → (∀ c o, h.get? c = some o → g.get? c = some o) → CAt g (Nat.add h.objs.size 1) c2 0)
    (k3 : ∀ g : Heap, g.get? (Nat.add h.objs.size 2) = some (pIt "tuple_iterator" c3.src) → (∀ c o, h.get? c = some o → g.get? c = some o) → CAt g (Nat.add h.objs.size 2) c3 0) :
    ZAt (xH6 h c1.src c2.src c3.src) h.objs.size (h.objs.size + 3) (h.objs.size + 4) (h.objs.size + 5) [c1, c2, c3] .none (fun _ => 0) ∧ (xH5 h c1.src c2.src c3.src).objs.size = h.objs.size + 5 ∧ (xH6 h c1.src c2.src c3.src).objs.size = h.objs.size + 6 ∧ ∀ c o, h.get? c = some o → (xH6 h c1.src c2.src c3.src).get? c = some o := by
  have z1 : (xH1 h c1.src).objs.size = h.objs.size + 1 := Heap.size_push ..
  have z2 : (xH2 h c1.src c2.src).objs.size = h.objs.size + 2 := by rw [Heap.size_push, z1]
  have z3 : (xH3 h c1.src c2.src c3.src).objs.size = h.objs.size + 3 := by rw [Heap.size_push, z2]
  have z4 : (xH4 h c1.src c2.src c3.src).objs.size = h.objs.size + 4 := by rw [Heap.size_push, z3]
  have z5 : (xH5 h c1.src c2.src c3.src).objs.size = h.objs.size + 5 := by rw [Heap.size_push, z4]
  have z6 : (xH6 h c1.src c2.src c3.src).objs.size = h.objs.size + 6 := by rw [Heap.size_push, z5]
  have g6 : (xH6 h c1.src c2.src c3.src).get? (xH5 h c1.src c2.src c3.src).objs.size = some _ := Heap.get?_push_size _ rfl
  have g5 : (xH6 h c1.src c2.src c3.src).get? (xH4 h c1.src c2.src c3.src).objs.size = some _ := Heap.get?_push_of_some _ (Heap.get?_push_size _ rfl)
  have g4 : (xH6 h c1.src c2.src c3.src).get? (xH3 h c1.src c2.src c3.src).objs.size = some _ := Heap.get?_push_of_some _ (Heap.get?_push_of_some _ (Heap.get?_push_size _ rfl))
  have g3 : (xH6 h c1.src c2.src c3.src).get? (xH2 h c1.src c2.src).objs.size = some _ := Heap.get?_push_of_some _ (Heap.get?_push_of_some _ (Heap.get?_push_of_some _ (Heap.get?_push_size _ rfl)))
  have g2 : (xH6 h c1.src c2.src c3.src).get? (xH1 h c1.src).objs.size = some _ := Heap.get?_push_of_some _ (Heap.get?_push_of_some _ (Heap.get?_push_of_some _ (Heap.get?_push_of_some _ (Heap.get?_push_size _ rfl))))
  have g1 : (xH6 h c1.src c2.src c3.src).get? h.objs.size = some _ := Heap.get?_push_of_some _ (Heap.get?_push_of_some _ (Heap.get?_push_of_some _ (Heap.get?_push_of_some _ (Heap.get?_push_of_some _ (Heap.get?_push_size _ rfl)))))
  have up : ∀ c o, h.get? c = some o → (xH6 h c1.src c2.src c3.src).get? c = some o := fun c o x =>
    Heap.get?_push_of_some _ (Heap.get?_push_of_some _ (Heap.get?_push_of_some _ (Heap.get?_push_of_some _ (Heap.get?_push_of_some _ (Heap.get?_push_of_some _ x)))))
  rw [z3, z4, z5] at g6
  rw [z4] at g5
  rw [z1, z2, z3] at g4
  rw [z2] at g3
  rw [z1] at g2
  refine ⟨⟨g6, g4, ⟨[.none, .none, .none], rfl, g5⟩, fun j c hc => ?_⟩, z5, z6, up⟩
  match j, hc with
  | 0, hc =>
    have e : c1 = c := by simpa using hc
    subst e
    exact k1 _ g1 up
  | 1, hc =>
    have e : c2 = c := by simpa using hc
    subst e
    exact k2 _ g2 up
  | 2, hc =>
    have e : c3 = c := by simpa using hc
    subst e
    exact k3 _ g3 up
  | n + 3, hc => simp at hc
theorem call_zip_ttt {l1 l2 l3 : Addr} {xs ys zs : Array Value} {Q : Value → Shared → Prop} (hl1 : s.heap.IsTuple l1 xs) (hl2 : s.heap.IsTuple l2 ys) (hl3 : s.heap.IsTuple l3 zs)
    (h : ∀ h', ZAt h' s.heap.objs.size (s.heap.objs.size + 3) (s.heap.objs.size + 4) (s.heap.objs.size + 5) [⟨l1, xs, false⟩, ⟨l2, ys, false⟩, ⟨l3, zs, false⟩] .none (fun _ => 0) → h'.objs.size = s.heap.objs.size + 6 →
      (∀ c o, s.heap.get? c = some o → h'.get? c = some o) → Q (.ref (s.heap.objs.size + 5)) { s with heap := h' }) :
    wpAny (model prog w) A (call (.type "zip") [.ref l1, .ref l2, .ref l3]) Q E s := by
  refine callType_new F.called_zip (by decide) (typeCall_zip_3 _ _ _) (newCall_zip_3 _ _ _) (fun obj => args_object_init_4 obj _ _ _) F.entry_zip_new
    (meets_zip_ttt l1 l2 l3 xs ys zs) ⟨hl1, hl2, hl3, ?_⟩
  obtain ⟨Z, z4, z5, up⟩ := zat3 (h := s.heap) (c1 := ⟨l1, xs, false⟩) (c2 := ⟨l2, ys, false⟩) (c3 := ⟨l3, zs, false⟩) (fun g e u => cat_tup hl1 e u) (fun g e u => cat_tup hl2 e u) (fun g e u => cat_tup hl3 e u)
  show _ ∧ _
  rw [z4]
  exact ⟨⟨_, Z.1, rfl⟩, h _ Z z5 up⟩
end
end Mine
namespace Mine
open LCg
section
variable {prog : Program} {w : World} {A : Around} {E : Value → Shared → Prop} {s : Shared} {h₀ : Heap} {L : Addr} {m : Str → Option Value} {env : Env}
theorem assign_two {a b : Str} {pa pb tp : Pos} {kk : Nat} {scope : Scope} {cl : List (Str × Addr)} {C T : Addr} {x y : Value} {m' : Str → Option Value} {Q : Unit → Shared → Prop} {E' : Value → Shared → Prop} {s' : Shared} (hh : A.handled = none) (hkind : scope.kind = .function)
    (ha : scope.names.lookup a = some .local) (hb : scope.names.lookup b = some .local) (hT : s'.heap.IsTuple T #[x, y]) (hn : s'.heap.Ns C m')
    (h : ∀ h' tk, h'.Ns C (fun z => if z = b then some y else if z = a then some x else m' z) → (∀ c o, c ≠ C → s'.heap.get? c = some o → h'.get? c = some o) → Q () { s' with heap := h', toks := tk }) :
    wpAny (model prog w) A (assign (.Tuple [.Name a pa, .Name b pb] kk tp) (compEnvC scope cl C env) (.ref T)) Q E' s' :=
  kcp_assign hh hT (lookup_relabel_local ha) (lookup_relabel_local hb) (by simp [compEnvC, relabel, hkind]) hn fun h' tk hn' hk => h h' tk hn' hk

theorem getD_some {xs : Array Value} {i : Nat} (h : i < xs.size) : xs[i]? = some (xs.getD i .none) := by simp [Array.getD, h]

theorem src_zipC {l1 l2 : Addr} {o1 o2 : Obj} {as bs : List Int} {a b : Str} {pa pb tp : Pos} {kk : Nat} {elt : PySem.Expr} {ifs : List PySem.Expr} {scope : Scope} {cl : List (Str × Addr)} {news : Led} {Q : Value → Shared → Prop}
    (hh : A.handled = none) (F : Fr h₀ L s.heap m) (N : News h₀ L s.heap news) (hm1 : (l1, o1) ∈ news) (hm2 : (l2, o2) ∈ news) (ht1 : TupI o1 as) (ht2 : TupI o2 bs)
    (hkind : scope.kind = .function) (ha : scope.names.lookup a = some .local) (hb : scope.names.lookup b = some .local) (hab : ¬ a = b) (hsz : as.length ≤ 256)
    (J : Nat → List Value → Prop) (hJ0 : J 0 [])
    (step : ∀ g b0 i ys, i < min as.length bs.length → J i ys → TStep prog w A h₀ L m env ifs elt scope cl { s with heap := g } b0 [(l1, o1), (l2, o2)] (fun m₂ => ∃ v1 v2 t1 t2, as[i]? = some v1 ∧ bs[i]? = some v2 ∧ m₂ a = some (.int v1 t1) ∧ m₂ b = some (.int v2 t2)) (fun ys' news' => J (i + 1) ys' ∧ news' = news) ys news)
    (fin : ∀ D h tk ys, Fr h₀ L h m → News h₀ L h ((D, lst ys) :: news) → AllLt D news → J (min as.length bs.length) ys → Q (.ref D) { s with heap := h, toks := tk }) :
    wpAny (model prog w) A (call (.type "zip") [.ref l1, .ref l2]) (fun xv s₁ => wpAny (model prog w) A (pyIter xv) (CSrc prog w A h₀ L m env (.Tuple [.Name a pa, .Name b pb] kk tp) ifs elt scope cl Q) E s₁) E s := by
  obtain ⟨vs1, rfl, hI1⟩ := ht1
  obtain ⟨vs2, rfl, hI2⟩ := ht2
  have hn1 := hI1.length
  have hn2 := hI2.length
  have hax1 := N _ hm1
  have hax2 := N _ hm2
  have hl1 : s.heap.IsTuple l1 vs1.toArray := ⟨_, hax1.1, rfl, _, rfl⟩
  have hl2 : s.heap.IsTuple l2 vs2.toArray := ⟨_, hax2.1, rfl, _, rfl⟩
  refine call_zip_tt hl1 hl2 fun g Z zs up => ?_
  refine wpAny_pyIter_zip Z.1 ?_
  have P : ZPos s.heap.objs.size [(⟨l1, vs1.toArray, false⟩ : Cm), ⟨l2, vs2.toArray, false⟩].length (s.heap.objs.size + 2) (s.heap.objs.size + 3) (s.heap.objs.size + 4) := ⟨rfl, rfl, rfl⟩
  have hn0 : ∀ b ∈ zwr s.heap.objs.size 2, h₀.get? b = none := fun b hb => by
    have := mem_zwr.mp hb
    cases e : h₀.get? b with
    | none => rfl
    | some o => exact absurd (Heap.lt_size (F.keep _ _ e)) (Nat.not_lt.mpr this.1)
  have e1 : vs1.toArray.size = as.length := by rw [List.size_toArray]; omega
  have e2 : vs2.toArray.size = bs.length := by rw [List.size_toArray]; omega
  have W := walks_zip (prog := prog) (w := w) (A := A) (n := min as.length bs.length) hh P (by show 0 < 2; omega) (by show 2 ≤ 8; omega)
    (fun c hc => by
      rcases List.mem_cons.mp hc with rfl | hc
      · show _ ≤ vs1.toArray.size; omega
      · rw [List.mem_singleton.mp hc]; show _ ≤ vs2.toArray.size; omega)
    (by
      rcases Nat.le_total as.length bs.length with q | q
      · exact ⟨_, List.mem_cons_self .., by show vs1.toArray.size ≤ _; omega⟩
      · exact ⟨_, List.mem_cons_of_mem _ (List.mem_cons_self ..), by show vs2.toArray.size ≤ _; omega⟩)
    (fun c hc => by
      rcases List.mem_cons.mp hc with rfl | hc
      · exact Heap.lt_size hax1.1
      · rw [List.mem_singleton.mp hc]; exact Heap.lt_size hax2.1)
  refine ⟨s.heap.objs.size + 4, s.heap.objs.size, zwr s.heap.objs.size 2, [(l1, { cls := .type "tuple", data := .seq vs1.toArray }), (l2, { cls := .type "tuple", data := .seq vs2.toArray })], min as.length bs.length, _, _, _, news, fun i => fun m₂ => ∃ v1 v2 t1 t2, as[i]? = some v1 ∧ bs[i]? = some v2 ∧ m₂ a = some (.int v1 t1) ∧ m₂ b = some (.int v2 t2),
    fun i ys news' => J i ys ∧ news' = news, rfl,
    KTurns.ofWalksU W, fun s' Q' E' st q => W.self 0 s' Q' E' st q,
    fun C i v s' m' Q' E' hi hP hn hQ => ?_, by rw [sizeLine_eq]; omega, Z, ?_, ?_, ?_,
    F.keeps up, fun p hp => ⟨up _ _ (N p hp).1, (N p hp).2⟩, hn0, ?_, allLt_in fun b hb => Heap.lt_size (N b hb).1, srcIn_cons hm1 (srcIn_cons hm2 srcIn_nil), ⟨hJ0, rfl⟩, ?_, ?_⟩
  · obtain ⟨T, vals, rfl, rfl, hT⟩ := hP
    have hi1 : i < vs1.length := by omega
    have hi2 : i < vs2.length := by omega
    obtain ⟨v1, t1, g1, q1⟩ := ints_at hI1 (List.getElem?_eq_getElem hi1)
    obtain ⟨v2, t2, g2, q2⟩ := ints_at hI2 (List.getElem?_eq_getElem hi2)
    have eT : ([(⟨l1, vs1.toArray, false⟩ : Cm), ⟨l2, vs2.toArray, false⟩].map fun c => c.xs.getD i .none).toArray = #[.int v1 t1, .int v2 t2] := by
      simp [Array.getD, hi1, hi2, q1, q2]
    rw [eT] at hT
    exact assign_two hh hkind ha hb hT hn fun h' tk hn' hk => hQ h' tk _ ⟨v1, v2, t1, t2, g1, g2, by simp [hab], by simp⟩ hn' hk
  · intro b hb
    have := mem_zwr.mp hb
    exact ⟨this.1, by show @LT.lt Nat _ b g.objs.size; rw [zs]; omega⟩
  · show s.heap.objs.size ≤ g.objs.size
    rw [zs]; exact Nat.le_add_right _ _
  · intro b hb
    rcases List.mem_cons.mp hb with rfl | hb
    · exact Heap.lt_size hax1.1
    · rw [List.mem_singleton.mp hb]; exact Heap.lt_size hax2.1
  · intro hb
    exact absurd F.ns.lt (Nat.not_lt.mpr (mem_zwr.mp hb).1)
  · rintro i ys news' hi ⟨hJ, rfl⟩ _
    exact step _ _ i ys hi hJ
  · rintro D h' tk ys news' F' N' hlt' ⟨hJ, rfl⟩
    exact fin D h' tk ys F' N' hlt' hJ

theorem src_zipM {l1 l2 : Addr} {o1 o2 : Obj} {as bs : List Int} {a b : Str} {pa pb tp : Pos} {kk : Nat} {elt : PySem.Expr} {scope : Scope} {cl : List (Str × Addr)} {news : Led} {Q : Value → Shared → Prop} (f : Int → Int → Int)
    (hh : A.handled = none) (F : Fr h₀ L s.heap m) (N : News h₀ L s.heap news) (hm1 : (l1, o1) ∈ news) (hm2 : (l2, o2) ∈ news) (ht1 : TupI o1 as) (ht2 : TupI o2 bs)
    (hkind : scope.kind = .function) (ha : scope.names.lookup a = some .local) (hb : scope.names.lookup b = some .local) (hab : ¬ a = b) (hsz : as.length ≤ 256)
    (turn : ∀ g b0 v1 v2 t1 t2 ys own C oC D m₂ h tk (E' : Value → Shared → Prop), v1 ∈ as → v2 ∈ bs → m₂ a = some (.int v1 t1) → m₂ b = some (.int v2 t2) → NsObj oC m₂ → Fr h₀ L h m → News h₀ L h ((C, oC) :: (D, lst ys) :: (news ++ own)) → AllLt b0 news → Over b0 own → (∀ b ∈ own, @LT.lt Nat _ b.1 D) → @LE.le Nat _ b0 D → @LT.lt Nat _ D C →
      wpAny (model prog w) A (eval elt (compEnvC scope cl C env)) (TEnd h₀ L m { { s with heap := g } with heap := h, toks := tk } own b0 C oC D (lst ys) [(l1, o1), (l2, o2)] (fun y news' => Int1 (f v1 v2) news y news')) E' { { s with heap := g } with heap := h, toks := tk })
    (fin : ∀ D h tk ys, Fr h₀ L h m → News h₀ L h ((D, lst ys) :: news) → AllLt D news → IntsAre ys (List.zipWith f as bs) → Q (.ref D) { s with heap := h, toks := tk }) :
    wpAny (model prog w) A (call (.type "zip") [.ref l1, .ref l2]) (fun xv s₁ => wpAny (model prog w) A (pyIter xv) (CSrc prog w A h₀ L m env (.Tuple [.Name a pa, .Name b pb] kk tp) [] elt scope cl Q) E s₁) E s := by
  refine src_zipC hh F N hm1 hm2 ht1 ht2 hkind ha hb hab hsz (fun i ys => IntsAre ys ((List.zipWith f as bs).take i)) .nil ?_ ?_
  · intro g b0 i ys hi hJ own C oC D m₂ h tk E' hB hoC F' N' hlt hov hoD hbD hDC
    obtain ⟨v1, v2, t1, t2, g1, g2, x1, x2⟩ := hB
    refine wpAny_mono (turn g b0 v1 v2 t1 t2 ys own C oC D m₂ h tk E' (List.mem_of_getElem? g1) (List.mem_of_getElem? g2) x1 x2 hoC F' N' hlt hov hoD hbD hDC) (fun y s₂ hq => ?_) fun _ _ e => e
    obtain ⟨h', tk', news₂, e, F₂, N₂, hlt₂, hS₂, ⟨u', rfl⟩, rfl⟩ := hq
    refine ⟨h', tk', _, e, F₂, N₂, hlt₂, hS₂, ?_, rfl⟩
    have hz : (List.zipWith f as bs)[i]? = some (f v1 v2) := by rw [List.getElem?_zipWith, g1, g2]
    rw [List.take_add_one, hz]
    simpa using ints_snoc (c := f v1 v2) (t := u') hJ
  · intro D h tk ys F' N' hlt hJ
    refine fin D h tk ys F' N' hlt ?_
    rwa [← List.length_zipWith (f := f), List.take_length] at hJ
def NoItem (news : Led) (_ : Value) (news' : Led) : Prop := news' = news
theorem src_zipN {l1 l2 : Addr} {o1 o2 : Obj} {as bs : List Int} {a b : Str} {pa pb tp : Pos} {kk : Nat} {c elt : PySem.Expr} {scope : Scope} {cl : List (Str × Addr)} {news : Led} {Q : Value → Shared → Prop} (T : Int → Int → Prop)
    (hh : A.handled = none) (F : Fr h₀ L s.heap m) (N : News h₀ L s.heap news) (hm1 : (l1, o1) ∈ news) (hm2 : (l2, o2) ∈ news) (ht1 : TupI o1 as) (ht2 : TupI o2 bs)
    (hT : ∀ p ∈ as.zip bs, T p.1 p.2)
    (hkind : scope.kind = .function) (ha : scope.names.lookup a = some .local) (hb : scope.names.lookup b = some .local) (hab : ¬ a = b) (hsz : as.length ≤ 256)
    (turn : ∀ g b0 v1 v2 t1 t2 own C oC D m₂ h tk (E' : Value → Shared → Prop), v1 ∈ as → v2 ∈ bs → T v1 v2 → m₂ a = some (.int v1 t1) → m₂ b = some (.int v2 t2) → NsObj oC m₂ → Fr h₀ L h m → News h₀ L h ((C, oC) :: (D, lst []) :: (news ++ own)) → AllLt b0 news → Over b0 own → (∀ b ∈ own, @LT.lt Nat _ b.1 D) → @LE.le Nat _ b0 D → @LT.lt Nat _ D C →
      wpAny (model prog w) A (isTrue c (compEnvC scope cl C env) (eval c (compEnvC scope cl C env))) (fun okb s₃ => if okb = true then False else
        TEnd h₀ L m { { s with heap := g } with heap := h, toks := tk } own b0 C oC D (lst []) [(l1, o1), (l2, o2)] (fun y news' => NoItem news y news') .none s₃) E' { { s with heap := g } with heap := h, toks := tk })
    (fin : ∀ D h tk, Fr h₀ L h m → News h₀ L h ((D, lst []) :: news) → AllLt D news → Q (.ref D) { s with heap := h, toks := tk }) :
    wpAny (model prog w) A (call (.type "zip") [.ref l1, .ref l2]) (fun xv s₁ => wpAny (model prog w) A (pyIter xv) (CSrc prog w A h₀ L m env (.Tuple [.Name a pa, .Name b pb] kk tp) [c] elt scope cl Q) E s₁) E s := by
  refine src_zipC hh F N hm1 hm2 ht1 ht2 hkind ha hb hab hsz (fun _ ys => ys = []) rfl ?_ ?_
  · rintro g b0 i ys hi rfl own C oC D m₂ h tk E' hB hoC F' N' hlt hov hoD hbD hDC
    obtain ⟨v1, v2, t1, t2, g1, g2, x1, x2⟩ := hB
    have hz : (as.zip bs)[i]? = some (v1, v2) := by rw [List.getElem?_zip_eq_some]; exact ⟨g1, g2⟩
    refine wpAny_mono (turn g b0 v1 v2 t1 t2 own C oC D m₂ h tk E' (List.mem_of_getElem? g1) (List.mem_of_getElem? g2) (hT _ (List.mem_of_getElem? hz)) x1 x2 hoC F' N' hlt hov hoD hbD hDC) (fun okb s₂ hq => ?_) fun _ _ e => e
    cases okb with
    | true => exact absurd hq (by simp)
    | false =>
      simp only [Bool.false_eq_true, if_false] at hq ⊢
      obtain ⟨h', tk', news₂, e, F₂, N₂, hlt₂, hS₂, rfl⟩ := hq
      exact ⟨h', tk', _, e, F₂, N₂, hlt₂, hS₂, by first | trivial | exact ⟨rfl, rfl⟩⟩
  · rintro D h tk ys F' N' hlt rfl
    exact fin D h tk F' N' hlt
end
end Mine
theorem Mine.words_10a : True := by
  k_with "NoItem" => (
    exact rfl)
  trivial
namespace Mine
def opsL : List (Str × Str × Str × Str) := [("clear", "none", "none", "none none"),
  ("src", "all", "none", "all none"),
  ("dst", "none", "all", "none all"),
  ("over", "all", "rest", "all rest"),
  ("dst-over", "rest", "all", "rest all"),
  ("in", "other", "none", "other none"),
  ("dst-in", "none", "other", "none other"),
  ("out", "rest", "none", "rest none"),
  ("dst-out", "none", "rest", "none rest"),
  ("atop", "other", "rest", "other rest"),
  ("dst-atop", "rest", "other", "rest other"),
  ("xor", "rest", "rest", "rest rest")]
def Op (op w1 w2 : Str) : Prop := ∃ t, (op, w1, w2, t) ∈ opsL
def Duo (o : Obj) (w1 w2 : Str) : Prop := ∃ t1 t2, o = { cls := .type "tuple", data := .seq #[.str w1 t1, .str w2 t2] }
def OpAt (kvs : List (Str × Value)) (op w1 w2 : Str) (news news₀ : Led) : Prop := ∃ q ob, valueAt kvs op = some (.ref q) ∧ (q, ob) ∈ news ∧ Duo ob w1 w2 ∧ AllLt q news₀
theorem two_fits {a b : Value} : [a, b].length ≤ sizeLine := by
  rw [sizeLine_eq]
  simp
theorem tup_strs {prog : Program} {w : World} {A : Around} {E : Value → Shared → Prop} {s : Shared} {h₀ : Heap} {L : Addr} {m : Str → Option Value} {news : Led} {a b : Str} {ta tb : Tok} {Q : Value → Shared → Prop} (F : Fr h₀ L s.heap m) (N : News h₀ L s.heap news)
    (h : ∀ q ob h', Duo ob a b → Fr h₀ L h' m → News h₀ L h' ((q, ob) :: news) → (∀ p ∈ news, p.1 < q) → Q (.ref q) { s with heap := h' }) : wpAny (model prog w) A (newTuple [.str a ta, .str b tb]) Q E s := by
  refine kup_newTuple F N (fun D h' F' N' hlt => ?_) two_fits
  exact h D _ h' ⟨ta, tb, rfl⟩ F' N' hlt
theorem op_notin {prog : Program} {w : World} {A : Around} {E : Value → Shared → Prop} {s : Shared} {h₀ : Heap} {L L' d : Addr} {news news₀ : Led} {o : Obj} {kvs : List (Str × Value)} {op w1 w2 : Str} {t : Tok} {Q : Value → Shared → Prop}
    (ho : Op op w1 w2) (N : News h₀ L s.heap news) (hp : (d, o) ∈ news) (hd : o.IsDictOf (PySem.strKind prog w) kvs) (lo : (d == sysModules) = false) (_ : Under L' news₀) (hv : ∀ x ∈ opsL, OpAt kvs x.1 x.2.1 x.2.2.1 news news₀)
    (h : ∀ q ob, valueAt kvs op = some (.ref q) → (q, ob) ∈ news → Duo ob w1 w2 → AllLt q news₀ → Q (.bool false) { s with toks := s.toks + 1 }) :
    wpAny (model prog w) A (compareOp .NotIn (.str op t) (.ref d)) Q E s := by
  obtain ⟨tx, ho⟩ := ho
  obtain ⟨q, ob, e1, e2, e3, e4⟩ := hv _ ho
  exact kdg_notin (knd := PySem.strKind _ _) N hp hd lo (strKind_is _ _ _ _) true (by rw [e1]; rfl) (h q ob e1 e2 e3 e4)
theorem for12 {P : Str × Str × Str × Str → Prop} (h0 : P ("clear", "none", "none", "none none")) (h1 : P ("src", "all", "none", "all none")) (h2 : P ("dst", "none", "all", "none all")) (h3 : P ("over", "all", "rest", "all rest")) (h4 : P ("dst-over", "rest", "all", "rest all")) (h5 : P ("in", "other", "none", "other none")) (h6 : P ("dst-in", "none", "other", "none other")) (h7 : P ("out", "rest", "none", "rest none")) (h8 : P ("dst-out", "none", "rest", "none rest")) (h9 : P ("atop", "other", "rest", "other rest")) (h10 : P ("dst-atop", "rest", "other", "rest other")) (h11 : P ("xor", "rest", "rest", "rest rest")) : ∀ x ∈ opsL, P x := by
  unfold opsL
  simp only [List.forall_mem_cons]
  exact ⟨h0, h1, h2, h3, h4, h5, h6, h7, h8, h9, h10, h11, fun _ h => nomatch h⟩
end Mine
theorem Mine.words_11a : True := by
  k_with "eval Dict cons" => (
    k_here
    k_dflt (refine' kdn_str ?_ ?_ ?_ ?_ ?_ ?_ ?_ ?_ ?_; rotate_left 4; (· rfl); (· k_asm); (· k_asm); (· exact Top.nolimit (by k_asm)); (· rfl); (· rfl); (· exact List.cons_ne_nil _ _); (· exact Nat.le_of_ble_eq_true rfl))
    intro d' h' o' F' N' l1 lo' hd'
    (try k_lt l1))
  k_with "newTuple" => (
    k_here
    (with_reducible show wpAny _ _ (newTuple [Value.str _ _, Value.str _ _]) _ _ _)
    k_dflt (
      (refine' Mine.tup_strs ?_ ?_ ?_; rotate_left 4; (· k_asm); (· k_asm))
      intro q9 ob9 h9 hP9 F9 N9 l9
      (try k_lt l9)
      (try k_sweep)))
  k_with "compareOp NotIn str ref" => (
    k_here
    (with_reducible rename Mine.Op _ _ _ => hop9)
    k_dflt (refine' Mine.op_notin hop9 (by k_asm) (by k_mem) (by with_reducible assumption) (by with_reducible assumption) (by with_reducible assumption) ?_ ?_; (· refine Mine.for12 ?_ ?_ ?_ ?_ ?_ ?_ ?_ ?_ ?_ ?_ ?_ ?_ <;> (refine ⟨_, _, by rfl, by repeat (first | exact List.mem_cons_self .. | refine List.mem_cons_of_mem _ ?_), by with_reducible assumption, ?_⟩; first | exact by with_reducible assumption | exact And.right (by with_reducible assumption) | exact And.right (And.right (by with_reducible assumption)) | exact And.right (And.right (And.right (by with_reducible assumption))) | exact And.right (And.right (And.right (And.right (by with_reducible assumption)))) | exact And.right (And.right (And.right (And.right (And.right (by with_reducible assumption))))) | exact And.right (And.right (And.right (And.right (And.right (And.right (by with_reducible assumption)))))) | exact And.right (And.right (And.right (And.right (And.right (And.right (And.right (by with_reducible assumption))))))) | exact And.right (And.right (And.right (And.right (And.right (And.right (And.right (And.right (by with_reducible assumption)))))))) | exact And.right (And.right (And.right (And.right (And.right (And.right (And.right (And.right (And.right (by with_reducible assumption))))))))) | exact And.right (And.right (And.right (And.right (And.right (And.right (And.right (And.right (And.right (And.right (by with_reducible assumption)))))))))) | exact And.right (And.right (And.right (And.right (And.right (And.right (And.right (And.right (And.right (And.right (And.right (by with_reducible assumption))))))))))) | exact And.right (And.right (And.right (And.right (And.right (And.right (And.right (And.right (And.right (And.right (And.right (And.right (by with_reducible assumption)))))))))))) | exact And.right (And.right (And.right (And.right (And.right (And.right (And.right (And.right (And.right (And.right (And.right (And.right (And.right (by with_reducible assumption))))))))))))) | exact And.right (And.right (And.right (And.right (And.right (And.right (And.right (And.right (And.right (And.right (And.right (And.right (And.right (And.right (by with_reducible assumption)))))))))))))) | exact And.right (And.right (And.right (And.right (And.right (And.right (And.right (And.right (And.right (And.right (And.right (And.right (And.right (And.right (And.right (by with_reducible assumption))))))))))))))))))
    intro q9 ob9 hv9 hm9 hD9 hl9)
  k_with "subscriptTail Name Name ref str" => (
    k_here
    (with_reducible show wpAny _ _ (subscriptTail (Expr.Name (PySem.Str.ofString "table") _) _ _ _) _ _ _)
    k_dflt (
      refine' kdt_tail (knd := PySem.strKind _ _) (by k_asm) (by k_mem) (by with_reducible assumption) ?_ (by with_unfolding_all rfl)
      refine' kdt_getItem (knd := PySem.strKind _ _) (by k_asm) (by k_mem) (by with_reducible assumption) (by exact strKind_is _ _ _ _) (by with_reducible assumption) ?_))
  trivial
namespace Mine
section
variable {w : World} {p : Program} {loose : List Str} {mean : ExcName → Option Value} {mg mb : Str → Option Value}
theorem shares_ct (op w1 w2 : Str) (t0 : Tok) (news : Led) (hop : Op op w1 w2) :
    CtP PySem.Challenge.rw_pf0183_01.row.prog w p loose mean mg mb 82 1 [.str op t0] news (fun v tl => ∃ q o', v = .ref q ∧ tl = [(q, o')] ∧ Duo o' w1 w2) := by
  w_top off
  unfold CtP Ct
  k_fill
  intro dp un gd cn cs af ccd cl outer A₀ base h₀ L m s Q E B F X N T hk hd hu hret
  refine wpAny_call ?_
  k_dflt (refine' code_defC ?k1 ?k2 ?k3 ?k4 ?k5 ?kA ?kF ?kK ?k6 ?k7 ?k8 ?k9 ?kB ?kD ?_ ?c2 ?c3 ?c4; (case kA => exact rfl); (case kF => exact rfl); (case kK => assumption); (case k1 => k_asm); (case k2 => k_asm); (case k3 => k_asm); (case k4 => k_asm); (case k5 => k_asm); (case k6 => k_is); (case k7 => k_is); (case k8 => ktr_room); (case k9 => exact BindsTo.of_eq rfl); (case kB => exact rfl); (case kD => decide +kernel); (case c2 => exact rfl); (case c3 => exact rfl); (case c4 => exact rfl); k_whole; intro g' L' h' tk' cells' FG' F' N' Y' B' X' T' l1; (have hU9 := Mine.under_p l1); (try k_lt l1); (first | (have hY := Mine.cells_nil Y'; subst hY; clear Y') | k_cells Y'); (try simp only [List.cons_append, List.nil_append] at N'); (try dsimp only); (try k_lift B'); (try k_fold))
  k_steps
  all_goals (
    refine' hret _ ((_, _) :: news) _ _ (by k_asm) (cb_drop (by k_asm) ?sub) ⟨[(_, _)], ⟨_, _, rfl, rfl, ?tri⟩, rfl, ?ord⟩
    case sub => exact List.forall_mem_cons.mpr ⟨by first | with_reducible assumption | kcj_m, fun b hb => by repeat (first | exact hb | refine List.mem_cons_of_mem _ ?_)⟩
    case tri => with_reducible assumption
    case ord => first | exact ordl_of (by assumption) | refine ordl_of ?_; first | exact by with_reducible assumption | exact And.right (by with_reducible assumption) | exact And.right (And.right (by with_reducible assumption)) | exact And.right (And.right (And.right (by with_reducible assumption))) | exact And.right (And.right (And.right (And.right (by with_reducible assumption)))) | exact And.right (And.right (And.right (And.right (And.right (by with_reducible assumption))))) | exact And.right (And.right (And.right (And.right (And.right (And.right (by with_reducible assumption)))))) | exact And.right (And.right (And.right (And.right (And.right (And.right (And.right (by with_reducible assumption))))))) | exact And.right (And.right (And.right (And.right (And.right (And.right (And.right (And.right (by with_reducible assumption)))))))) | exact And.right (And.right (And.right (And.right (And.right (And.right (And.right (And.right (And.right (by with_reducible assumption))))))))) | exact And.right (And.right (And.right (And.right (And.right (And.right (And.right (And.right (And.right (And.right (by with_reducible assumption)))))))))) | exact And.right (And.right (And.right (And.right (And.right (And.right (And.right (And.right (And.right (And.right (And.right (by with_reducible assumption))))))))))) | exact And.right (And.right (And.right (And.right (And.right (And.right (And.right (And.right (And.right (And.right (And.right (And.right (by with_reducible assumption)))))))))))) | exact And.right (And.right (And.right (And.right (And.right (And.right (And.right (And.right (And.right (And.right (And.right (And.right (And.right (by with_reducible assumption))))))))))))) | exact And.right (And.right (And.right (And.right (And.right (And.right (And.right (And.right (And.right (And.right (And.right (And.right (And.right (And.right (by with_reducible assumption)))))))))))))) | exact And.right (And.right (And.right (And.right (And.right (And.right (And.right (And.right (And.right (And.right (And.right (And.right (And.right (And.right (And.right (by with_reducible assumption))))))))))))))))
end
def Word (word : Str) : Prop := word = "none" ∨ word = "all" ∨ word = "other" ∨ word = "rest"
theorem ops_ok : ∀ x ∈ opsL, ((x.2.1 = "none" ∨ x.2.1 = "all" ∨ x.2.1 = "other" ∨ x.2.1 = "rest") ∧ (x.2.2.1 = "none" ∨ x.2.2.1 = "all" ∨ x.2.2.1 = "other" ∨ x.2.2.1 = "rest")) ∧ (x.1 == Str.ofString "plus") = false := by decide +kernel
theorem op_words {op w1 w2 : Str} (h : Op op w1 w2) : Word w1 ∧ Word w2 := by
  obtain ⟨t, h⟩ := h
  exact (ops_ok _ h).1
theorem op_plus {op w1 w2 : Str} (h : Op op w1 w2) : (op == Str.ofString "plus") = false := by
  obtain ⟨t, h⟩ := h
  exact (ops_ok _ h).2
theorem shv_bd {word : Str} {a : Int} (ha : 0 ≤ a ∧ a ≤ 255) : 0 ≤ shv word a ∧ shv word a ≤ 255 := by
  unfold shv
  split
  · omega
  · split
    · omega
    · split <;> omega
end Mine
theorem Mine.words_11b : True := by
  k_with "call ref" => (
    k_here
    (with_reducible show wpAny _ _ (call (Value.ref 82) _) _ _ _)
    k_dflt (
      refine' Mine.CtP.obj (by k_asm) (by k_asm) (by k_asm) (by k_asm) (by k_asm) (by first | exact rfl | assumption) (by first | exact Mine.room1 (by with_reducible assumption) (by decide) | ktr_room) (by first | exact Mine.units1 (by with_reducible assumption) (by decide) | ktr_units) (Mine.shares_ct _ _ _ _ _ (by with_reducible assumption)) ?_
      intro q9 ob9 h9 tk9 hP9 F9 N9 l9
      obtain ⟨t8, t9, eo9⟩ := hP9
      subst eo9
      (try k_lt l9)
      (try dsimp only)
      (try k_fold)
      (try k_sweep)))
  trivial
namespace Mine
open LCg
def pl (a b : Int) : Int := if 255 < a + b then 255 else a + b
theorem pl_eq {a b : Int} : pl a b = if a + b < 255 then a + b else 255 := by
  unfold pl
  split <;> split <;> omega
theorem all_at {l : List Int} {v : Int} (h : ∀ n ∈ l, 0 ≤ n ∧ n ≤ 255) (hv : v ∈ l) : 0 ≤ v ∧ v ≤ 255 := h v hv
def Dim2 (_ _ : Int) : Prop := True
section
variable {prog : Program} {w : World} {A : Around} {E : Value → Shared → Prop} {s : Shared} {h₀ : Heap} {L : Addr} {m : Str → Option Value} {env : Env}
theorem src_zipMx {x1 x2 : Int} {l1 l2 : Addr} {o1 o2 : Obj} {as bs : List Int} {a b : Str} {pa pb tp : Pos} {kk : Nat} {elt : PySem.Expr} {scope : Scope} {cl : List (Str × Addr)} {news : Led} {Q : Value → Shared → Prop} (_ : Dim2 x1 x2)
    (hh : A.handled = none) (F : Fr h₀ L s.heap m) (N : News h₀ L s.heap news) (hm1 : (l1, o1) ∈ news) (hm2 : (l2, o2) ∈ news) (ht1 : TupI o1 as) (ht2 : TupI o2 bs)
    (hkind : scope.kind = .function) (ha : scope.names.lookup a = some .local) (hb : scope.names.lookup b = some .local) (hab : ¬ a = b) (hsz : as.length ≤ 256)
    (turn : ∀ g b0 v1 v2 t1 t2 ys own C oC D m₂ h tk (E' : Value → Shared → Prop), v1 ∈ as → v2 ∈ bs → m₂ a = some (.int v1 t1) → m₂ b = some (.int v2 t2) → NsObj oC m₂ → Fr h₀ L h m → News h₀ L h ((C, oC) :: (D, lst ys) :: (news ++ own)) → AllLt b0 news → Over b0 own → (∀ b ∈ own, @LT.lt Nat _ b.1 D) → @LE.le Nat _ b0 D → @LT.lt Nat _ D C →
      wpAny (model prog w) A (eval elt (compEnvC scope cl C env)) (TEnd h₀ L m { { s with heap := g } with heap := h, toks := tk } own b0 C oC D (lst ys) [(l1, o1), (l2, o2)] (fun y news' => Int1 ((fun a b => mx a x1 b x2) v1 v2) news y news')) E' { { s with heap := g } with heap := h, toks := tk })
    (fin : ∀ D h tk ys, Fr h₀ L h m → News h₀ L h ((D, lst ys) :: news) → AllLt D news → IntsAre ys (List.zipWith (fun a b => mx a x1 b x2) as bs) → Q (.ref D) { s with heap := h, toks := tk }) :
    wpAny (model prog w) A (call (.type "zip") [.ref l1, .ref l2]) (fun xv s₁ => wpAny (model prog w) A (pyIter xv) (CSrc prog w A h₀ L m env (.Tuple [.Name a pa, .Name b pb] kk tp) [] elt scope cl Q) E s₁) E s := src_zipM _ hh F N hm1 hm2 ht1 ht2 hkind ha hb hab hsz turn fin
end
end Mine
theorem Mine.words_12a : True := by
  k_with "call type:zip" => (
    k_here
    (with_reducible show wpAny _ _ (call (Value.type _) [Value.ref _, Value.ref _]) (fun xv s₁ => wpAny _ _ (pyIter xv) (Mine.CSrc _ _ _ _ _ _ _ _ [] (Expr.Call _ [_, _, _, _] _ _) _ _ _) _ _) _ _)
    k_dflt (
      refine' Mine.src_zipMx (by with_reducible assumption) (by exact rfl) (by k_asm) (by k_asm) (by k_mem) (by k_mem) (by with_reducible assumption) (by with_reducible assumption) (by exact rfl) (by exact rfl) (by exact rfl) (by decide) (by k_extra "len") ?_ ?_
      rotate_left
      intro D' h' tk' ys' F' N' hlt' hI'
      (try simp only [AllLt, and_true] at hlt')
      (try dsimp only)
      rotate_left
      intro g' b0' v1' v2' t1' t2' ys' own' C' oC' D' m' h' tk' E' ha' hb' hx' hy' hC' F' N' hlt' hov' hoD' hbD' hDC'
      (try simp only [AllLt, and_true] at hlt')
      (try simp only [List.cons_append, List.nil_append] at N')
      (have hb1 := Mine.all_at (by assumption) ha')
      (have hb2 := Mine.all_at (by assumption) hb')
      walk_say "A ZIP's TURNS"))
  k_with "call type:zip" => (
    k_here
    (with_reducible show wpAny _ _ (call (Value.type _) [Value.ref _, Value.ref _]) (fun xv s₁ => wpAny _ _ (pyIter xv) (Mine.CSrc _ _ _ _ _ _ _ _ [] (Expr.Call _ [_, _] _ _) _ _ _) _ _) _ _)
    k_dflt (
      refine' Mine.src_zipM Mine.pl (by exact rfl) (by k_asm) (by k_asm) (by k_mem) (by k_mem) (by with_reducible assumption) (by with_reducible assumption) (by exact rfl) (by exact rfl) (by exact rfl) (by decide) (by k_extra "len") ?_ ?_
      rotate_left
      intro D' h' tk' ys' F' N' hlt' hI'
      (try simp only [AllLt, and_true] at hlt')
      (try dsimp only)
      rotate_left
      intro g' b0' v1' v2' t1' t2' ys' own' C' oC' D' m' h' tk' E' ha' hb' hx' hy' hC' F' N' hlt' hov' hoD' hbD' hDC'
      (try simp only [AllLt, and_true] at hlt')
      (try simp only [List.cons_append, List.nil_append] at N')
      walk_say "A ZIP's TURNS"))
  k_with "Int1" => (
    first | exact ⟨⟨_, by with_unfolding_all rfl⟩, rfl⟩ | exact ⟨⟨_, by rw [Mine.pl_eq]⟩, rfl⟩)
  trivial
namespace Mine
section
variable {w : World} {p : Program} {loose : List Str} {mean : ExcName → Option Value} {mg mb : Str → Option Value}
theorem composed_ct (op w1 w2 : Str) (c d : Addr) (oc od : Obj) (ps qs : List Int) (al be : Int) (t0 : Tok) (news : Led) (hop : Op op w1 w2)
    (hm : (c, oc) ∈ news) (hc : TupI oc (ps ++ [al])) (hm' : (d, od) ∈ news) (hd' : TupI od (qs ++ [be])) (h3 : ps.length = 3) (h3' : qs.length = 3)
    (hA : ∀ n ∈ ps ++ [al], 0 ≤ n ∧ n ≤ 255) (hB : ∀ n ∈ qs ++ [be], 0 ≤ n ∧ n ≤ 255) (ha : 0 ≤ al ∧ al ≤ 255) (hb : 0 ≤ be ∧ be ≤ 255) :
    CtP PySem.Challenge.rw_pf0183_01.row.prog w p loose mean mg mb 101 2 [.str op t0, .ref c, .ref d] news (fun v tl => ∃ q o', v = .ref q ∧ tl = [(q, o')] ∧ TupI o' (List.zipWith (fun a b => mx a (shv w1 be) b (shv w2 al)) (ps ++ [al]) (qs ++ [be]))) := by
  have hpl := op_plus hop
  obtain ⟨hw1, hw2⟩ := op_words hop
  unfold Word at hw1 hw2
  have hf := shv_bd (word := w1) hb
  have hs := shv_bd (word := w2) ha
  have hD9 : Dim2 (shv w1 be) (shv w2 al) := trivial
  w_top off
  unfold CtP Ct
  k_fill
  intro dp un gd cn cs af ccd cl outer A₀ base h₀ L m s Q E B F X N T hk hd hu hret
  refine wpAny_call ?_
  k_dflt (refine' code_defC ?k1 ?k2 ?k3 ?k4 ?k5 ?kA ?kF ?kK ?k6 ?k7 ?k8 ?k9 ?kB ?kD ?_ ?c2 ?c3 ?c4; (case kA => exact rfl); (case kF => exact rfl); (case kK => assumption); (case k1 => k_asm); (case k2 => k_asm); (case k3 => k_asm); (case k4 => k_asm); (case k5 => k_asm); (case k6 => k_is); (case k7 => k_is); (case k8 => ktr_room); (case k9 => exact BindsTo.of_eq rfl); (case kB => exact rfl); (case kD => decide +kernel); (case c2 => exact rfl); (case c3 => exact rfl); (case c4 => exact rfl); k_whole; intro g' L' h' tk' cells' FG' F' N' Y' B' X' T' l1; (have hU9 := Mine.under_p l1); (try k_lt l1); (first | (have hY := Mine.cells_nil Y'; subst hY; clear Y') | k_cells Y'); (try simp only [List.cons_append, List.nil_append] at N'); (try dsimp only); (try k_lift B'); (try k_fold))
  k_steps
  all_goals (
    refine' hret _ ((_, _) :: news) _ _ (by k_asm) (cb_drop (by k_asm) ?sub) ⟨[(_, _)], ⟨_, _, rfl, rfl, by assumption⟩, rfl, ?ord⟩
    case sub => exact List.forall_mem_cons.mpr ⟨by kcj_m, fun b hb => by repeat (first | exact hb | refine List.mem_cons_of_mem _ ?_)⟩
    case ord => first | exact ordp_of hU9 (by omega) | (refine ordl_of ?_; first | exact by with_reducible assumption | exact And.right (by with_reducible assumption) | exact And.right (And.right (by with_reducible assumption)) | exact And.right (And.right (And.right (by with_reducible assumption))) | exact And.right (And.right (And.right (And.right (by with_reducible assumption)))) | exact And.right (And.right (And.right (And.right (And.right (by with_reducible assumption))))) | exact And.right (And.right (And.right (And.right (And.right (And.right (by with_reducible assumption)))))) | exact And.right (And.right (And.right (And.right (And.right (And.right (And.right (by with_reducible assumption))))))) | exact And.right (And.right (And.right (And.right (And.right (And.right (And.right (And.right (by with_reducible assumption)))))))) | exact And.right (And.right (And.right (And.right (And.right (And.right (And.right (And.right (And.right (by with_reducible assumption))))))))) | exact And.right (And.right (And.right (And.right (And.right (And.right (And.right (And.right (And.right (And.right (by with_reducible assumption)))))))))) | exact And.right (And.right (And.right (And.right (And.right (And.right (And.right (And.right (And.right (And.right (And.right (by with_reducible assumption))))))))))) | exact And.right (And.right (And.right (And.right (And.right (And.right (And.right (And.right (And.right (And.right (And.right (And.right (by with_reducible assumption)))))))))))) | exact And.right (And.right (And.right (And.right (And.right (And.right (And.right (And.right (And.right (And.right (And.right (And.right (And.right (by with_reducible assumption))))))))))))) | exact And.right (And.right (And.right (And.right (And.right (And.right (And.right (And.right (And.right (And.right (And.right (And.right (And.right (And.right (by with_reducible assumption)))))))))))))) | exact And.right (And.right (And.right (And.right (And.right (And.right (And.right (And.right (And.right (And.right (And.right (And.right (And.right (And.right (And.right (by with_reducible assumption)))))))))))))))))
theorem plus_ct (c d : Addr) (oc od : Obj) (as bs : List Int) (t0 : Tok) (news : Led)
    (hm : (c, oc) ∈ news) (hc : TupI oc as) (hm' : (d, od) ∈ news) (hd' : TupI od bs) (hz : as.length ≤ 256) (hz' : bs.length = as.length) :
    CtP PySem.Challenge.rw_pf0183_01.row.prog w p loose mean mg mb 101 2 [.str (Str.ofString "plus") t0, .ref c, .ref d] news (fun v tl => ∃ q o', v = .ref q ∧ tl = [(q, o')] ∧ TupI o' (List.zipWith pl as bs)) := by
  w_top off
  unfold CtP Ct
  k_fill
  intro dp un gd cn cs af ccd cl outer A₀ base h₀ L m s Q E B F X N T hk hd hu hret
  refine wpAny_call ?_
  k_dflt (refine' code_defC ?k1 ?k2 ?k3 ?k4 ?k5 ?kA ?kF ?kK ?k6 ?k7 ?k8 ?k9 ?kB ?kD ?_ ?c2 ?c3 ?c4; (case kA => exact rfl); (case kF => exact rfl); (case kK => assumption); (case k1 => k_asm); (case k2 => k_asm); (case k3 => k_asm); (case k4 => k_asm); (case k5 => k_asm); (case k6 => k_is); (case k7 => k_is); (case k8 => ktr_room); (case k9 => exact BindsTo.of_eq rfl); (case kB => exact rfl); (case kD => decide +kernel); (case c2 => exact rfl); (case c3 => exact rfl); (case c4 => exact rfl); k_whole; intro g' L' h' tk' cells' FG' F' N' Y' B' X' T' l1; (have hU9 := Mine.under_p l1); (try k_lt l1); (first | (have hY := Mine.cells_nil Y'; subst hY; clear Y') | k_cells Y'); (try simp only [List.cons_append, List.nil_append] at N'); (try dsimp only); (try k_lift B'); (try k_fold))
  k_steps
  all_goals (
    refine' hret _ ((_, _) :: news) _ _ (by k_asm) (cb_drop (by k_asm) ?sub) ⟨[(_, _)], ⟨_, _, rfl, rfl, by assumption⟩, rfl, ?ord⟩
    case sub => exact List.forall_mem_cons.mpr ⟨by kcj_m, fun b hb => by repeat (first | exact hb | refine List.mem_cons_of_mem _ ?_)⟩
    case ord => first | exact ordp_of hU9 (by omega) | (refine ordl_of ?_; first | exact by with_reducible assumption | exact And.right (by with_reducible assumption) | exact And.right (And.right (by with_reducible assumption)) | exact And.right (And.right (And.right (by with_reducible assumption))) | exact And.right (And.right (And.right (And.right (by with_reducible assumption)))) | exact And.right (And.right (And.right (And.right (And.right (by with_reducible assumption))))) | exact And.right (And.right (And.right (And.right (And.right (And.right (by with_reducible assumption)))))) | exact And.right (And.right (And.right (And.right (And.right (And.right (And.right (by with_reducible assumption))))))) | exact And.right (And.right (And.right (And.right (And.right (And.right (And.right (And.right (by with_reducible assumption)))))))) | exact And.right (And.right (And.right (And.right (And.right (And.right (And.right (And.right (And.right (by with_reducible assumption))))))))) | exact And.right (And.right (And.right (And.right (And.right (And.right (And.right (And.right (And.right (And.right (by with_reducible assumption)))))))))) | exact And.right (And.right (And.right (And.right (And.right (And.right (And.right (And.right (And.right (And.right (And.right (by with_reducible assumption))))))))))) | exact And.right (And.right (And.right (And.right (And.right (And.right (And.right (And.right (And.right (And.right (And.right (And.right (by with_reducible assumption)))))))))))) | exact And.right (And.right (And.right (And.right (And.right (And.right (And.right (And.right (And.right (And.right (And.right (And.right (And.right (by with_reducible assumption))))))))))))) | exact And.right (And.right (And.right (And.right (And.right (And.right (And.right (And.right (And.right (And.right (And.right (And.right (And.right (And.right (by with_reducible assumption)))))))))))))) | exact And.right (And.right (And.right (And.right (And.right (And.right (And.right (And.right (And.right (And.right (And.right (And.right (And.right (And.right (And.right (by with_reducible assumption)))))))))))))))))
end
end Mine
theorem Mine.words_12b : True := by
  k_with "call ref" => (
    k_here
    (with_reducible show wpAny _ _ (call (Value.ref 101) _) _ _ _)
    k_dflt (
      refine' Mine.CtP.obj (by k_asm) (by k_asm) (by k_asm) (by k_asm) (by k_asm) (by first | exact rfl | assumption) (by first | exact Mine.room1 (by with_reducible assumption) (by decide) | ktr_room) (by first | exact Mine.units1 (by with_reducible assumption) (by decide) | ktr_units) (Mine.composed_ct _ _ _ _ _ _ _ _ _ _ _ _ _ (by with_reducible assumption) (by k_mem) (by with_reducible assumption) (by k_mem) (by with_reducible assumption) (by with_reducible assumption) (by with_reducible assumption) (by k_extra "bounds") (by k_extra "bounds") (by with_reducible assumption) (by with_reducible assumption)) ?_
      intro q9 ob9 h9 tk9 hP9 F9 N9 l9
      (try k_lt l9)
      (try dsimp only)
      (try k_fold)
      (try k_sweep)))
  k_with "call ref" => (
    k_here
    (with_reducible show wpAny _ _ (call (Value.ref 101) _) _ _ _)
    k_dflt (
      refine' Mine.CtP.obj (by k_asm) (by k_asm) (by k_asm) (by k_asm) (by k_asm) (by first | exact rfl | assumption) (by first | exact Mine.room1 (by with_reducible assumption) (by decide) | ktr_room) (by first | exact Mine.units1 (by with_reducible assumption) (by decide) | ktr_units) (Mine.plus_ct _ _ _ _ _ _ _ _ (by k_mem) (by with_reducible assumption) (by k_mem) (by with_reducible assumption) (by k_extra "len") (by k_extra "len")) ?_
      intro q9 ob9 h9 tk9 hP9 F9 N9 l9
      (try k_lt l9)
      (try dsimp only)
      (try k_fold)
      (try k_sweep)))
  trivial
namespace Mine
open LCg
section
variable {prog : Program} {w : World} {A : Around} {E : Value → Shared → Prop} {s : Shared} {env : Env} {h₀ : Heap} {target : PySem.Expr} {body : List Stmt} {Q : Flow → Shared → Prop}

def SEnd (h₀ : Heap) (L : Addr) (s₁ : Shared) (own : Led) (b0 : Addr) (srcs : Led) (J' : (Str → Option Value) → Led → Prop) (s₂ : Shared) : Prop :=
  ∃ h' tk m' news', s₂ = { s₁ with heap := h', toks := tk } ∧ Fr h₀ L h' m' ∧ News h₀ L h' (news' ++ own) ∧ AllLt b0 news' ∧ SrcIn h₀ srcs news' ∧ J' m' news'
def SPost (h₀ : Heap) (L : Addr) (s₁ : Shared) (own : Led) (b0 : Addr) (srcs : Led) (J' : (Str → Option Value) → Led → Prop) (Q : Flow → Shared → Prop) (f : Flow) (s₂ : Shared) : Prop :=
  match f with
  | .ret v => Q (.ret v) s₂
  | .brk => Q .next s₂
  | _ => SEnd h₀ L s₁ own b0 srcs J' s₂
def SStep (prog : Program) (w : World) (A : Around) (E : Value → Shared → Prop) (h₀ : Heap) (env : Env) (target : PySem.Expr) (body : List Stmt) (Q : Flow → Shared → Prop) (s : Shared) (b0 : Addr) (srcs : Led) (Pi : Value → Heap → Prop) (J' : (Str → Option Value) → Led → Prop) (m : Str → Option Value) (news : Led) : Prop :=
  ∀ own v h tk, Pi v h → Fr h₀ env.locals h m → News h₀ env.locals h (news ++ own) → AllLt b0 news → Over b0 own →
    wpAny (model prog w) A (assign target env v) (fun _ s₂ => wpAny (model prog w) A (execs body env) (SPost h₀ env.locals { s with heap := h, toks := tk } own b0 srcs J' Q) E s₂) E { s with heap := h, toks := tk }

theorem sturns_core {I b0 : Addr} {wr : List Addr} {srcs : Led} {n : Nat} {P Md : Nat → Value → Heap → Prop} {St : Nat → Heap → Prop} {m₀ : Str → Option Value} {news : Led} {hp : Heap} {tk0 : Nat}
    (W : KTurns prog w A target I (wr ++ srcs.map (·.1)) wr n P Md St)
    (hwr : ∀ b ∈ wr, @LE.le Nat _ b0 b) (hwr0 : ∀ b ∈ wr, h₀.get? b = none) (hLw : env.locals ∉ wr ++ srcs.map (·.1)) (hst : St 0 hp) (F : Fr h₀ env.locals hp m₀) (N : News h₀ env.locals hp news) (hlt : AllLt b0 news) (hS : SrcIn h₀ srcs news)
    (J : Nat → (Str → Option Value) → Led → Prop) (hJ0 : J 0 m₀ news)
    (step : ∀ i m news, i < n → J i m news → SrcIn h₀ srcs news → SStep prog w A E h₀ env target body Q s b0 srcs (P i) (J (i + 1)) m news)
    (fin : ∀ h tk m' news', Fr h₀ env.locals h m' → News h₀ env.locals h news' → AllLt b0 news' → J n m' news' → Q .next { s with heap := h, toks := tk }) :
    TurnsAt prog w A h₀ env target body Q E (.ref I) { s with heap := hp, toks := tk0 } := by
  have off : ∀ l : Led, AllLt b0 l → ∀ p ∈ l, p.1 ∉ wr := fun l hl p hp h => Nat.lt_irrefl _ (Nat.lt_of_lt_of_le (allLt_out hl p hp) (hwr _ h))
  refine ⟨I, wr ++ srcs.map (·.1), wr, n, P, Md, St, m₀, news, fun i m₁ news₁ => AllLt b0 news₁ ∧ SrcIn h₀ srcs news₁ ∧ J i m₁ news₁, rfl, W, hLw, hwr0, off news hlt, hst, F, N, ⟨hlt, hS, hJ0⟩, ?_, ?_⟩
  · rintro i v m₁ news₁ h₁ tk₁ own hin hPi ⟨hlt₁, hS₁, hJ₁⟩ hoff hown hget hall hst₁ F₁ N₁
    have hLw' : env.locals ∉ wr := fun h => hLw (List.mem_append_left _ h)
    have Nown : News h₀ env.locals h₁ (PyProof.Rows.ownOf h₀ wr h₁) := news_ownOf hLw'
    have N₂ : News h₀ env.locals h₁ (news₁ ++ PyProof.Rows.ownOf h₀ wr h₁) := fun p hp => by
      rcases List.mem_append.mp hp with hp | hp
      · exact N₁ _ (List.mem_append_right _ hp)
      · exact Nown p hp
    have fin' : ∀ s₃, SEnd h₀ env.locals { s with heap := h₁, toks := tk₁ } (PyProof.Rows.ownOf h₀ wr h₁) b0 srcs (J (i + 1)) s₃ →
        LoopStepU h₀ env.locals wr own (fun m₁ news₁ => AllLt b0 news₁ ∧ SrcIn h₀ srcs news₁ ∧ J (i + 1) m₁ news₁) { s with heap := h₁, toks := tk₁ } .next s₃ := by
      rintro s₃ ⟨h', tk, m', news', e, F', N', hlt', hS', hJ'⟩
      refine ⟨rfl, h', tk, m', news', e, F', ?_, off news' hlt', hlt', hS', hJ'⟩
      intro p hp
      rcases List.mem_append.mp hp with hp | hp
      · have h2 : h₁.get? p.1 = some p.2 := hget _ hp
        rcases List.mem_append.mp (hown _ hp) with h3 | h3
        · exact N' _ (List.mem_append_right _ (mem_ownOf h3 (hwr0 _ h3) h2))
        · obtain ⟨q, hq, e1⟩ := List.mem_map.mp h3
          have np := N₁ p (List.mem_append_left _ hp)
          have hq2 : q.2 = p.2 := by
            rcases hS₁ q hq with a | a
            · have := (N₁ q (List.mem_append_right _ a)).1
              rw [e1, h2] at this
              exact (Option.some.inj this).symm
            · rw [e1, np.2.2] at a
              cases a
          have hqp : q = p := Prod.ext e1 hq2
          subst hqp
          rcases hS' q hq with a | a
          · exact N' _ (List.mem_append_left _ a)
          · rw [np.2.2] at a
            cases a
      · exact N' _ (List.mem_append_left _ hp)
    refine wpAny_mono (step i m₁ news₁ hin hJ₁ hS₁ _ v h₁ tk₁ hPi F₁ N₂ hlt₁ fun b hb => hwr _ (ownOf_sub b hb)) (fun _ s₂ h₂ => wpAny_mono h₂ (fun f s₃ p => ?_) fun _ _ e => e) fun _ _ e => e
    cases f with
    | ret v => exact .ret p
    | brk => exact .brk p
    | next => exact .next (fin' _ p)
    | cont => exact .cont (fin' _ p)
  · rintro h' tk m' news' F' N' _ ⟨hlt', _, hJ'⟩
    exact fin h' tk m' news' F' N' hlt' hJ'

def SRest (prog : Program) (w : World) (A : Around) (E : Value → Shared → Prop) (h₀ : Heap) (env : Env) (target : PySem.Expr) (body : List Stmt) (Q : Flow → Shared → Prop) (s : Shared) (b0 : Addr) (srcs : Led) (P : Nat → Value → Heap → Prop) : Nat → Nat → (Str → Option Value) → Led → Prop
  | 0, _, m, news => ∀ h tk, Fr h₀ env.locals h m → News h₀ env.locals h news → AllLt b0 news → Q .next { s with heap := h, toks := tk }
  | k + 1, i, m, news => SStep prog w A E h₀ env target body Q s b0 srcs (P i) (fun m' news' => SRest prog w A E h₀ env target body Q s b0 srcs P k (i + 1) m' news') m news
theorem SRest.zero {b0 : Addr} {srcs : Led} {P : Nat → Value → Heap → Prop} {i : Nat} {m : Str → Option Value} {news : Led}
    (h : ∀ h tk, Fr h₀ env.locals h m → News h₀ env.locals h news → AllLt b0 news → Q .next { s with heap := h, toks := tk }) : SRest prog w A E h₀ env target body Q s b0 srcs P 0 i m news := h
theorem SRest.succ {b0 : Addr} {srcs : Led} {P : Nat → Value → Heap → Prop} {k i : Nat} {m : Str → Option Value} {news : Led}
    (h : ∀ own v h tk, P i v h → Fr h₀ env.locals h m → News h₀ env.locals h (news ++ own) → AllLt b0 news → Over b0 own →
      wpAny (model prog w) A (assign target env v) (fun _ s₂ => wpAny (model prog w) A (execs body env) (SPost h₀ env.locals { s with heap := h, toks := tk } own b0 srcs (fun m' news' => SRest prog w A E h₀ env target body Q s b0 srcs P k (i + 1) m' news') Q) E s₂) E { s with heap := h, toks := tk }) :
    SRest prog w A E h₀ env target body Q s b0 srcs P (k + 1) i m news := h
theorem srest_step {b0 : Addr} {srcs : Led} {P : Nat → Value → Heap → Prop} {n : Nat} :
    ∀ i m news, i < n → SRest prog w A E h₀ env target body Q s b0 srcs P (n - i) i m news → SrcIn h₀ srcs news → SStep prog w A E h₀ env target body Q s b0 srcs (P i) (SRest prog w A E h₀ env target body Q s b0 srcs P (n - (i + 1)) (i + 1)) m news := by
  intro i m news hi h _
  obtain ⟨k, hk⟩ : ∃ k, n - i = k + 1 := ⟨n - i - 1, by omega⟩
  rw [hk] at h
  rw [show n - (i + 1) = k by omega]
  exact h
theorem SPost.next {L : Addr} {s₁ : Shared} {own : Led} {b0 : Addr} {srcs : Led} {J' : (Str → Option Value) → Led → Prop} {s₂ : Shared} (h : SEnd h₀ L s₁ own b0 srcs J' s₂) : SPost h₀ L s₁ own b0 srcs J' Q .next s₂ := h
theorem SPost.cont {L : Addr} {s₁ : Shared} {own : Led} {b0 : Addr} {srcs : Led} {J' : (Str → Option Value) → Led → Prop} {s₂ : Shared} (h : SEnd h₀ L s₁ own b0 srcs J' s₂) : SPost h₀ L s₁ own b0 srcs J' Q .cont s₂ := h
theorem SPost.ret {L : Addr} {s₁ : Shared} {own : Led} {b0 : Addr} {srcs : Led} {J' : (Str → Option Value) → Led → Prop} {s₂ : Shared} {v : Value} (h : Q (.ret v) s₂) : SPost h₀ L s₁ own b0 srcs J' Q (.ret v) s₂ := h
theorem SEnd.here {L : Addr} {s₁ : Shared} {own : Led} {b0 : Addr} {srcs : Led} {J' : (Str → Option Value) → Led → Prop} {h' : Heap} {tk : Nat} {m' : Str → Option Value} {all : Led} (news' : Led)
    (F : Fr h₀ L h' m') (N : News h₀ L h' all) (sub : ∀ b ∈ news' ++ own, b ∈ all) (hlt : AllLt b0 news') (hS : SrcIn h₀ srcs news') (r : J' m' news') : SEnd h₀ L s₁ own b0 srcs J' { s₁ with heap := h', toks := tk } :=
  ⟨h', tk, m', news', rfl, F, fun b hb => N b (sub b hb), hlt, hS, r⟩

/-- of the list and the tuple -/
theorem szip_lt {l1 l2 : Addr} {xs ys : List Value} {n1 n2 : Nat} {elts : List PySem.Expr} {kk : Nat} {pos : Pos} {m : Str → Option Value} {news : Led} {cnt : Nat}
    (hh : A.handled = none) (F : Fr h₀ env.locals s.heap m) (N : News h₀ env.locals s.heap news) (hm1 : (l1, listOf xs.toArray n1) ∈ news) (hm2 : (l2, ({ cls := .type "tuple", data := .seq ys.toArray n2 } : Obj)) ∈ news)
    (hcnt : min xs.length ys.length = cnt)
    (h : ∀ g b0, SRest prog w A E h₀ env (.Tuple elts kk pos) body Q { s with heap := g } b0 [(l1, listOf xs.toArray n1), (l2, { cls := .type "tuple", data := .seq ys.toArray n2 })] (fun i v h => ∃ T x y, v = .ref T ∧ IsTup h T #[x, y] ∧ xs[i]? = some x ∧ ys[i]? = some y) cnt 0 m news) :
    wpAny (model prog w) A (call (.type "zip") [.ref l1, .ref l2]) (fun xv s₁ => wpAny (model prog w) A (pyIter xv) (fun it s₂ => TurnsAt prog w A h₀ env (.Tuple elts kk pos) body Q E it s₂) E s₁) E s := by
  have hax1 := N _ hm1
  have hax2 := N _ hm2
  have hl1 : s.heap.IsList l1 xs.toArray := PySem.IsL.isList (n := n1) hax1.1
  have hl2 : s.heap.IsTuple l2 ys.toArray := ⟨_, hax2.1, rfl, n2, rfl⟩
  refine call_zip_lt hl1 hl2 fun g Z zs up => ?_
  refine wpAny_pyIter_zip Z.1 ?_
  have P : ZPos s.heap.objs.size [(⟨l1, xs.toArray, true⟩ : Cm), ⟨l2, ys.toArray, false⟩].length (s.heap.objs.size + 2) (s.heap.objs.size + 3) (s.heap.objs.size + 4) := ⟨rfl, rfl, rfl⟩
  have hn0 : ∀ b ∈ zwr s.heap.objs.size 2, h₀.get? b = none := fun b hb => by
    have := mem_zwr.mp hb
    cases e : h₀.get? b with
    | none => rfl
    | some o => exact absurd (Heap.lt_size (F.keep _ _ e)) (Nat.not_lt.mpr this.1)
  have W := walks_zip (prog := prog) (w := w) (A := A) (n := cnt) hh P (by show 0 < 2; omega) (by show 2 ≤ 8; omega)
    (fun c hc => by
      rcases List.mem_cons.mp hc with rfl | hc
      · show cnt ≤ xs.toArray.size; rw [List.size_toArray]; omega
      · rw [List.mem_singleton.mp hc]; show cnt ≤ ys.toArray.size; rw [List.size_toArray]; omega)
    (by
      rcases Nat.le_total xs.length ys.length with q | q
      · exact ⟨_, List.mem_cons_self .., by show xs.toArray.size ≤ cnt; rw [List.size_toArray]; omega⟩
      · exact ⟨_, List.mem_cons_of_mem _ (List.mem_cons_self ..), by show ys.toArray.size ≤ cnt; rw [List.size_toArray]; omega⟩)
    (fun c hc => by
      rcases List.mem_cons.mp hc with rfl | hc
      · exact Heap.lt_size hax1.1
      · rw [List.mem_singleton.mp hc]; exact Heap.lt_size hax2.1)
  refine sturns_core (s := { s with heap := g }) (hp := g) (b0 := s.heap.objs.size) (srcs := [(l1, listOf xs.toArray n1), (l2, { cls := .type "tuple", data := .seq ys.toArray n2 })]) (KTurns.ofWalksU W) (fun b hb => (mem_zwr.mp hb).1) hn0 ?_ Z (F.keeps up) (fun p hp => ⟨up _ _ (N p hp).1, (N p hp).2⟩) (allLt_in fun b hb => Heap.lt_size (N b hb).1) ?_
    (fun i => SRest prog w A E h₀ env (.Tuple elts kk pos) body Q { s with heap := g } s.heap.objs.size [(l1, listOf xs.toArray n1), (l2, { cls := .type "tuple", data := .seq ys.toArray n2 })] (fun i v h => ∃ T x y, v = .ref T ∧ IsTup h T #[x, y] ∧ xs[i]? = some x ∧ ys[i]? = some y) (cnt - i) i) (h _ _) ?_ ?_
  · intro hb
    rcases List.mem_append.mp hb with hb | hb
    · exact absurd F.ns.lt (Nat.not_lt.mpr (mem_zwr.mp hb).1)
    · have : env.locals = l1 ∨ env.locals = l2 := by simpa using hb
      rcases this with q | q
      · exact hax1.2.1 q.symm
      · exact hax2.2.1 q.symm
  · intro b hb
    rcases List.mem_cons.mp hb with rfl | hb
    · exact .inl hm1
    · rw [List.mem_singleton.mp hb]; exact .inl hm2
  · intro i m' news' hi hJ hS' own v h' tk hP
    refine srest_step i m' news' hi hJ hS' own v h' tk ?_
    obtain ⟨T, vals, rfl, rfl, hT⟩ := hP
    have hi1 : i < xs.length := by omega
    have hi2 : i < ys.length := by omega
    refine ⟨T, xs[i], ys[i], rfl, ?_, List.getElem?_eq_getElem hi1, List.getElem?_eq_getElem hi2⟩
    have e : ([(⟨l1, xs.toArray, true⟩ : Cm), ⟨l2, ys.toArray, false⟩].map fun c => c.xs.getD i .none).toArray = #[xs[i], ys[i]] := by
      simp [Array.getD, hi1, hi2]
    rw [e] at hT
    exact hT
  · intro h' tk m' news' F' N' hlt' hJ
    rw [Nat.sub_self] at hJ
    exact hJ h' tk F' N' hlt'

theorem over3_eq {m m' : Str → Option Value} (h : ∀ z, z ∉ ([Str.ofString "n", Str.ofString "one", Str.ofString "other"] : List Str) → m' z = m z) : ∃ p1 p2 p3 : Option Value, m' = (fun z => if z = Str.ofString "n" then p1 else if z = Str.ofString "one" then p2 else if z = Str.ofString "other" then p3 else m z) := by
  refine ⟨m' (Str.ofString "n"), m' (Str.ofString "one"), m' (Str.ofString "other"), funext fun z => ?_⟩
  by_cases h1 : z = Str.ofString "n"
  · simp only [if_pos h1]; rw [h1]
  by_cases h2 : z = Str.ofString "one"
  · simp only [if_neg h1, if_pos h2]; rw [h2]
  by_cases h3 : z = Str.ofString "other"
  · simp only [if_neg h1, if_neg h2, if_pos h3]; rw [h3]
  simp only [if_neg h1, if_neg h2, if_neg h3]
  exact h z (by simp [h1, h2, h3])
theorem szip_near {l1 l2 l3 : Addr} {o1 o2 o3 : Obj} {cs as bs : List Int} {elts : List PySem.Expr} {kk : Nat} {pos : Pos} {m : Str → Option Value} {news : Led} (T : Int → Int → Int → Prop)
    (hh : A.handled = none) (F : Fr h₀ env.locals s.heap m) (N : News h₀ env.locals s.heap news) (hm1 : (l1, o1) ∈ news) (hm2 : (l2, o2) ∈ news) (hm3 : (l3, o3) ∈ news)
    (ht1 : TupI o1 cs) (ht2 : TupI o2 as) (ht3 : TupI o3 bs) (hc2 : as.length = cs.length) (hc3 : bs.length = cs.length)
    (hT : ∀ (i : Nat) (n a b : Int), cs[i]? = some n → as[i]? = some a → bs[i]? = some b → T n a b)
    (turn : ∀ (b0 : Addr) (g : Heap) (own : Led) (D : Addr) (n a b : Int) (t1 t2 t3 : Tok) (p1 p2 p3 : Option Value) h tk, T n a b → IsTup h D #[.int n t1, .int a t2, .int b t3] → Fr h₀ env.locals h (fun z => if z = Str.ofString "n" then p1 else if z = Str.ofString "one" then p2 else if z = Str.ofString "other" then p3 else m z) → News h₀ env.locals h (news ++ own) → AllLt b0 news → Over b0 own →
      wpAny (model prog w) A (assign (.Tuple elts kk pos) env (.ref D)) (fun _ s₂ => wpAny (model prog w) A (execs body env) (SPost h₀ env.locals { { s with heap := g } with heap := h, toks := tk } own b0 [(l1, o1), (l2, o2), (l3, o3)] (fun m' news' => (∀ z, z ∉ ([Str.ofString "n", Str.ofString "one", Str.ofString "other"] : List Str) → m' z = m z) ∧ news' = news) Q) E s₂) E { { s with heap := g } with heap := h, toks := tk })
    (fin : ∀ h tk (p1 p2 p3 : Option Value), Fr h₀ env.locals h (fun z => if z = Str.ofString "n" then p1 else if z = Str.ofString "one" then p2 else if z = Str.ofString "other" then p3 else m z) → News h₀ env.locals h news → AllLt s.heap.objs.size news → Q .next { s with heap := h, toks := tk }) :
    wpAny (model prog w) A (call (.type "zip") [.ref l1, .ref l2, .ref l3]) (fun xv s₁ => wpAny (model prog w) A (pyIter xv) (fun it s₂ => TurnsAt prog w A h₀ env (.Tuple elts kk pos) body Q E it s₂) E s₁) E s := by
  obtain ⟨xs, rfl, hI1⟩ := ht1
  obtain ⟨ys, rfl, hI2⟩ := ht2
  obtain ⟨zs, rfl, hI3⟩ := ht3
  have e1 := hI1.length
  have e2 := hI2.length
  have e3 := hI3.length
  have hax1 := N _ hm1
  have hax2 := N _ hm2
  have hax3 := N _ hm3
  have hl1 : s.heap.IsTuple l1 xs.toArray := ⟨_, hax1.1, rfl, _, rfl⟩
  have hl2 : s.heap.IsTuple l2 ys.toArray := ⟨_, hax2.1, rfl, _, rfl⟩
  have hl3 : s.heap.IsTuple l3 zs.toArray := ⟨_, hax3.1, rfl, _, rfl⟩
  refine call_zip_ttt hl1 hl2 hl3 fun g Z zs' up => ?_
  refine wpAny_pyIter_zip Z.1 ?_
  have P : ZPos s.heap.objs.size [(⟨l1, xs.toArray, false⟩ : Cm), ⟨l2, ys.toArray, false⟩, ⟨l3, zs.toArray, false⟩].length (s.heap.objs.size + 3) (s.heap.objs.size + 4) (s.heap.objs.size + 5) := ⟨rfl, rfl, rfl⟩
  have hn0 : ∀ b ∈ zwr s.heap.objs.size 3, h₀.get? b = none := fun b hb => by
    have := mem_zwr.mp hb
    cases e : h₀.get? b with
    | none => rfl
    | some o => exact absurd (Heap.lt_size (F.keep _ _ e)) (Nat.not_lt.mpr this.1)
  have W := walks_zip (prog := prog) (w := w) (A := A) (n := cs.length) hh P (by show 0 < 3; omega) (by show 3 ≤ 8; omega)
    (fun c hc => by
      rcases List.mem_cons.mp hc with rfl | hc
      · show cs.length ≤ xs.toArray.size; rw [List.size_toArray]; omega
      · rcases List.mem_cons.mp hc with rfl | hc
        · show cs.length ≤ ys.toArray.size; rw [List.size_toArray]; omega
        · rw [List.mem_singleton.mp hc]; show cs.length ≤ zs.toArray.size; rw [List.size_toArray]; omega)
    ⟨_, List.mem_cons_self .., by show xs.toArray.size ≤ cs.length; rw [List.size_toArray]; omega⟩
    (fun c hc => by
      rcases List.mem_cons.mp hc with rfl | hc
      · exact Heap.lt_size hax1.1
      · rcases List.mem_cons.mp hc with rfl | hc
        · exact Heap.lt_size hax2.1
        · rw [List.mem_singleton.mp hc]; exact Heap.lt_size hax3.1)
  refine sturns_core (s := { s with heap := g }) (hp := g) (b0 := s.heap.objs.size) (srcs := [(l1, { cls := .type "tuple", data := .seq xs.toArray }), (l2, { cls := .type "tuple", data := .seq ys.toArray }), (l3, { cls := .type "tuple", data := .seq zs.toArray })]) (KTurns.ofWalksU W) (fun b hb => (mem_zwr.mp hb).1) hn0 ?_ Z (F.keeps up) (fun p hp => ⟨up _ _ (N p hp).1, (N p hp).2⟩) (allLt_in fun b hb => Heap.lt_size (N b hb).1) ?_
    (fun _ m' news' => (∀ z, z ∉ ([Str.ofString "n", Str.ofString "one", Str.ofString "other"] : List Str) → m' z = m z) ∧ news' = news) ⟨fun _ _ => rfl, rfl⟩ ?_ ?_
  · intro hb
    rcases List.mem_append.mp hb with hb | hb
    · exact absurd F.ns.lt (Nat.not_lt.mpr (mem_zwr.mp hb).1)
    · have : env.locals = l1 ∨ env.locals = l2 ∨ env.locals = l3 := by simpa using hb
      rcases this with q | q | q
      · exact hax1.2.1 q.symm
      · exact hax2.2.1 q.symm
      · exact hax3.2.1 q.symm
  · exact srcIn_cons hm1 (srcIn_cons hm2 (srcIn_cons hm3 srcIn_nil))
  · rintro i m' news' hi ⟨hm', rfl⟩ hS' own v h' tk hP F' N' hlt hov
    obtain ⟨T', vals, rfl, rfl, hT'⟩ := hP
    obtain ⟨p1, p2, p3, rfl⟩ := over3_eq hm'
    have hi1 : i < xs.length := by omega
    have hi2 : i < ys.length := by omega
    have hi3 : i < zs.length := by omega
    obtain ⟨v1, t1, g1, q1⟩ := ints_at hI1 (List.getElem?_eq_getElem hi1)
    obtain ⟨v2, t2, g2, q2⟩ := ints_at hI2 (List.getElem?_eq_getElem hi2)
    obtain ⟨v3, t3, g3, q3⟩ := ints_at hI3 (List.getElem?_eq_getElem hi3)
    have e : ([(⟨l1, xs.toArray, false⟩ : Cm), ⟨l2, ys.toArray, false⟩, ⟨l3, zs.toArray, false⟩].map fun c => c.xs.getD i .none).toArray = #[.int v1 t1, .int v2 t2, .int v3 t3] := by
      simp [Array.getD, hi1, hi2, hi3, q1, q2, q3]
    rw [e] at hT'
    exact turn _ g own T' v1 v2 v3 t1 t2 t3 p1 p2 p3 h' tk (hT i v1 v2 v3 g1 g2 g3) hT' F' N' hlt hov
  · rintro h' tk m' news' F' N' hlt' ⟨hm', rfl⟩
    obtain ⟨p1, p2, p3, rfl⟩ := over3_eq hm'
    exact fin h' tk p1 p2 p3 F' N' hlt'

/-- the keys of a dict, by what holds between the turns -/
theorem skeys {K : Type} [DecidableEq K] {knd : KeyKind prog w K} {d : Addr} {od : Obj} {kvs : List (K × Value)} {m : Str → Option Value} {news : Led}
    (hh : A.handled = none) (F : Fr h₀ env.locals s.heap m) (N : News h₀ env.locals s.heap news) (hm : (d, od) ∈ news) (hd : od.IsDictOf knd kvs) (lo : (d == sysModules) = false)
    (J : (Str → Option Value) → Led → Prop) (hJ0 : J m news)
    (step : ∀ (b0 : Addr) (g : Heap) (i : Nat) (k : K) (x : Value) (m : Str → Option Value) (news : Led), kvs[i]? = some (k, x) → J m news → (d, od) ∈ news → SStep prog w A E h₀ env target body Q { s with heap := g } b0 [(d, od)] (fun v _ => knd.is k v = true) J m news)
    (fin : ∀ g h tk m' news', Fr h₀ env.locals h m' → News h₀ env.locals h news' → J m' news' → Q .next { { s with heap := g } with heap := h, toks := tk }) :
    wpAny (model prog w) A (pyIter (.ref d)) (fun it s₂ => TurnsAt prog w A h₀ env target body Q E it s₂) E s := by
  have hax := N _ hm
  obtain ⟨ep, hat⟩ : ∃ ep, s.heap.DictAt knd d kvs ep := Heap.DictOf.dictAt (Heap.dictOf_iff.mpr ⟨od, hax.1, hd⟩)
  have hne : d ≠ s.heap.objs.size := Nat.ne_of_lt hat.lt_size
  refine wpAny_pyIter_dict lo hat ?_
  have fresh : h₀.get? s.heap.objs.size = none := by
    cases e : h₀.get? s.heap.objs.size with
    | none => rfl
    | some o => exact absurd (Heap.lt_size (F.keep _ _ e)) (Nat.lt_irrefl _)
  refine sturns_core (tk0 := s.toks) (wr := [s.heap.objs.size]) (srcs := [(d, od)]) (b0 := s.heap.objs.size) (KTurns.ofWalks (Walks.dictKeys (knd := knd) hh s.heap.objs.size d hne kvs ep) fun i v s Q E st q => letGo_keyiter st.1 q) ?_ ?_ ?_ ?_ (F.push _) (fun p hp => ⟨Heap.get?_push_of_some _ (N p hp).1, (N p hp).2⟩) (allLt_in fun b hb => Heap.lt_size (N b hb).1) ?_ (fun _ => J) hJ0 ?_ ?_
  · intro b hb
    rw [List.mem_singleton.mp hb]
    exact Nat.le_refl _
  · intro b hb
    rw [List.mem_singleton.mp hb]; exact fresh
  · intro hb
    have : env.locals = s.heap.objs.size ∨ env.locals = d := by simpa using hb
    rcases this with q | q
    · exact absurd F.ns.lt (q ▸ Nat.lt_irrefl _)
    · exact hax.2.1 q.symm
  · exact ⟨⟨_, Heap.get?_push_size _ rfl, rfl, rfl⟩, hat.push _⟩
  · intro b hb
    rw [List.mem_singleton.mp hb]; exact .inl hm
  · intro i m' news' hi hJ hS' own v h' tk hP F' N' hlt' hov'
    obtain ⟨k, x, hx, hk⟩ := hP
    have hd0 : (d, od) ∈ news' := by
      rcases hS' _ (List.mem_singleton.mpr rfl) with q | q
      · exact q
      · have := hax.2.2
        rw [this] at q
        cases q
    exact step _ _ i k x m' news' hx hJ hd0 own v h' tk hk F' N' hlt' hov'
  · intro h' tk m' news' F' N' _ hJ
    exact fin _ h' tk m' news' F' N' hJ
end
end Mine
theorem Mine.words_14a : True := by
  k_with "callWith builtin:dict.update cons" => (
    k_here
    (with_reducible refine' callWith_method1 ?_ ?_ ?_)
    rotate_left
    · rfl
    · rfl)
  k_with "getMethod ref" => (
    k_here
    (with_reducible show wpAny _ _ (getMethod (Value.ref _) (Str.ofString "update") _) _ _ _)
    k_dflt (
      refine' getMethod_tab_any (knd := PySem.strKind _ _) (enc := PyData.str) (id := "dict.update") rfl (by k_tabat) ?_))
  trivial
namespace Mine
def opsD : List (PyData × PyData) := [(PyData.str (Str.ofString "clear"), PyData.str (Str.ofString "none none")),
  (PyData.str (Str.ofString "src"), PyData.str (Str.ofString "all none")),
  (PyData.str (Str.ofString "dst"), PyData.str (Str.ofString "none all")),
  (PyData.str (Str.ofString "over"), PyData.str (Str.ofString "all rest")),
  (PyData.str (Str.ofString "dst-over"), PyData.str (Str.ofString "rest all")),
  (PyData.str (Str.ofString "in"), PyData.str (Str.ofString "other none")),
  (PyData.str (Str.ofString "dst-in"), PyData.str (Str.ofString "none other")),
  (PyData.str (Str.ofString "out"), PyData.str (Str.ofString "rest none")),
  (PyData.str (Str.ofString "dst-out"), PyData.str (Str.ofString "none rest")),
  (PyData.str (Str.ofString "atop"), PyData.str (Str.ofString "other rest")),
  (PyData.str (Str.ofString "dst-atop"), PyData.str (Str.ofString "rest other")),
  (PyData.str (Str.ofString "xor"), PyData.str (Str.ofString "rest rest"))]
def Tab (prog : Program) (w : World) (o : Obj) : Prop := ∃ kvs, o.IsDictOf (PySem.strKind prog w) kvs ∧ PyProof.V.FlatPairs PyData.str kvs opsD
section
variable {w : World} {p : Program} {loose : List Str} {mean : ExcName → Option Value} {mg mb : Str → Option Value}
theorem lshares_ct (news : Led) :
    CtP PySem.Challenge.rw_pf0183_01.row.prog w p loose mean mg mb 151 1 [] news (fun v tl => ∃ q o', v = .ref q ∧ tl = [(q, o')] ∧ (q == sysModules) = false ∧ Tab PySem.Challenge.rw_pf0183_01.row.prog w o') := by
  w_top off
  unfold CtP Ct
  k_fill
  intro dp un gd cn cs af ccd cl outer A₀ base h₀ L m s Q E B F X N T hk hd hu hret
  refine wpAny_call ?_
  k_dflt (refine' code_defC ?k1 ?k2 ?k3 ?k4 ?k5 ?kA ?kF ?kK ?k6 ?k7 ?k8 ?k9 ?kB ?kD ?_ ?c2 ?c3 ?c4; (case kA => exact rfl); (case kF => exact rfl); (case kK => assumption); (case k1 => k_asm); (case k2 => k_asm); (case k3 => k_asm); (case k4 => k_asm); (case k5 => k_asm); (case k6 => k_is); (case k7 => k_is); (case k8 => ktr_room); (case k9 => exact BindsTo.of_eq rfl); (case kB => exact rfl); (case kD => decide +kernel); (case c2 => exact rfl); (case c3 => exact rfl); (case c4 => exact rfl); k_whole; intro g' L' h' tk' cells' FG' F' N' Y' B' X' T' l1; (have hU9 := Mine.under_p l1); (try k_lt l1); (first | (have hY := Mine.cells_nil Y'; subst hY; clear Y') | k_cells Y'); (try simp only [List.cons_append, List.nil_append] at N'); (try dsimp only); (try k_lift B'); (try k_fold))
  k_steps
  all_goals (
    refine' hret _ ((_, _) :: news) _ _ (by k_asm) (cb_drop (by k_asm) ?sub) ⟨[(_, _)], ⟨_, _, rfl, rfl, by assumption, ⟨_, by assumption, by assumption⟩⟩, rfl, ?ord⟩
    case sub => exact List.forall_mem_cons.mpr ⟨by kcj_m, fun b hb => by repeat (first | exact hb | refine List.mem_cons_of_mem _ ?_)⟩
    case ord => exact fun b hb q hq => by rw [List.mem_singleton.mp hq]; exact (by assumption : ∀ p ∈ news, p.1 < _) b hb)
theorem lshares_use {news : Led} {dp un : Nat} {gd : Option (List Code)} {cn : Str} {cs : Scope} {af : Addr} {ccd : Value} {cl : List (Str × Addr)} {outer : List Env} {A₀ : Around} {base h₀ : Heap} {L : Addr} {m : Str → Option Value} {s : Shared} {Q E : Value → Shared → Prop} (B : Below A₀ base outer h₀) (F : Fr h₀ L s.heap m) (X : (Mine.hd.heap_39 w.params).In h₀) (N : News h₀ L s.heap news) (T : Top p loose mean mg mb h₀) (hk : cs.kind = .function) (hd : dp + 1 < recursionLimit) (hu : un + 8 * 1 < cLine)
    (ret : ∀ (q : Addr) (o' : Obj) (h' : Heap) (tk' : Nat), (q == sysModules) = false → Tab PySem.Challenge.rw_pf0183_01.row.prog w o' → Fr h₀ L h' m → News h₀ L h' ((q, o') :: news) → (∀ b ∈ news, b.1 < q) → Q (.ref q) { s with heap := h', toks := tk' }) : wpAny (model PySem.Challenge.rw_pf0183_01.row.prog w) (ktrTop dp un gd cn cs L af ccd cl outer) (call (.ref 151) []) Q E s :=
  Ct.use (lshares_ct news) B F X N T hk hd hu fun v news' h' tk' F' N' hR => by
    obtain ⟨tl, ⟨q, o', rfl, rfl, h1, h2⟩, rfl, hlt⟩ := hR
    exact ret q o' h' tk' h1 h2 F' N' fun b hb => hlt b hb _ (.head _)
end
end Mine
theorem Mine.words_14b : True := by
  k_with "call ref" => (
    k_here
    (with_reducible show wpAny _ _ (call (Value.ref 151) _) _ _ _)
    k_dflt (
      refine' Mine.lshares_use (by k_asm) (by k_asm) (by k_asm) (by k_asm) (by k_asm) (by first | exact rfl | assumption) (by first | exact Mine.room1 (by with_reducible assumption) (by decide) | ktr_room) (by first | exact Mine.units1 (by with_reducible assumption) (by decide) | ktr_units) ?_
      intro q9 ob9 h9 tk9 lo9 hT9 F9 N9 l9
      (try k_lt l9)
      (try dsimp only)
      (try k_fold)
      (try k_sweep)))
  trivial
namespace Mine
open LCg
theorem flat_str {v : Value} {x : Str} (h : PyProof.V.Flat v (.str x)) : ∃ t, v = .str x t := by
  have h := h {}
  cases h; exact ⟨_, rfl⟩
theorem flat_int {v : Value} {x : Int} (h : PyProof.V.Flat v (.int x)) : ∃ t, v = .int x t := by
  have h := h {}
  cases h; exact ⟨_, rfl⟩
theorem ops_look : opsL.map (fun x => PySem.Spec.lookup (.str x.1) opsD) = opsL.map (fun x => some (.str x.2.2.2)) := by rfl
theorem ops_text : ∀ x ∈ opsL, Txt.words x.2.2.2 = [x.2.1, x.2.2.1] ∧ x.2.2.2.length ≤ 20 := by decide +kernel
theorem key_op {i : Nat} {k : Str} {d : PyData} (h : opsD[i]? = some (PyData.str k, d)) : ∃ w1 w2 text, Op k w1 w2 ∧ d = .str text ∧ PySem.Spec.lookup (.str k) opsD = some (.str text) ∧ Txt.words text = [w1, w2] ∧ text.length + 2 ≤ sizeLine := by
  have hm := List.mem_of_getElem? h
  rw [show opsD = opsL.map (fun x => (PyData.str x.1, PyData.str x.2.2.2)) from rfl] at hm
  obtain ⟨x, hx, e⟩ := List.mem_map.mp hm
  injection e with e1 e2
  injection e1 with e1
  subst e1
  obtain ⟨ht, hl⟩ := ops_text x hx
  exact ⟨x.2.1, x.2.2.1, x.2.2.2, ⟨_, hx⟩, e2.symm, List.map_inj_left.mp ops_look x hx, ht, by rw [sizeLine_eq]; omega⟩
theorem sh_look {word : Str} {a : Int} (h : Word word) : PySem.Spec.lookup (.str word) [(PyData.str (Str.ofString "none"), PyData.int 0), (PyData.str (Str.ofString "all"), PyData.int 255), (PyData.str (Str.ofString "other"), PyData.int a), (PyData.str (Str.ofString "rest"), PyData.int (255 - a))] = some (.int (shv word a)) := by
  unfold Word at h
  rcases h with rfl | rfl | rfl | rfl <;> rfl
theorem keep_same {m : Str → Option Value} {names : List Str} : ∀ z, z ∉ names → m z = m z := fun _ _ => rfl
theorem keep_set {m m' : Str → Option Value} {names : List Str} {x : Str} {v : Option Value} (hx : x ∈ names) (h : ∀ z, z ∉ names → m' z = m z) : ∀ z, z ∉ names → (if z = x then v else m' z) = m z := fun z hz => by
  have hne : ¬ z = x := fun e => hz (by rw [e]; exact hx)
  rw [if_neg hne]
  exact h z hz
theorem allLt_cons {d : Addr} {p : Addr × Obj} {l : Led} (h : @LT.lt Nat _ p.1 d) (k : AllLt d l) : AllLt d (p :: l) := ⟨h, k⟩
section
variable {prog : Program} {w : World} {A : Around} {E : Value → Shared → Prop} {s : Shared} {env : Env} {h₀ : Heap} {body : List Stmt} {Q : Flow → Shared → Prop}
theorem SEnd.app {L : Addr} {s₁ : Shared} {own : Led} {b0 : Addr} {srcs : Led} {J' : (Str → Option Value) → Led → Prop} {h' : Heap} {tk : Nat} {m' : Str → Option Value} {l news' : Led}
    (F : Fr h₀ L h' m') (N : News h₀ L h' l) (hA : App l news' own) (hlt : AllLt b0 news') (hS : SrcIn h₀ srcs news') (r : J' m' news') : SEnd h₀ L s₁ own b0 srcs J' { s₁ with heap := h', toks := tk } := by
  have e : l = news' ++ own := hA
  subst e
  exact ⟨h', tk, m', news', rfl, F, N, hlt, hS, r⟩
theorem tab_at {L : Addr} {h : Heap} {d : Addr} {od : Obj} {l : Led} (N : News h₀ L h l) (hp : (d, od) ∈ l) (lo : (d == sysModules) = false) (hd : Tab prog w od) : TabAt (PySem.strKind prog w) PyData.str h d opsD := by
  obtain ⟨kvs, hk, hf⟩ := hd
  exact TabAt.ofNews N hp lo hk hf
theorem size_item {L : Addr} {d : Addr} {od : Obj} {l : Led} {kvs : List (Str × Value)} {value slice : PySem.Expr} {word : Str} {a : Int} {t : Tok} {R : Value → Shared → Prop} (N : News h₀ L s.heap l) (hp : (d, od) ∈ l) (lo : (d == sysModules) = false) (hd : od.IsDictOf (PySem.strKind prog w) kvs)
    (hf : PyProof.V.FlatPairs PyData.str kvs [(PyData.str (Str.ofString "none"), PyData.int 0), (PyData.str (Str.ofString "all"), PyData.int 255), (PyData.str (Str.ofString "other"), PyData.int a), (PyData.str (Str.ofString "rest"), PyData.int (255 - a))]) (hw : Word word)
    (h : ∀ u, R (.int (shv word a) u) { s with toks := s.toks + 1 })
    (hs : subscripted slice false (.ref d) (.str word t) = operate [.ref d, .str word t] (getItem (.ref d) (.str word t))) :
    wpAny (model prog w) A (subscriptTail value slice (.ref d) (.str word t)) R E s :=
  item_tab_any PyProof.V.same_str (strKind_is _ _ _ _) (TabAt.ofNews N hp lo hd hf) (sh_look hw) (fun v hv => by obtain ⟨u, rfl⟩ := flat_int hv; exact h u) hs
variable {L : Addr} {m : Str → Option Value} {news : Led} {a b : Addr} {xs ys : List Value} {ns ms : List Int} {n1 n2 : Nat} {R : Value → Shared → Prop}
theorem word_ok {x : Str} (h : Word x) : PyData.strOk x = true := by
  unfold Word at h
  rcases h with rfl | rfl | rfl | rfl <;> decide +kernel
theorem ne_strs2 {w1 w2 : Str} {t1 t2 t3 t4 : Tok} (N : News h₀ L s.heap news) (ma : (a, listOf #[.str w1 t1, .str w2 t2] n1) ∈ news) (mb : (b, listOf #[.str w1 t3, .str w2 t4] n2) ∈ news) (h1 : Word w1) (h2 : Word w2) (hu : A.units + 64 < cLine) (h : R (.bool false) s) :
    wpAny (model prog w) A (compareOp .NotEq (.ref a) (.ref b)) R E s := by
  refine ne_dataH (da := .list [.str w1, .str w2]) (db := .list [.str w1, .str w2]) (reads_list_at (N _ ma).1 rfl rfl (.cons (Reads.str _ _) (.cons (Reads.str _ _) .nil))) (reads_list_at (N _ mb).1 rfl rfl (.cons (Reads.str _ _) (.cons (Reads.str _ _) .nil))) (by simp [PySem.SeqAt.shaped, PyData.canLay0, PyData.canLayAll0, PyData.depth, PyData.depthAll, word_ok h1, word_ok h2]) (by simp [PySem.SeqAt.shaped, PyData.canLay0, PyData.canLayAll0, PyData.depth, PyData.depthAll, word_ok h1, word_ok h2]) hu ?_
  rw [show PyData.eqv (.list [.str w1, .str w2]) (.list [.str w1, .str w2]) = true by simp [PyData.eqv, PyData.eqvAll]]
  exact h
theorem ne_intsL (N : News h₀ L s.heap news) (ma : (a, listOf xs.toArray n1) ∈ news) (mb : (b, listOf ys.toArray n2) ∈ news) (hi : IntsAre xs ns) (hj : IntsAre ys ms) (hu : A.units + 64 < cLine) (e : ns = ms) (h : R (.bool false) s) :
    wpAny (model prog w) A (compareOp .NotEq (.ref a) (.ref b)) R E s := by
  refine ke_ne_ints (PySem.IsL.isList (n := n1) (N _ ma).1) (PySem.IsL.isList (n := n2) (N _ mb).1) hi hj hu ?_
  rw [show decide (ns = ms) = true from decide_eq_true e]
  exact h
theorem nest_eq {r : Str → Option Value} {va vb vc : Value} (h : r (Str.ofString "above") = some va ∧ r (Str.ofString "below") = some vb ∧ r (Str.ofString "table") = some vc) : r = (fun z => if z = Str.ofString "above" then some va else if z = Str.ofString "below" then some vb else if z = Str.ofString "table" then some vc else r z) := by
  obtain ⟨h1, h2, h3⟩ := h
  funext z
  by_cases e1 : z = Str.ofString "above"
  · simp only [if_pos e1]; rw [e1, h1]
  by_cases e2 : z = Str.ofString "below"
  · simp only [if_neg e1, if_pos e2]; rw [e2, h2]
  by_cases e3 : z = Str.ofString "table"
  · simp only [if_neg e1, if_neg e2, if_pos e3]; rw [e3, h3]
  simp only [if_neg e1, if_neg e2, if_neg e3]
theorem skeysA {d : Addr} {od : Obj} {x : Str} {px : Pos} {m : Str → Option Value} {news : Led} {va vb vc : Value}
    (hh : A.handled = none) (F : Fr h₀ env.locals s.heap m) (N : News h₀ env.locals s.heap news) (hm : (d, od) ∈ news) (hd : Tab prog w od) (lo : (d == sysModules) = false)
    (e1 : m (Str.ofString "above") = some va) (e2 : m (Str.ofString "below") = some vb) (e3 : m (Str.ofString "table") = some vc)
    (step : ∀ (b0 : Addr) (g : Heap) (op w1 w2 text : Str) (t : Tok) (r : Str → Option Value), Op op w1 w2 → PySem.Spec.lookup (.str op) opsD = some (.str text) → Txt.words text = [w1, w2] → text.length + 2 ≤ sizeLine →
      ∀ own h tk, Fr h₀ env.locals h (fun z => if z = Str.ofString "above" then some va else if z = Str.ofString "below" then some vb else if z = Str.ofString "table" then some vc else r z) → News h₀ env.locals h (news ++ own) → AllLt b0 news → Over b0 own →
        wpAny (model prog w) A (assign (.Name x px) env (.str op t)) (fun _ s₂ => wpAny (model prog w) A (execs body env) (SPost h₀ env.locals { s with heap := h, toks := tk } own b0 [(d, od)] (fun m' news' => (m' (Str.ofString "above") = some va ∧ m' (Str.ofString "below") = some vb ∧ m' (Str.ofString "table") = some vc) ∧ news' = news) Q) E s₂) E { s with heap := h, toks := tk })
    (fin : ∀ (h : Heap) (tk : Nat) (r : Str → Option Value), Fr h₀ env.locals h (fun z => if z = Str.ofString "above" then some va else if z = Str.ofString "below" then some vb else if z = Str.ofString "table" then some vc else r z) → News h₀ env.locals h news → Q .next { s with heap := h, toks := tk }) :
    wpAny (model prog w) A (pyIter (.ref d)) (fun it s₂ => TurnsAt prog w A h₀ env (.Name x px) body Q E it s₂) E s := by
  obtain ⟨kvs, hk, hf⟩ := hd
  refine skeys (knd := PySem.strKind prog w) hh F N hm hk lo (fun m' news' => (m' (Str.ofString "above") = some va ∧ m' (Str.ofString "below") = some vb ∧ m' (Str.ofString "table") = some vc) ∧ news' = news) ⟨⟨e1, e2, e3⟩, rfl⟩ ?_ ?_
  · rintro b0 g i k v m' news' hi ⟨hm', rfl⟩ hd' own u h tk hu F' N' hlt hov
    obtain ⟨dv, hD, _⟩ := hf.at hi
    obtain ⟨w1, w2, text, a1, rfl, a3, a4, a5⟩ := key_op hD
    obtain ⟨t, rfl⟩ : ∃ t, u = .str k t := by
      have hu' : Value.isStrOf k u = true := hu
      cases u <;> simp [Value.isStrOf] at hu'
      subst hu'
      exact ⟨_, rfl⟩
    exact step b0 g k w1 w2 text t m' a1 a3 a4 a5 own h tk (nest_eq hm' ▸ F') N' hlt hov
  · rintro g h tk m' news' F' N' ⟨hm', rfl⟩
    exact fin h tk m' (nest_eq hm' ▸ F') N'
end
end Mine
theorem Mine.words_15a : True := by
  k_with "int lists" => (
    first | rfl | assumption | (simp only [List.cons.injEq, and_true]; (repeat' refine And.intro ?_ ?_) <;> first | rfl | assumption | omega))
  k_with "compareOp NotEq ref ref" => (
    k_here
    (with_reducible show wpAny _ _ (compareOp CmpOp.NotEq (Value.ref _) (Value.ref _)) _ _ _)
    k_dflt (
      first
        | refine' Mine.ne_intsL (by k_asm) (by k_mem) (by k_mem) (by k_extra "ints") (by k_extra "ints") (by k_extra "units") (by k_extra "int lists") ?_
        | refine' Mine.ne_strs2 (by k_asm) (by k_mem) (by k_mem) (by with_reducible assumption) (by with_reducible assumption) (by k_extra "units") ?_
        | refine' Mine.ne_tup (by k_asm) (by k_mem) (by k_mem) (by k_extra "tupI") (by k_extra "tupI") (by k_extra "units") (by k_extra "int lists") ?_))
  trivial
namespace Mine
theorem near_mx {a b c d : Int} : Near (mx a b c d) (a * b + c * d) 255 := by
  unfold Near mx
  generalize a * b + c * d = x
  rw [Int.fdiv_eq_ediv_of_nonneg _ (by omega)]
  constructor <;> omega
open LCg
section
variable {prog : Program} {w : World} {A : Around} {E : Value → Shared → Prop} {s : Shared} {env : Env} {h₀ : Heap} {body : List Stmt} {Q : Flow → Shared → Prop}
theorem szip_mx {x1 x2 : Int} {l1 l2 l3 : Addr} {o1 o2 o3 : Obj} {as bs : List Int} {elts : List PySem.Expr} {kk : Nat} {pos : Pos} {m : Str → Option Value} {news : Led}
    (hh : A.handled = none) (F : Fr h₀ env.locals s.heap m) (N : News h₀ env.locals s.heap news) (hm1 : (l1, o1) ∈ news) (hm2 : (l2, o2) ∈ news) (hm3 : (l3, o3) ∈ news)
    (ht1 : TupI o1 (List.zipWith (fun a b => mx a x1 b x2) as bs)) (ht2 : TupI o2 as) (ht3 : TupI o3 bs) (hc : as.length = bs.length)
    (turn : ∀ (b0 : Addr) (g : Heap) (own : Led) (D : Addr) (n a b : Int) (t1 t2 t3 : Tok) (p1 p2 p3 : Option Value) h tk, n = mx a x1 b x2 → a ∈ as → b ∈ bs → IsTup h D #[.int n t1, .int a t2, .int b t3] → Fr h₀ env.locals h (fun z => if z = Str.ofString "n" then p1 else if z = Str.ofString "one" then p2 else if z = Str.ofString "other" then p3 else m z) → News h₀ env.locals h (news ++ own) → AllLt b0 news → Over b0 own →
      wpAny (model prog w) A (assign (.Tuple elts kk pos) env (.ref D)) (fun _ s₂ => wpAny (model prog w) A (execs body env) (SPost h₀ env.locals { { s with heap := g } with heap := h, toks := tk } own b0 [(l1, o1), (l2, o2), (l3, o3)] (fun m' news' => (∀ z, z ∉ ([Str.ofString "n", Str.ofString "one", Str.ofString "other"] : List Str) → m' z = m z) ∧ news' = news) Q) E s₂) E { { s with heap := g } with heap := h, toks := tk })
    (fin : ∀ h tk (p1 p2 p3 : Option Value), Fr h₀ env.locals h (fun z => if z = Str.ofString "n" then p1 else if z = Str.ofString "one" then p2 else if z = Str.ofString "other" then p3 else m z) → News h₀ env.locals h news → AllLt s.heap.objs.size news → Q .next { s with heap := h, toks := tk }) :
    wpAny (model prog w) A (call (.type "zip") [.ref l1, .ref l2, .ref l3]) (fun xv s₁ => wpAny (model prog w) A (pyIter xv) (fun it s₂ => TurnsAt prog w A h₀ env (.Tuple elts kk pos) body Q E it s₂) E s₁) E s := by
  refine szip_near (fun n a b => n = mx a x1 b x2 ∧ a ∈ as ∧ b ∈ bs) hh F N hm1 hm2 hm3 ht1 ht2 ht3 (by rw [List.length_zipWith]; omega) (by rw [List.length_zipWith]; omega) (fun i n a b g1 g2 g3 => ?_) (fun b0 g own D n a b t1 t2 t3 p1 p2 p3 h tk hT => turn b0 g own D n a b t1 t2 t3 p1 p2 p3 h tk hT.1 hT.2.1 hT.2.2) fin
  rw [List.getElem?_zipWith, g2, g3] at g1
  exact ⟨(Option.some.inj g1).symm, List.mem_of_getElem? g2, List.mem_of_getElem? g3⟩
end
section
variable {w : World} {p : Program} {loose : List Str} {mean : ExcName → Option Value} {mg mb : Str → Option Value}
theorem share_use {word : Str} {a : Int} {t1 t2 : Tok} {news : Led} {dp un : Nat} {gd : Option (List Code)} {cn : Str} {cs : Scope} {af : Addr} {ccd : Value} {cl : List (Str × Addr)} {outer : List Env} {A₀ : Around} {base h₀ : Heap} {L : Addr} {m : Str → Option Value} {s : Shared} {Q E : Value → Shared → Prop} (B : Below A₀ base outer h₀) (F : Fr h₀ L s.heap m) (X : (Mine.hd.heap_39 w.params).In h₀) (N : News h₀ L s.heap news) (T : Top p loose mean mg mb h₀) (hk : cs.kind = .function) (hd : dp + 1 < recursionLimit) (hu : un + 8 * 1 < cLine)
    (hw : word = "none" ∨ word = "all" ∨ word = "other" ∨ word = "rest") (ha : 0 ≤ a ∧ a ≤ 255)
    (ret : ∀ (t : Tok) (h' : Heap) (tk' : Nat), 0 ≤ shv word a ∧ shv word a ≤ 255 → Fr h₀ L h' m → News h₀ L h' news → Q (.int (shv word a) t) { s with heap := h', toks := tk' }) : wpAny (model PySem.Challenge.rw_pf0183_01.row.prog w) (ktrTop dp un gd cn cs L af ccd cl outer) (call (.ref 89) [.str word t1, .int a t2]) Q E s :=
  Ct.int B F X N T hk hd hu (share_ct word a t1 t2 news hw) fun t h' tk' F' N' => ret t h' tk' (shv_bd ha) F' N'
end
end Mine
theorem Mine.words_16a : True := by
  k_with "callWith builtin:list.append cons" => (
    k_here
    (with_reducible refine' callWith_method1 ?_ ?_ ?_)
    rotate_left
    · rfl
    · rfl)
  k_with "call ref" => (
    k_here
    (with_reducible show wpAny _ _ (call (Value.ref 89) _) _ _ _)
    k_dflt (
      refine' Mine.share_use (by k_asm) (by k_asm) (by k_asm) (by k_asm) (by k_asm) (by first | exact rfl | assumption) (by first | exact Mine.room1 (by with_reducible assumption) (by decide) | ktr_room) (by first | exact Mine.units1 (by with_reducible assumption) (by decide) | ktr_units) (by with_reducible assumption) (by first | assumption | omega | (constructor <;> omega)) ?_
      intro t9 h9 tk9 hs9 F9 N9
      (try dsimp only)
      (try k_fold)
      (try k_sweep)))
  k_with "exec For Name Name cons nil" => (
    k_here
    (rename Fr _ _ _ _ => lF')
    (with_unfolding_all refine' For_turns lF' ?_)
    k_whole)
  k_with "exec For Tuple Call cons nil" => (
    k_here
    (rename Fr _ _ _ _ => lF')
    (with_unfolding_all refine' For_turns lF' ?_)
    k_whole)
  k_with "pyIter ref" => (
    k_here
    (with_reducible show wpAny _ _ (pyIter (Value.ref _)) (fun it s₂ => TurnsAt _ _ _ _ _ (Expr.Name _ _) _ _ _ it s₂) _ _)
    k_dflt (
      refine' Mine.skeysA (by exact rfl) (by k_asm) (by k_asm) (by k_mem) (by with_reducible assumption) (by with_reducible assumption) (by exact rfl) (by exact rfl) (by exact rfl) ?_ ?_
      rotate_left
      intro h' tk' r9 F' N'
      (try dsimp only)
      rotate_left
      intro b0' g' op' w1' w2' text' t' r9 hop' hlk' hwd' hln' own' h' tk' F' N' hlt' hov'
      (have hw12 := Mine.op_words hop')
      obtain ⟨hw1', hw2'⟩ := hw12
      (try simp only [AllLt, and_true] at hlt')
      (try simp only [List.cons_append, List.nil_append] at N')
      walk_say "THE KEYS' TURNS"))
  k_with "subscriptTail Name Name ref str" => (
    k_here
    (with_reducible show wpAny _ _ (subscriptTail (Expr.Name (PySem.Str.ofString "table") _) _ _ _) _ _ _)
    k_dflt (
      refine' item_strTab (by exact Mine.tab_at (by k_asm) (by k_mem) (by with_reducible assumption) (by with_reducible assumption)) (by with_reducible assumption) ?_
      intro v9 hv9
      obtain ⟨t9, hv9⟩ := Mine.flat_str hv9
      subst hv9))
  k_with "call builtin:str.split" => (
    k_here
    (with_reducible show wpAny _ _ (call (Value.builtin "str.split") [Value.str _ _]) _ _ _)
    k_dflt (
      (refine KSpl.split0 (by k_asm) (by k_asm) ?_ (by assumption))
      intro D' l' h' k' e' a' F' N' l1
      (try k_lt l1)
      (replace e' := e'.trans (by with_reducible assumption))
      kspl_open e'
      simp only [strValues, List.map_cons, List.map_nil] at N'
      clear a'))
  k_with "all lt" => (
    first | (first | exact by with_reducible assumption | exact And.right (by with_reducible assumption) | exact And.right (And.right (by with_reducible assumption)) | exact And.right (And.right (And.right (by with_reducible assumption))) | exact And.right (And.right (And.right (And.right (by with_reducible assumption)))) | exact And.right (And.right (And.right (And.right (And.right (by with_reducible assumption))))) | exact And.right (And.right (And.right (And.right (And.right (And.right (by with_reducible assumption)))))) | exact And.right (And.right (And.right (And.right (And.right (And.right (And.right (by with_reducible assumption))))))) | exact And.right (And.right (And.right (And.right (And.right (And.right (And.right (And.right (by with_reducible assumption)))))))) | exact And.right (And.right (And.right (And.right (And.right (And.right (And.right (And.right (And.right (by with_reducible assumption))))))))) | exact And.right (And.right (And.right (And.right (And.right (And.right (And.right (And.right (And.right (And.right (by with_reducible assumption)))))))))) | exact And.right (And.right (And.right (And.right (And.right (And.right (And.right (And.right (And.right (And.right (And.right (by with_reducible assumption))))))))))) | exact And.right (And.right (And.right (And.right (And.right (And.right (And.right (And.right (And.right (And.right (And.right (And.right (by with_reducible assumption)))))))))))) | exact And.right (And.right (And.right (And.right (And.right (And.right (And.right (And.right (And.right (And.right (And.right (And.right (And.right (by with_reducible assumption))))))))))))) | exact And.right (And.right (And.right (And.right (And.right (And.right (And.right (And.right (And.right (And.right (And.right (And.right (And.right (And.right (by with_reducible assumption)))))))))))))) | exact And.right (And.right (And.right (And.right (And.right (And.right (And.right (And.right (And.right (And.right (And.right (And.right (And.right (And.right (And.right (by with_reducible assumption)))))))))))))))) | (refine' Mine.allLt_cons (by first | k_extra "lt" | ((try dsimp only); omega)) (by k_extra "all lt")))
  k_with "kept" => (
    first | exact ⟨by exact rfl, by exact rfl, by exact rfl⟩ | (repeat (first | exact Mine.keep_same | refine Mine.keep_set (by decide) ?_)))
  k_with "SEnd" => (
    first
      | (refine' Mine.SEnd.app (by assumption) (by assumption) (by first | exact Mine.App.base | exact Mine.App.cons (Mine.App.base) | exact Mine.App.cons (Mine.App.cons (Mine.App.base)) | exact Mine.App.cons (Mine.App.cons (Mine.App.cons (Mine.App.base))) | exact Mine.App.cons (Mine.App.cons (Mine.App.cons (Mine.App.cons (Mine.App.base)))) | exact Mine.App.cons (Mine.App.cons (Mine.App.cons (Mine.App.cons (Mine.App.cons (Mine.App.base))))) | exact Mine.App.cons (Mine.App.cons (Mine.App.cons (Mine.App.cons (Mine.App.cons (Mine.App.cons (Mine.App.base)))))) | exact Mine.App.cons (Mine.App.cons (Mine.App.cons (Mine.App.cons (Mine.App.cons (Mine.App.cons (Mine.App.cons (Mine.App.base))))))) | exact Mine.App.cons (Mine.App.cons (Mine.App.cons (Mine.App.cons (Mine.App.cons (Mine.App.cons (Mine.App.cons (Mine.App.cons (Mine.App.base)))))))) | exact Mine.App.cons (Mine.App.cons (Mine.App.cons (Mine.App.cons (Mine.App.cons (Mine.App.cons (Mine.App.cons (Mine.App.cons (Mine.App.cons (Mine.App.base))))))))) | exact Mine.App.cons (Mine.App.cons (Mine.App.cons (Mine.App.cons (Mine.App.cons (Mine.App.cons (Mine.App.cons (Mine.App.cons (Mine.App.cons (Mine.App.cons (Mine.App.base)))))))))) | exact Mine.App.cons (Mine.App.cons (Mine.App.cons (Mine.App.cons (Mine.App.cons (Mine.App.cons (Mine.App.cons (Mine.App.cons (Mine.App.cons (Mine.App.cons (Mine.App.cons (Mine.App.base))))))))))) | exact Mine.App.cons (Mine.App.cons (Mine.App.cons (Mine.App.cons (Mine.App.cons (Mine.App.cons (Mine.App.cons (Mine.App.cons (Mine.App.cons (Mine.App.cons (Mine.App.cons (Mine.App.cons (Mine.App.base)))))))))))) | exact Mine.App.cons (Mine.App.cons (Mine.App.cons (Mine.App.cons (Mine.App.cons (Mine.App.cons (Mine.App.cons (Mine.App.cons (Mine.App.cons (Mine.App.cons (Mine.App.cons (Mine.App.cons (Mine.App.cons (Mine.App.base))))))))))))) | exact Mine.App.cons (Mine.App.cons (Mine.App.cons (Mine.App.cons (Mine.App.cons (Mine.App.cons (Mine.App.cons (Mine.App.cons (Mine.App.cons (Mine.App.cons (Mine.App.cons (Mine.App.cons (Mine.App.cons (Mine.App.cons (Mine.App.base)))))))))))))) | exact Mine.App.cons (Mine.App.cons (Mine.App.cons (Mine.App.cons (Mine.App.cons (Mine.App.cons (Mine.App.cons (Mine.App.cons (Mine.App.cons (Mine.App.cons (Mine.App.cons (Mine.App.cons (Mine.App.cons (Mine.App.cons (Mine.App.cons (Mine.App.base))))))))))))))) | exact Mine.App.cons (Mine.App.cons (Mine.App.cons (Mine.App.cons (Mine.App.cons (Mine.App.cons (Mine.App.cons (Mine.App.cons (Mine.App.cons (Mine.App.cons (Mine.App.cons (Mine.App.cons (Mine.App.cons (Mine.App.cons (Mine.App.cons (Mine.App.cons (Mine.App.base)))))))))))))))) | exact Mine.App.cons (Mine.App.cons (Mine.App.cons (Mine.App.cons (Mine.App.cons (Mine.App.cons (Mine.App.cons (Mine.App.cons (Mine.App.cons (Mine.App.cons (Mine.App.cons (Mine.App.cons (Mine.App.cons (Mine.App.cons (Mine.App.cons (Mine.App.cons (Mine.App.cons (Mine.App.base))))))))))))))))) | exact Mine.App.cons (Mine.App.cons (Mine.App.cons (Mine.App.cons (Mine.App.cons (Mine.App.cons (Mine.App.cons (Mine.App.cons (Mine.App.cons (Mine.App.cons (Mine.App.cons (Mine.App.cons (Mine.App.cons (Mine.App.cons (Mine.App.cons (Mine.App.cons (Mine.App.cons (Mine.App.cons (Mine.App.base))))))))))))))))))) (by k_extra "all lt") (by (repeat (first | exact Mine.srcIn_nil | (refine Mine.srcIn_cons (by k_mem) ?_)))) ?_; (try dsimp only); (try (refine ⟨?_, rfl⟩; k_extra "kept")))
      | ((with_reducible rename News _ _ _ _ => nX9); (replace nX9 := Mine.news_skip nX9); k_extra "SEnd"))
  k_with "call type:zip" => (
    k_here
    (with_reducible show wpAny _ _ (call (Value.type _) [Value.ref _, Value.ref _]) (fun xv s₁ => wpAny _ _ (pyIter xv) (fun it s₂ => TurnsAt _ _ _ _ _ _ _ _ _ it s₂) _ s₁) _ _)
    k_dflt (
      refine' Mine.szip_lt (by exact rfl) (by k_asm) (by k_asm) (by k_mem) (by k_mem) (by exact (rfl : _ = (2 : Nat))) ?_
      intro g' b0'))
  k_with "call type:zip" => (
    k_here
    (with_reducible show wpAny _ _ (call (Value.type _) [Value.ref _, Value.ref _, Value.ref _]) (fun xv s₁ => wpAny _ _ (pyIter xv) (fun it s₂ => TurnsAt _ _ _ _ _ _ _ _ _ it s₂) _ s₁) _ _)
    k_dflt (
      refine' Mine.szip_mx (by exact rfl) (by k_asm) (by k_asm) (by k_mem) (by k_mem) (by k_mem) (by with_reducible assumption) (by with_reducible assumption) (by with_reducible assumption) (by k_extra "len") ?_ ?_
      rotate_left
      intro h' tk' p1' p2' p3' F' N' hlt'
      (try simp only [AllLt, and_true] at hlt')
      (try dsimp only)
      rotate_left
      intro b0' g' own' T' n' v1' v2' t1' t2' t3' p1' p2' p3' h' tk' hn' ha' hb' hT' F' N' hlt' hov'
      subst hn'
      (have hb1 := Mine.all_at (by assumption) ha')
      (have hb2 := Mine.all_at (by assumption) hb')
      clear ha' hb'
      (try simp only [AllLt, and_true] at hlt')
      (try simp only [List.cons_append, List.nil_append] at N')
      walk_say "A ZIP of THREE"))
  k_with "SRest" => (
    first
      | (with_unfolding_all (
          refine Mine.SRest.succ ?_
          intro own' v' h' tk' hP' F' N' hlt' hov'
          obtain ⟨T', x', y', hv', hT', hx', hy'⟩ := hP'
          subst hv'
          (replace hx' := Option.some.inj hx')
          subst hx'
          (replace hy' := Option.some.inj hy')
          subst hy'
          (try simp only [AllLt, and_true] at hlt')
          (try simp only [List.cons_append, List.nil_append] at N')))
      | (refine Mine.SRest.zero ?_; intro h' tk' F' N' hlt'; (try dsimp only)))
  k_with "subscriptTail Dict cons cons Name ref str" => (
    k_here
    (with_reducible show wpAny _ _ (subscriptTail (Expr.Dict _ _ _) _ (Value.ref _) (Value.str _ _)) _ _ _)
    k_dflt (
      refine' Mine.size_item (by k_asm) (by k_mem) (by with_reducible assumption) (by with_reducible assumption) (by assumption) (by with_reducible assumption) ?_ (by with_unfolding_all rfl)
      intro t9))
  k_with "near" => (
    first | exact Mine.near_mx | assumption)
  k_with "SPost" => (
    first | (refine Mine.SPost.next ?_) | (refine Mine.SPost.cont ?_) | (refine Mine.SPost.ret ?_))
  trivial
namespace Mine
theorem pl_lists {as bs : List Int} : List.zipWith pl as bs = List.zipWith pl as bs := rfl
section
variable {w : World} {p : Program} {loose : List Str} {mean : ExcName → Option Value} {mg mb : Str → Option Value}
theorem operators_ct (a : Addr) (o : Obj) (news : Led) (ho : Src o) (hne : ∀ b ∈ news, b.1 ≠ a) :
    CtS PySem.Challenge.rw_pf0183_01.row.prog w p loose mean mg mb 156 20 [.ref a] a o news (fun v tl => v = .bool true ∧ tl = []) := by
  w_top off
  unfold CtS Ct
  k_fill
  intro dp un gd cn cs af ccd cl outer A₀ base h₀ L m s Q E B F X N T hk hd hu hret
  refine wpAny_call ?_
  k_dflt (refine' code_defC ?k1 ?k2 ?k3 ?k4 ?k5 ?kA ?kF ?kK ?k6 ?k7 ?k8 ?k9 ?kB ?kD ?_ ?c2 ?c3 ?c4; (case kA => exact rfl); (case kF => exact rfl); (case kK => assumption); (case k1 => k_asm); (case k2 => k_asm); (case k3 => k_asm); (case k4 => k_asm); (case k5 => k_asm); (case k6 => k_is); (case k7 => k_is); (case k8 => ktr_room); (case k9 => exact BindsTo.of_eq rfl); (case kB => exact rfl); (case kD => decide +kernel); (case c2 => exact rfl); (case c3 => exact rfl); (case c4 => exact rfl); k_whole; intro g' L' h' tk' cells' FG' F' N' Y' B' X' T' l1; (have hU9 := Mine.under_of l1); (try k_lt l1); (first | (have hY := Mine.cells_nil Y'; subst hY; clear Y') | k_cells Y'); (try simp only [List.cons_append, List.nil_append] at N'); (try dsimp only); (try k_lift B'); (try k_fold))
  k_steps
  all_goals (
    refine' hret _ ((a, _) :: news) _ _ (by k_asm) (cb_drop (by k_asm) ?sub) ⟨_, [], by assumption, ⟨rfl, rfl⟩, rfl, fun _ _ _ hq => nomatch hq⟩
    case sub => exact List.forall_mem_cons.mpr ⟨by kcj_m, fun b hb => by repeat (first | exact hb | refine List.mem_cons_of_mem _ ?_)⟩)
end
end Mine
namespace Mine
theorem near_wt {a b : Int} : Near (wt a b) (a * b) 255 := by
  unfold Near wt
  rw [Int.mul_assoc]
  generalize a * b = x
  rw [Int.fdiv_eq_ediv_of_nonneg _ (by omega)]
  constructor <;> omega
theorem near_sh {p a : Int} (ha : 1 ≤ a) : Near (sh p a) (255 * p) a := by
  unfold Near sh
  rw [Int.fdiv_eq_ediv_of_nonneg _ (by omega)]
  have h1 := Int.emod_add_mul_ediv (2 * p * 255 + a) (2 * a)
  have h2 := Int.emod_nonneg (2 * p * 255 + a) (show 2 * a ≠ 0 by omega)
  have h3 := Int.emod_lt_of_pos (2 * p * 255 + a) (show 0 < 2 * a by omega)
  generalize (2 * p * 255 + a) / (2 * a) = q at *
  generalize (2 * p * 255 + a) % (2 * a) = r at *
  rw [Int.mul_assoc, Int.mul_comm a q] at h1
  generalize q * a = x at *
  constructor <;> omega
theorem sh_bd {p a : Int} (ha : 1 ≤ a) (h0 : 0 ≤ p) (h1 : p ≤ a) : 0 ≤ sh p a ∧ sh p a ≤ 255 := by
  unfold sh
  rw [Int.fdiv_eq_ediv_of_nonneg _ (by omega)]
  constructor
  · exact Int.ediv_nonneg (by omega) (by omega)
  · have : (2 * p * 255 + a) / (2 * a) < 256 := Int.ediv_lt_of_lt_mul (by omega) (by omega)
    omega
theorem wt_sh {p a : Int} (ha : 1 ≤ a) (hb : a ≤ 255) : wt (sh p a) a = p := by
  have h := near_sh (p := p) ha
  unfold Near at h
  unfold wt
  rw [Int.mul_assoc]
  generalize sh p a * a = x at *
  rw [Int.fdiv_eq_ediv_of_nonneg _ (by omega)]
  omega
theorem wt_255 {p : Int} : wt p 255 = p := by
  unfold wt
  rw [Int.fdiv_eq_ediv_of_nonneg _ (by omega)]
  omega
theorem wt_0 {p : Int} : wt p 0 = 0 := by
  unfold wt
  rw [Int.fdiv_eq_ediv_of_nonneg _ (by omega)]
  omega
theorem sh_255 {p : Int} : sh p 255 = p := by
  unfold sh
  rw [Int.fdiv_eq_ediv_of_nonneg _ (by omega)]
  omega
theorem one_le {a : Int} (h : 0 ≤ a ∧ a ≤ 255) (h0 : a ≠ 0) : 1 ≤ a := by omega
theorem zip_map {f : Int → Int} {T : Int → Int → Prop} (h : ∀ b, T (f b) b) : ∀ {bs : List Int} {r : List Int}, ∀ p ∈ (bs.map f ++ r).zip bs, T p.1 p.2
  | [], _, p, hp => by simp at hp
  | b :: bs, r, p, hp => by
    rw [List.map_cons, List.cons_append, List.zip_cons_cons] at hp
    rcases List.mem_cons.mp hp with rfl | hp
    · exact h b
    · exact zip_map h p hp
theorem zip_map0 {f : Int → Int} {T : Int → Int → Prop} (h : ∀ b, T (f b) b) {bs : List Int} : ∀ p ∈ (bs.map f).zip bs, T p.1 p.2 := by
  have := zip_map h (bs := bs) (r := [])
  rwa [List.append_nil] at this
theorem zip_pre {f : Int → Int} {T : Int → Int → Prop} (h : ∀ b, T (f b) b) : ∀ {bs : List Int} {r : List Int}, ∀ p ∈ (bs.map f).zip (bs ++ r), T p.1 p.2
  | [], _, p, hp => by simp at hp
  | b :: bs, r, p, hp => by
    rw [List.map_cons, List.cons_append, List.zip_cons_cons] at hp
    rcases List.mem_cons.mp hp with rfl | hp
    · exact h b
    · exact zip_pre h p hp
theorem map_same {f : Int → Int} (h : ∀ n, f n = n) (ns : List Int) : ns.map f = ns := by
  have : f = fun n => n := funext h
  rw [this]
  exact List.map_id _
theorem zeros {f : Int → Int} (h : ∀ n, f n = 0) : ∀ ns : List Int, ns.map f = List.replicate ns.length 0
  | [] => rfl
  | n :: ns => by rw [List.map_cons, zeros h ns, h, List.length_cons, List.replicate_succ]
theorem l_back {ps : List Int} {al : Int} (h1 : 1 ≤ al) (h2 : al ≤ 255) : ((ps.map fun n => sh n al).map fun n => wt n al) ++ [al] = ps ++ [al] := by
  rw [List.map_map]
  exact congrArg (· ++ [al]) (map_same (fun n => wt_sh h1 h2) ps)
theorem l_dim255 {ns : List Int} : (ns.map fun n => wt n 255) = ns := map_same (fun _ => wt_255) ns
theorem l_dim0 {ps : List Int} {al : Int} (h : ps.length = 3) : ((ps ++ [al]).map fun n => wt n 0) = [0, 0, 0, 0] := by
  rw [zeros (fun _ => wt_0), List.length_append, h]; rfl
theorem l_pre0 {ps : List Int} (h : ps.length = 3) : (ps.map fun n => wt n 0) ++ [0] = [0, 0, 0, 0] := by
  rw [zeros (fun _ => wt_0), h]; rfl
theorem l_sh0 {ps : List Int} {al : Int} (h : ps.length = 3) (ha : al = 0) : (ps.map fun n => sh n al) = [0, 0, 0] := by
  rw [sh_zero ha, h]; rfl
theorem l_sh255 {ss : List Int} : ((ss.map fun n => wt n 255).map fun n => sh n 255) = ss := by
  rw [l_dim255]
  exact map_same (fun _ => sh_255) ss
theorem sh_all {ps : List Int} {al : Int} (h1 : 1 ≤ al) (h : ∀ p ∈ ps, 0 ≤ p ∧ p ≤ al) : ∀ n ∈ ps.map (fun n => sh n al), 0 ≤ n ∧ n ≤ 255 := fun n hn => by
  obtain ⟨p, hp, rfl⟩ := List.mem_map.mp hn
  exact sh_bd h1 (h p hp).1 (h p hp).2
theorem near_w0 {al : Int} {bs : List Int} : ∀ p ∈ (bs.map fun n => wt n al).zip bs, Near p.1 (p.2 * al) 255 := zip_map0 (T := fun n b => Near n (b * al) 255) fun _ => near_wt
theorem near_w1 {al : Int} {bs r : List Int} : ∀ p ∈ ((bs.map fun n => wt n al) ++ r).zip bs, Near p.1 (p.2 * al) 255 := zip_map (T := fun n b => Near n (b * al) 255) fun _ => near_wt
theorem near_s {al : Int} (h : 1 ≤ al) {bs r : List Int} : ∀ p ∈ (bs.map fun n => sh n al).zip (bs ++ r), Near p.1 (255 * p.2) al := zip_pre (T := fun n b => Near n (255 * b) al) fun _ => near_sh h
open LCg
section
variable {prog : Program} {w : World} {A : Around} {E : Value → Shared → Prop} {s : Shared} {h₀ : Heap} {L : Addr} {m : Str → Option Value} {env : Env}
theorem src_zipNw {al : Int} {l1 l2 : Addr} {o1 o2 : Obj} {as bs : List Int} {a b : Str} {pa pb tp : Pos} {kk : Nat} {c elt : PySem.Expr} {scope : Scope} {cl : List (Str × Addr)} {news : Led} {Q : Value → Shared → Prop}
    (hh : A.handled = none) (F : Fr h₀ L s.heap m) (N : News h₀ L s.heap news) (hm1 : (l1, o1) ∈ news) (hm2 : (l2, o2) ∈ news) (ht1 : TupI o1 as) (ht2 : TupI o2 bs)
    (hT : ∀ p ∈ as.zip bs, Near p.1 (p.2 * al) 255)
    (hkind : scope.kind = .function) (ha : scope.names.lookup a = some .local) (hb : scope.names.lookup b = some .local) (hab : ¬ a = b) (hsz : as.length ≤ 256)
    (turn : ∀ g b0 v1 v2 t1 t2 own C oC D m₂ h tk (E' : Value → Shared → Prop), v1 ∈ as → v2 ∈ bs → Near v1 (v2 * al) 255 → m₂ a = some (.int v1 t1) → m₂ b = some (.int v2 t2) → NsObj oC m₂ → Fr h₀ L h m → News h₀ L h ((C, oC) :: (D, lst []) :: (news ++ own)) → AllLt b0 news → Over b0 own → (∀ b ∈ own, @LT.lt Nat _ b.1 D) → @LE.le Nat _ b0 D → @LT.lt Nat _ D C →
      wpAny (model prog w) A (isTrue c (compEnvC scope cl C env) (eval c (compEnvC scope cl C env))) (fun okb s₃ => if okb = true then False else
        TEnd h₀ L m { { s with heap := g } with heap := h, toks := tk } own b0 C oC D (lst []) [(l1, o1), (l2, o2)] (fun y news' => NoItem news y news') .none s₃) E' { { s with heap := g } with heap := h, toks := tk })
    (fin : ∀ D h tk, Fr h₀ L h m → News h₀ L h ((D, lst []) :: news) → AllLt D news → Q (.ref D) { s with heap := h, toks := tk }) :
    wpAny (model prog w) A (call (.type "zip") [.ref l1, .ref l2]) (fun xv s₁ => wpAny (model prog w) A (pyIter xv) (CSrc prog w A h₀ L m env (.Tuple [.Name a pa, .Name b pb] kk tp) [c] elt scope cl Q) E s₁) E s := src_zipN (fun v1 v2 => Near v1 (v2 * al) 255) hh F N hm1 hm2 ht1 ht2 hT hkind ha hb hab hsz turn fin
theorem src_zipNs {al : Int} {l1 l2 : Addr} {o1 o2 : Obj} {as bs : List Int} {a b : Str} {pa pb tp : Pos} {kk : Nat} {c elt : PySem.Expr} {scope : Scope} {cl : List (Str × Addr)} {news : Led} {Q : Value → Shared → Prop}
    (hh : A.handled = none) (F : Fr h₀ L s.heap m) (N : News h₀ L s.heap news) (hm1 : (l1, o1) ∈ news) (hm2 : (l2, o2) ∈ news) (ht1 : TupI o1 as) (ht2 : TupI o2 bs)
    (hT : ∀ p ∈ as.zip bs, Near p.1 (255 * p.2) al)
    (hkind : scope.kind = .function) (ha : scope.names.lookup a = some .local) (hb : scope.names.lookup b = some .local) (hab : ¬ a = b) (hsz : as.length ≤ 256)
    (turn : ∀ g b0 v1 v2 t1 t2 own C oC D m₂ h tk (E' : Value → Shared → Prop), v1 ∈ as → v2 ∈ bs → Near v1 (255 * v2) al → m₂ a = some (.int v1 t1) → m₂ b = some (.int v2 t2) → NsObj oC m₂ → Fr h₀ L h m → News h₀ L h ((C, oC) :: (D, lst []) :: (news ++ own)) → AllLt b0 news → Over b0 own → (∀ b ∈ own, @LT.lt Nat _ b.1 D) → @LE.le Nat _ b0 D → @LT.lt Nat _ D C →
      wpAny (model prog w) A (isTrue c (compEnvC scope cl C env) (eval c (compEnvC scope cl C env))) (fun okb s₃ => if okb = true then False else
        TEnd h₀ L m { { s with heap := g } with heap := h, toks := tk } own b0 C oC D (lst []) [(l1, o1), (l2, o2)] (fun y news' => NoItem news y news') .none s₃) E' { { s with heap := g } with heap := h, toks := tk })
    (fin : ∀ D h tk, Fr h₀ L h m → News h₀ L h ((D, lst []) :: news) → AllLt D news → Q (.ref D) { s with heap := h, toks := tk }) :
    wpAny (model prog w) A (call (.type "zip") [.ref l1, .ref l2]) (fun xv s₁ => wpAny (model prog w) A (pyIter xv) (CSrc prog w A h₀ L m env (.Tuple [.Name a pa, .Name b pb] kk tp) [c] elt scope cl Q) E s₁) E s := src_zipN (fun v1 v2 => Near v1 (255 * v2) al) hh F N hm1 hm2 ht1 ht2 hT hkind ha hb hab hsz turn fin
end
end Mine
theorem Mine.words_18a : True := by
  k_with "call type:zip" => (
    k_here
    (with_reducible show wpAny _ _ (call (Value.type _) [Value.ref _, Value.ref _]) (fun xv s₁ => wpAny _ _ (pyIter xv) (Mine.CSrc _ _ _ _ _ _ _ _ [Expr.UnaryOp _ (Expr.Call _ [_, Expr.BinOp (Expr.Name _ _) _ _ _, _] _ _) _] _ _ _ _) _ _) _ _)
    k_dflt (
      first
        | refine' Mine.src_zipNw (by exact rfl) (by k_asm) (by k_asm) (by k_mem) (by k_mem) (by with_reducible assumption) (by with_reducible assumption) (by exact Mine.near_w0) (by exact rfl) (by exact rfl) (by exact rfl) (by decide) (by k_extra "len") ?_ ?_
        | refine' Mine.src_zipNw (by exact rfl) (by k_asm) (by k_asm) (by k_mem) (by k_mem) (by with_reducible assumption) (by with_reducible assumption) (by exact Mine.near_w1) (by exact rfl) (by exact rfl) (by exact rfl) (by decide) (by k_extra "len") ?_ ?_
      rotate_left
      intro D' h' tk' F' N' hlt'
      (try simp only [AllLt, and_true] at hlt')
      (try dsimp only)
      rotate_left
      intro g' b0' v1' v2' t1' t2' own' C' oC' D' m' h' tk' E' ha' hb' hT' hx' hy' hC' F' N' hlt' hov' hoD' hbD' hDC'
      clear ha' hb'
      (try simp only [AllLt, and_true] at hlt')
      (try simp only [List.cons_append, List.nil_append] at N')
      walk_say "A ZIP's TURN"))
  k_with "call type:zip" => (
    k_here
    (with_reducible show wpAny _ _ (call (Value.type _) [Value.ref _, Value.ref _]) (fun xv s₁ => wpAny _ _ (pyIter xv) (Mine.CSrc _ _ _ _ _ _ _ _ [Expr.UnaryOp _ (Expr.Call _ [_, Expr.BinOp (Expr.Constant _ _ _) _ _ _, _] _ _) _] _ _ _ _) _ _) _ _)
    k_dflt (
      first
        | refine' Mine.src_zipNs (by exact rfl) (by k_asm) (by k_asm) (by k_mem) (by k_mem) (by with_reducible assumption) (by with_reducible assumption) (by exact Mine.near_s (Mine.one_le (by assumption) (by assumption))) (by exact rfl) (by exact rfl) (by exact rfl) (by decide) (by k_extra "len") ?_ ?_
      rotate_left
      intro D' h' tk' F' N' hlt'
      (try simp only [AllLt, and_true] at hlt')
      (try dsimp only)
      rotate_left
      intro g' b0' v1' v2' t1' t2' own' C' oC' D' m' h' tk' E' ha' hb' hT' hx' hy' hC' F' N' hlt' hov' hoD' hbD' hDC'
      clear ha' hb'
      (try simp only [AllLt, and_true] at hlt')
      (try simp only [List.cons_append, List.nil_append] at N')
      walk_say "A ZIP's TURN"))
  k_with "near" => (
    assumption)
  k_with "bounds" => (
    first | assumption | exact Mine.lt_le (by assumption) | exact Mine.col_all (by assumption) (by assumption) | exact Mine.sh_all (Mine.one_le (by assumption) (by assumption)) (by assumption))
  k_with "int lists" => (
    first | rfl | exact Mine.l_dim255 | exact Mine.l_sh255 | exact Mine.l_dim0 (by assumption) | exact Mine.l_pre0 (by assumption) | exact Mine.l_sh0 (by assumption) (by assumption) | exact Mine.l_back (Mine.one_le (by assumption) (by assumption)) (by omega))
  trivial
namespace Mine
section
variable {w : World} {p : Program} {loose : List Str} {mean : ExcName → Option Value} {mg mb : Str → Option Value}
theorem dimmedR_ct (a : Addr) (o : Obj) (news : Led) (ho : Src o) (hne : ∀ b ∈ news, b.1 ≠ a) :
    CtS PySem.Challenge.rw_pf0183_01.row.prog w p loose mean mg mb 144 20 [.ref a] a o news (fun v tl => v = .bool true ∧ tl = []) := by
  w_top off
  unfold CtS Ct
  k_fill
  intro dp un gd cn cs af ccd cl outer A₀ base h₀ L m s Q E B F X N T hk hd hu hret
  refine wpAny_call ?_
  k_dflt (refine' code_defC ?k1 ?k2 ?k3 ?k4 ?k5 ?kA ?kF ?kK ?k6 ?k7 ?k8 ?k9 ?kB ?kD ?_ ?c2 ?c3 ?c4; (case kA => exact rfl); (case kF => exact rfl); (case kK => assumption); (case k1 => k_asm); (case k2 => k_asm); (case k3 => k_asm); (case k4 => k_asm); (case k5 => k_asm); (case k6 => k_is); (case k7 => k_is); (case k8 => ktr_room); (case k9 => exact BindsTo.of_eq rfl); (case kB => exact rfl); (case kD => decide +kernel); (case c2 => exact rfl); (case c3 => exact rfl); (case c4 => exact rfl); k_whole; intro g' L' h' tk' cells' FG' F' N' Y' B' X' T' l1; (have hU9 := Mine.under_of l1); (try k_lt l1); (first | (have hY := Mine.cells_nil Y'; subst hY; clear Y') | k_cells Y'); (try simp only [List.cons_append, List.nil_append] at N'); (try dsimp only); (try k_lift B'); (try k_fold))
  k_steps
  all_goals (
    (try simp only [wt_255, beq_self_eq_true])
    refine' hret _ ((a, _) :: news) _ _ (by k_asm) (cb_drop (by k_asm) ?sub) ⟨_, [], by assumption, ⟨rfl, rfl⟩, rfl, fun _ _ _ hq => nomatch hq⟩
    case sub => exact List.forall_mem_cons.mpr ⟨by kcj_m, fun b hb => by repeat (first | exact hb | refine List.mem_cons_of_mem _ ?_)⟩)
theorem shadesR_ct (a : Addr) (o : Obj) (news : Led) (ho : Src o) (hne : ∀ b ∈ news, b.1 ≠ a) :
    CtS PySem.Challenge.rw_pf0183_01.row.prog w p loose mean mg mb 139 20 [.ref a] a o news (fun v tl => v = .bool true ∧ tl = []) := by
  w_top off
  unfold CtS Ct
  k_fill
  intro dp un gd cn cs af ccd cl outer A₀ base h₀ L m s Q E B F X N T hk hd hu hret
  refine wpAny_call ?_
  k_dflt (refine' code_defC ?k1 ?k2 ?k3 ?k4 ?k5 ?kA ?kF ?kK ?k6 ?k7 ?k8 ?k9 ?kB ?kD ?_ ?c2 ?c3 ?c4; (case kA => exact rfl); (case kF => exact rfl); (case kK => assumption); (case k1 => k_asm); (case k2 => k_asm); (case k3 => k_asm); (case k4 => k_asm); (case k5 => k_asm); (case k6 => k_is); (case k7 => k_is); (case k8 => ktr_room); (case k9 => exact BindsTo.of_eq rfl); (case kB => exact rfl); (case kD => decide +kernel); (case c2 => exact rfl); (case c3 => exact rfl); (case c4 => exact rfl); k_whole; intro g' L' h' tk' cells' FG' F' N' Y' B' X' T' l1; (have hU9 := Mine.under_of l1); (try k_lt l1); (first | (have hY := Mine.cells_nil Y'; subst hY; clear Y') | k_cells Y'); (try simp only [List.cons_append, List.nil_append] at N'); (try dsimp only); (try k_lift B'); (try k_fold))
  k_steps
  all_goals (first
    | (refine' hret _ ((a, _) :: news) _ _ (by k_asm) (cb_drop (by k_asm) ?sub) ⟨_, [], by assumption, ⟨rfl, rfl⟩, rfl, fun _ _ _ hq => nomatch hq⟩
       case sub => exact List.forall_mem_cons.mpr ⟨by kcj_m, fun b hb => by repeat (first | exact hb | refine List.mem_cons_of_mem _ ?_)⟩)
    | (exfalso; omega))
end
end Mine
namespace Mine
open LCg
def Signs (ys : List Value) (cs : List Nat) : Prop := StrsAre ys (cs.map fun c => (⟨#[c]⟩ : Str))
theorem Signs.snoc {ys : List Value} {cs : List Nat} {c : Nat} {t : Tok} (h : Signs ys cs) : Signs (ys ++ [.str ⟨#[c]⟩ t]) (cs ++ [c]) := by
  unfold Signs
  rw [List.map_append]
  exact kct_snoc h
def Sign1 (c : Nat) (news : Led) (y : Value) (news' : Led) : Prop := (∃ u, y = .str ⟨#[c]⟩ u) ∧ news' = news
def lowSet : List Nat := [64, 65, 90, 91, 96, 97, 122, 123, 48, 45, 192, 304, 82, 103, 66, 40, 77]
def signSet : List Nat := [64, 65, 90, 91, 96, 97, 122, 123, 48, 45, 192, 304]
def lowc (c : Nat) : Nat := if 65 ≤ c ∧ c ≤ 90 then c + 32 else c
def low (x : Str) : Str := ⟨(x.cps.toList.map lowc).toArray⟩
section
variable {prog : Program} {w : World} {A : Around} {E : Value → Shared → Prop} {s : Shared} {h₀ : Heap} {L : Addr} {m : Str → Option Value} {env : Env}
theorem src_str {x : Str} {tx : Tok} {z : Str} {pz : Pos} {elt : PySem.Expr} {scope : Scope} {cl : List (Str × Addr)} {news : Led} {Q : Value → Shared → Prop} (g : Nat → Nat)
    (hh : A.handled = none) (F : Fr h₀ L s.heap m) (N : News h₀ L s.heap news) (hkind : scope.kind = .function) (hx : scope.names.lookup z = some .local) (hsz : x.cps.size ≤ 256)
    (turn : ∀ b0 c t ys own C oC D m₂ h tk (E' : Value → Shared → Prop), c ∈ x.cps.toList → m₂ z = some (.str ⟨#[c]⟩ t) → NsObj oC m₂ → Fr h₀ L h m → News h₀ L h ((C, oC) :: (D, lst ys) :: (news ++ own)) → AllLt b0 news → Over b0 own → (∀ b ∈ own, @LT.lt Nat _ b.1 D) → @LE.le Nat _ b0 D → @LT.lt Nat _ D C →
      wpAny (model prog w) A (eval elt (compEnvC scope cl C env)) (TEnd h₀ L m { s with heap := h, toks := tk } own b0 C oC D (lst ys) [] (fun y news' => Sign1 (g c) news y news')) E' { s with heap := h, toks := tk })
    (fin : ∀ D h tk ys, Fr h₀ L h m → News h₀ L h ((D, lst ys) :: news) → AllLt D news → Signs ys (x.cps.toList.map g) → Q (.ref D) { s with heap := h, toks := tk }) :
    wpAny (model prog w) A (pyIter (.str x tx)) (CSrc prog w A h₀ L m env (.Name z pz) [] elt scope cl Q) E s := by
  refine wpAny_pyIter_str fun o St hW hst => ?_
  have fresh : h₀.get? s.heap.objs.size = none := by
    cases e : h₀.get? s.heap.objs.size with
    | none => rfl
    | some o => exact absurd (Heap.lt_size (F.keep _ _ e)) (Nat.lt_irrefl _)
  have sz : (s.heap.push o).objs.size = s.heap.objs.size + 1 := Heap.size_push ..
  have W := hW A hh
  refine ⟨s.heap.objs.size, s.heap.objs.size, [s.heap.objs.size], [], x.cps.size, _, _, _, news, fun i m₂ => ∃ c t, x.cps[i]? = some c ∧ m₂ z = some (.str ⟨#[c]⟩ t),
    fun i ys news' => Signs ys ((x.cps.toList.take i).map g) ∧ news' = news, rfl, KTurns.ofWalks W fun i v s Q' E' st q => wpAny_pure q, fun s' Q' E' st q => W.self 0 s' Q' E' st q,
    fun C i v s' m' Q' E' hi hP hn hQ => assign_one hkind hx hn fun h' tk hn' hk => by
      obtain ⟨c, u, hc, rfl⟩ := hP
      exact hQ h' tk _ ⟨c, u, hc, by simp⟩ hn' hk, by rw [sizeLine_eq]; omega, hst, ?_, ?_, ?_,
    F.push _, fun p hp => ⟨Heap.get?_push_of_some _ (N p hp).1, (N p hp).2⟩, ?_, ?_, allLt_in fun b hb => Heap.lt_size (N b hb).1, srcIn_nil, ⟨by simp only [List.take_zero, List.map_nil]; exact .nil, rfl⟩, ?_, ?_⟩
  · intro b hb
    rw [List.mem_singleton.mp hb]
    exact ⟨Nat.le_refl _, by show s.heap.objs.size < (s.heap.push _).objs.size; rw [sz]; exact Nat.lt_succ_self _⟩
  · show s.heap.objs.size ≤ (s.heap.push _).objs.size
    rw [sz]; exact Nat.le_succ _
  · intro b hb
    cases hb
  · intro b hb
    rw [List.mem_singleton.mp hb]; exact fresh
  · intro hb
    exact absurd F.ns.lt (by rw [List.mem_singleton.mp hb]; exact Nat.lt_irrefl _)
  · rintro i ys news' hi ⟨hJ, rfl⟩ _ own C oC D m₂ h tk E' ⟨c, t, hc, hm₂⟩ hoC F' N' hlt hov hoD hbD hDC
    have hc' : x.cps.toList[i]? = some c := by simpa using hc
    refine wpAny_mono (turn _ c t ys own C oC D m₂ h tk E' (List.mem_of_getElem? hc') hm₂ hoC F' N' hlt hov hoD hbD hDC) (fun y s₂ hq => ?_) fun _ _ e => e
    obtain ⟨h', tk', news₂, e, F₂, N₂, hlt₂, hS₂, ⟨u, rfl⟩, rfl⟩ := hq
    refine ⟨h', tk', _, e, F₂, N₂, hlt₂, hS₂, ?_, rfl⟩
    rw [List.take_add_one, hc']
    simpa using hJ.snoc (c := g c) (t := u)
  · rintro D h tk ys news' F' N' hlt' ⟨hJ, rfl⟩
    refine fin D h tk ys F' N' hlt' ?_
    rwa [show x.cps.size = x.cps.toList.length by simp, List.take_length] at hJ

theorem join_signs {D : Addr} {ys : List Value} {cs : List Nat} {news : Led} {t : Tok} {Q : Value → Shared → Prop} (N : News h₀ L s.heap news) (hm : (D, lst ys) ∈ news) (hc : Signs ys cs) (hn : cs.length ≤ 256)
    (h : ∀ t' k, Q (.str ⟨cs.toArray⟩ t') { s with toks := k }) : wpAny (model prog w) A (call (.builtin "str.join") [.str (Str.ofString "") t, .ref D]) Q E s := by
  refine KT.join_1 (l := cs) (g := fun c => (⟨#[c]⟩ : Str)) (ys := ys) ⟨_, (N _ hm).1, rfl, _, rfl⟩ ?_ (fun _ _ => rfl) (by omega) fun t' k _ => ?_
  · have := hc.carried
    rwa [List.map_map] at this
  · have e : Txt.join (Str.ofString "") (cs.map fun c => (⟨#[c]⟩ : Str)) = ⟨cs.toArray⟩ := by
      show Builtin.Str.glued (Str.ofString "") _ = _
      rw [StrLaws.glued_eq_join]
      exact join_ones cs
    rw [e]
    exact h t' k
def SignR (cs : List Nat) (y : Value) : Prop := ∃ c t, c ∈ cs ∧ y = .str ⟨#[c]⟩ t
theorem signs_of {cs : List Nat} : ∀ {ys : List Value}, (∀ y ∈ ys, SignR cs y) → ∃ ds, Signs ys ds ∧ ds.length = ys.length ∧ ∀ c ∈ ds, c ∈ cs
  | [], _ => ⟨[], .nil, rfl, fun _ h => nomatch h⟩
  | y :: ys, h => by
    obtain ⟨c, t, hc, rfl⟩ := h y (.head _)
    obtain ⟨ds, hS, hl, hb⟩ := signs_of (fun z hz => h z (.tail _ hz))
    exact ⟨c :: ds, .cons _ t hS, by simp [hl], List.forall_mem_cons.mpr ⟨hc, hb⟩⟩
end
theorem due_sign {c : Nat} {t t1 t2 : Tok} (h : c ∈ signSet) : ∃ u, (valueAt [(Str.ofString "A", Value.str (Str.ofString "a") t1), (Str.ofString "Z", Value.str (Str.ofString "z") t2)] ⟨#[c]⟩).getD (.str ⟨#[c]⟩ t) = .str ⟨#[lowc c]⟩ u := by
  simp only [signSet, List.mem_cons, List.not_mem_nil, or_false] at h
  rcases h with e | e | e | e | e | e | e | e | e | e | e | e <;> subst e <;> exact ⟨_, rfl⟩
theorem sign_low {c : Nat} (h : c ∈ signSet) : c ∈ lowSet := by
  have hs : ∀ x ∈ signSet, x ∈ lowSet := by decide
  exact hs c h
theorem all_low {cs : List Nat} (h : ∀ c ∈ cs, c ∈ signSet) : ∀ c ∈ (⟨cs.toArray⟩ : Str).cps.toList, c ∈ lowSet := fun c hc => sign_low (h c hc)
theorem size_low {cs : List Nat} {d : Int} (h : (cs.length : Int) = d) (hd : d ≤ 256) : (⟨cs.toArray⟩ : Str).cps.size ≤ 256 := by
  show cs.toArray.size ≤ 256
  rw [List.size_toArray]
  omega
end Mine
theorem Mine.words_19a : True := by
  k_with "call builtin:dict.get" => (
    k_here
    (with_reducible show wpAny _ _ (call (Value.builtin "dict.get") [Value.ref _, Value.str _ _, Value.str _ _]) _ _ _)
    k_dflt (
      (with_reducible rename News _ _ _ _ => hN9)
      refine' kdg_get2 (knd := PySem.strKind _ _) hN9 (by k_mem) (by k_asm) (by k_asm) (strKind_is _ _ _ _) _ rfl ?_))
  k_with "pyIter str" => (
    k_here
    (with_reducible show wpAny _ _ (pyIter (Value.str _ _)) (Mine.CSrc _ _ _ _ _ _ _ (Expr.Name _ _) _ _ _ _ _) _ _)
    k_dflt (
      (with_reducible rename ∀ c ∈ _, c ∈ Mine.lowSet => hall9)
      refine' Mine.src_str Mine.lowc (by exact rfl) (by k_asm) (by k_asm) (by exact rfl) (by exact rfl) (by first | with_reducible assumption | omega | decide) ?_ ?_
      rotate_left
      intro D' h' tk' ys' F' N' hlt' hS'
      (try simp only [AllLt, and_true] at hlt')
      (try dsimp only)
      rotate_left
      intro b0' c' t' ys' own' C' oC' D' m' h' tk' E' hc' hx' hC' F' N' hlt' hov' hoD' hb' hDC'
      (try simp only [AllLt, and_true] at hlt')
      (try simp only [List.cons_append, List.nil_append] at N')
      (have hq9 := hall9 _ hc')
      clear hc'
      simp only [Mine.lowSet, List.mem_cons, List.not_mem_nil, or_false] at hq9
      rcases hq9 with e9 | e9 | e9 | e9 | e9 | e9 | e9 | e9 | e9 | e9 | e9 | e9 | e9 | e9 | e9 | e9 | e9 <;> subst e9
      walk_say "A TEXT's TURNS"))
  k_with "pyIter str" => (
    k_here
    (with_reducible show wpAny _ _ (pyIter (Value.str _ _)) (Mine.CSrc _ _ _ _ _ _ _ (Expr.Name _ _) _ _ _ _ _) _ _)
    k_dflt (
      (with_reducible rename ∀ c ∈ _, c ∈ Mine.signSet => hall9)
      refine' Mine.src_str Mine.lowc (by exact rfl) (by k_asm) (by k_asm) (by exact rfl) (by exact rfl) (by first | with_reducible assumption | omega | decide) ?_ ?_
      rotate_left
      intro D' h' tk' ys' F' N' hlt' hS'
      (try simp only [AllLt, and_true] at hlt')
      (try dsimp only)
      rotate_left
      intro b0' c' t' ys' own' C' oC' D' m' h' tk' E' hc' hx' hC' F' N' hlt' hov' hoD' hb' hDC'
      (try simp only [AllLt, and_true] at hlt')
      (try simp only [List.cons_append, List.nil_append] at N')
      (have hq9 := hall9 _ hc')
      clear hc'
      walk_say "A TEXT's TURNS"))
  k_with "Sign1" => (
    first | exact ⟨⟨_, by with_unfolding_all rfl⟩, rfl⟩ | exact ⟨Mine.due_sign (by with_reducible assumption), rfl⟩)
  k_with "call builtin:str.join" => (
    k_here
    (with_reducible show wpAny _ _ (call (Value.builtin "str.join") [Value.str _ _, Value.ref _]) _ _ _)
    k_dflt (
      refine' Mine.join_signs (by k_asm) (by k_mem) (by with_reducible assumption) (by first | omega | (simp only [List.length_map, Array.length_toList]; omega)) ?_
      intro t9 k9))
  k_with "pyIter ref" => (
    k_here
    (with_reducible show wpAny _ _ (pyIter (Value.ref _)) (Mine.CSrc _ _ _ _ _ _ _ (Expr.Name (PySem.Str.ofString "turn") _) _ _ _ _ _) _ _)
    k_dflt (
      refine' Mine.src_draws _ _ (Mine.SignR Mine.signSet) (by with_reducible assumption) (by exact rfl) (by k_asm) (by k_asm) (by first | exact Mine.Mk.here | exact Mine.Mk.cons (Mine.Mk.here) | exact Mine.Mk.cons (Mine.Mk.cons (Mine.Mk.here)) | exact Mine.Mk.cons (Mine.Mk.cons (Mine.Mk.cons (Mine.Mk.here))) | exact Mine.Mk.cons (Mine.Mk.cons (Mine.Mk.cons (Mine.Mk.cons (Mine.Mk.here)))) | exact Mine.Mk.cons (Mine.Mk.cons (Mine.Mk.cons (Mine.Mk.cons (Mine.Mk.cons (Mine.Mk.here))))) | exact Mine.Mk.cons (Mine.Mk.cons (Mine.Mk.cons (Mine.Mk.cons (Mine.Mk.cons (Mine.Mk.cons (Mine.Mk.here)))))) | exact Mine.Mk.cons (Mine.Mk.cons (Mine.Mk.cons (Mine.Mk.cons (Mine.Mk.cons (Mine.Mk.cons (Mine.Mk.cons (Mine.Mk.here))))))) | exact Mine.Mk.cons (Mine.Mk.cons (Mine.Mk.cons (Mine.Mk.cons (Mine.Mk.cons (Mine.Mk.cons (Mine.Mk.cons (Mine.Mk.cons (Mine.Mk.here)))))))) | exact Mine.Mk.cons (Mine.Mk.cons (Mine.Mk.cons (Mine.Mk.cons (Mine.Mk.cons (Mine.Mk.cons (Mine.Mk.cons (Mine.Mk.cons (Mine.Mk.cons (Mine.Mk.here))))))))) | exact Mine.Mk.cons (Mine.Mk.cons (Mine.Mk.cons (Mine.Mk.cons (Mine.Mk.cons (Mine.Mk.cons (Mine.Mk.cons (Mine.Mk.cons (Mine.Mk.cons (Mine.Mk.cons (Mine.Mk.here)))))))))) | exact Mine.Mk.cons (Mine.Mk.cons (Mine.Mk.cons (Mine.Mk.cons (Mine.Mk.cons (Mine.Mk.cons (Mine.Mk.cons (Mine.Mk.cons (Mine.Mk.cons (Mine.Mk.cons (Mine.Mk.cons (Mine.Mk.here)))))))))))) (by assumption) (by exact rfl) (by exact rfl) (by omega) (by omega) ?_ ?_
      rotate_left
      intro D' h' tk' ys' o9 F' N' hlt' hS9 hy' hln'
      obtain ⟨cs', hS', hl9, hin'⟩ := Mine.signs_of hy'
      clear hy'
      rw [← hl9] at hln'
      clear hl9
      (have hlow' := Mine.all_low hin')
      (have hsz' := Mine.size_low hln' (by omega))
      (try simp only [AllLt, and_true] at hlt')
      (try dsimp only at N')
      (try dsimp only)
      rotate_left
      intro b0' o9 ys' own' C' oC' D' m' h' tk' E' hS9 hC' F' N' hlt' hov' hoD' hb' hDC'
      (try simp only [AllLt, and_true] at hlt')
      (try simp only [List.cons_append, List.nil_append] at N')
      walk_say "THE DRAWS"))
  k_with "call ref" => (
    k_here
    (with_reducible show wpAny _ _ (call (Value.ref 122) [Value.ref _, Value.str _ _]) _ _ _)
    k_dflt (
      refine' Mine.oneS_use (by k_asm) (by k_asm) (by k_asm) (by k_asm) (by k_asm) (by first | exact rfl | assumption) (by first | exact Mine.room1 (by with_reducible assumption) (by decide) | ktr_room) (by first | exact Mine.units1 (by with_reducible assumption) (by decide) | ktr_units) (by k_upd) (by with_reducible assumption) (by decide +kernel) ?_
      intro c9 t9 o9 h9 tk9 hc9 hS9 F9 hN9
      refine' Mine.upd_then0 hN9 (by k_upd) ?_
      clear hN9
      intro N9
      (try dsimp only)
      (try k_fold)
      (try k_sweep)))
  k_with "drawn" => (
    first | exact ⟨_, _, rfl, by omega, by omega⟩ | exact ⟨_, _, by with_unfolding_all assumption, rfl⟩)
  trivial
namespace Mine
section
variable {w : World} {p : Program} {loose : List Str} {mean : ExcName → Option Value} {mg mb : Str → Option Value}
theorem lowered_ct (x : Str) (t : Tok) (news : Led) (hx : ∀ c ∈ x.cps.toList, c ∈ lowSet) (hn : x.cps.size ≤ 256) :
    Ct PySem.Challenge.rw_pf0183_01.row.prog w p loose mean mg mb 43 1 [.str x t] news (fun v news' => (∃ t, v = .str (low x) t) ∧ news' = news) := by
  w_top off
  unfold Ct
  k_fill
  intro dp un gd cn cs af ccd cl outer A₀ base h₀ L m s Q E B F X N T hk hd hu hret
  refine wpAny_call ?_
  k_dflt cell_enter
  k_steps
  all_goals (
    refine' hret _ news _ _ (by k_asm) (cb_drop (by k_asm) ?sub) ⟨⟨_, rfl⟩, rfl⟩
    case sub => exact fun b hb => by repeat (first | exact hb | refine List.mem_cons_of_mem _ ?_))
theorem lowered_use {x : Str} {t : Tok} {news : Led} {dp un : Nat} {gd : Option (List Code)} {cn : Str} {cs : Scope} {af : Addr} {ccd : Value} {cl : List (Str × Addr)} {outer : List Env} {A₀ : Around} {base h₀ : Heap} {L : Addr} {m : Str → Option Value} {s : Shared} {Q E : Value → Shared → Prop} (B : Below A₀ base outer h₀) (F : Fr h₀ L s.heap m) (X : (Mine.hd.heap_39 w.params).In h₀) (N : News h₀ L s.heap news) (T : Top p loose mean mg mb h₀) (hk : cs.kind = .function) (hd : dp + 1 < recursionLimit) (hu : un + 8 * 1 < cLine)
    (hx : ∀ c ∈ x.cps.toList, c ∈ lowSet) (hn : x.cps.size ≤ 256)
    (ret : ∀ (u : Tok) (h' : Heap) (tk' : Nat), Fr h₀ L h' m → News h₀ L h' news → Q (.str (low x) u) { s with heap := h', toks := tk' }) : wpAny (model PySem.Challenge.rw_pf0183_01.row.prog w) (ktrTop dp un gd cn cs L af ccd cl outer) (call (.ref 43) [.str x t]) Q E s :=
  Ct.use (lowered_ct x t news hx hn) B F X N T hk hd hu fun v news' h' tk' F' N' hR => by
    obtain ⟨⟨u, rfl⟩, rfl⟩ := hR
    exact ret u h' tk' F' N'
end
end Mine
theorem Mine.words_19b : True := by
  k_with "call ref" => (
    k_here
    (with_reducible show wpAny _ _ (call (Value.ref 43) _) _ _ _)
    k_dflt (
      refine' Mine.lowered_use (by k_asm) (by k_asm) (by k_asm) (by k_asm) (by k_asm) (by first | exact rfl | assumption) (by first | exact Mine.room1 (by with_reducible assumption) (by decide) | ktr_room) (by first | exact Mine.units1 (by with_reducible assumption) (by decide) | ktr_units) (by first | with_reducible assumption | decide +kernel) (by first | with_reducible assumption | decide +kernel) ?_
      intro t9 h9 tk9 F9 N9
      (try dsimp only)
      (try k_fold)
      (try k_sweep)))
  trivial
namespace Mine
section
variable {w : World} {p : Program} {loose : List Str} {mean : ExcName → Option Value} {mg mb : Str → Option Value}
theorem low_here : (low (Str.ofString "RgB(M") == Str.ofString "rgb(m") = true := by decide +kernel
theorem low_same {cs : List Nat} : (low ⟨cs.toArray⟩ == (⟨(cs.map lowc).toArray⟩ : Str)) = true := beq_self_eq_true _
theorem loweredR_ct (a : Addr) (o : Obj) (news : Led) (ho : Src o) (hne : ∀ b ∈ news, b.1 ≠ a) :
    CtS PySem.Challenge.rw_pf0183_01.row.prog w p loose mean mg mb 161 20 [.ref a] a o news (fun v tl => v = .bool true ∧ tl = []) := by
  w_top off
  unfold CtS Ct
  k_fill
  intro dp un gd cn cs af ccd cl outer A₀ base h₀ L m s Q E B F X N T hk hd hu hret
  refine wpAny_call ?_
  k_dflt (refine' code_defC ?k1 ?k2 ?k3 ?k4 ?k5 ?kA ?kF ?kK ?k6 ?k7 ?k8 ?k9 ?kB ?kD ?_ ?c2 ?c3 ?c4; (case kA => exact rfl); (case kF => exact rfl); (case kK => assumption); (case k1 => k_asm); (case k2 => k_asm); (case k3 => k_asm); (case k4 => k_asm); (case k5 => k_asm); (case k6 => k_is); (case k7 => k_is); (case k8 => ktr_room); (case k9 => exact BindsTo.of_eq rfl); (case kB => exact rfl); (case kD => decide +kernel); (case c2 => exact rfl); (case c3 => exact rfl); (case c4 => exact rfl); k_whole; intro g' L' h' tk' cells' FG' F' N' Y' B' X' T' l1; (have hU9 := Mine.under_of l1); (try k_lt l1); (first | (have hY := Mine.cells_nil Y'; subst hY; clear Y') | k_cells Y'); (try simp only [List.cons_append, List.nil_append] at N'); (try dsimp only); (try k_lift B'); (try k_fold))
  k_steps
  all_goals (
    (first | rw [low_here] | rw [low_same])
    refine' hret _ ((a, _) :: news) _ _ (by k_asm) (cb_drop (by k_asm) ?sub) ⟨_, [], by assumption, ⟨rfl, rfl⟩, rfl, fun _ _ _ hq => nomatch hq⟩
    case sub => exact List.forall_mem_cons.mpr ⟨by kcj_m, fun b hb => by repeat (first | exact hb | refine List.mem_cons_of_mem _ ?_)⟩)
end
end Mine
namespace Mine
section
variable {w : World} {p : Program} {loose : List Str} {mean : ExcName → Option Value} {mg mb : Str → Option Value}
theorem pool_use {l : Addr} {vs : List Value} {ns : List Int} {t0 : Tok} {dp un : Nat} {gd : Option (List Code)} {cn : Str} {cs : Scope} {af : Addr} {ccd : Value} {cl : List (Str × Addr)} {outer : List Env} {A₀ : Around} {base h₀ : Heap} {L : Addr} {m : Str → Option Value} {s : Shared} {news : Led} {Q E : Value → Shared → Prop}
    (B : Below A₀ base outer h₀) (F : Fr h₀ L s.heap m) (X : (Mine.hd.heap_39 w.params).In h₀) (N : News h₀ L s.heap news) (T : Top p loose mean mg mb h₀) (hk : cs.kind = .function) (hd : dp + 1 < recursionLimit) (hu : un + 8 * 1 < cLine)
    (hl : base.IsList l vs.toArray) (hi : IntsAre vs ns) (hn : ns.length < 2 ^ 62)
    (ret : ∀ (a : Addr) (o : Obj) (h' : Heap) (tk' : Nat), Src o → Fr h₀ L h' m → News h₀ L h' ((a, o) :: news) → (∀ b ∈ news, b.1 < a) → Q (.ref a) { s with heap := h', toks := tk' }) :
    wpAny (model PySem.Challenge.rw_pf0183_01.row.prog w) (ktrTop dp un gd cn cs L af ccd cl outer) (call (.ref 108) [.ref l, .int 0 t0]) Q E s :=
  pool_ct l vs ns t0 hi hn dp un gd cn cs af ccd cl outer A₀ base h₀ L m s news Q E hl B F X N T hk hd hu fun v tl h' tk' F' N' hR hlt => by
    obtain ⟨a, o, rfl, rfl, hS⟩ := hR
    exact ret a o h' tk' hS F' N' fun b hb => hlt b hb _ (.head _)
end
end Mine
theorem Mine.words_20a : True := by
  k_with "call ref" => (
    k_here
    (with_reducible show wpAny _ _ (call (Value.ref 139) _) _ _ _)
    k_dflt (
      refine' Mine.CtS.right (by k_asm) (by k_asm) (by k_asm) (by k_asm) (by k_asm) (by first | exact rfl | assumption) (by first | exact Mine.room1 (by with_reducible assumption) (by decide) | ktr_room) (by first | exact Mine.units1 (by with_reducible assumption) (by decide) | ktr_units) (by k_upd) (fun rest hne9 => Mine.shadesR_ct _ _ rest (by with_reducible assumption) hne9) ?_
      intro o9 h9 tk9 hS9 F9 hN9
      refine' Mine.upd_then0 hN9 (by k_upd) ?_
      clear hN9
      intro N9
      (try dsimp only)
      (try k_fold)
      (try k_sweep)
      walk_say "RIGHT 139"))
  k_with "call ref" => (
    k_here
    (with_reducible show wpAny _ _ (call (Value.ref 144) _) _ _ _)
    k_dflt (
      refine' Mine.CtS.right (by k_asm) (by k_asm) (by k_asm) (by k_asm) (by k_asm) (by first | exact rfl | assumption) (by first | exact Mine.room1 (by with_reducible assumption) (by decide) | ktr_room) (by first | exact Mine.units1 (by with_reducible assumption) (by decide) | ktr_units) (by k_upd) (fun rest hne9 => Mine.dimmedR_ct _ _ rest (by with_reducible assumption) hne9) ?_
      intro o9 h9 tk9 hS9 F9 hN9
      refine' Mine.upd_then0 hN9 (by k_upd) ?_
      clear hN9
      intro N9
      (try dsimp only)
      (try k_fold)
      (try k_sweep)
      walk_say "RIGHT 144"))
  k_with "call ref" => (
    k_here
    (with_reducible show wpAny _ _ (call (Value.ref 156) _) _ _ _)
    k_dflt (
      refine' Mine.CtS.right (by k_asm) (by k_asm) (by k_asm) (by k_asm) (by k_asm) (by first | exact rfl | assumption) (by first | exact Mine.room1 (by with_reducible assumption) (by decide) | ktr_room) (by first | exact Mine.units1 (by with_reducible assumption) (by decide) | ktr_units) (by k_upd) (fun rest hne9 => Mine.operators_ct _ _ rest (by with_reducible assumption) hne9) ?_
      intro o9 h9 tk9 hS9 F9 hN9
      refine' Mine.upd_then0 hN9 (by k_upd) ?_
      clear hN9
      intro N9
      (try dsimp only)
      (try k_fold)
      (try k_sweep)
      walk_say "RIGHT 156"))
  k_with "call ref" => (
    k_here
    (with_reducible show wpAny _ _ (call (Value.ref 161) _) _ _ _)
    k_dflt (
      refine' Mine.CtS.right (by k_asm) (by k_asm) (by k_asm) (by k_asm) (by k_asm) (by first | exact rfl | assumption) (by first | exact Mine.room1 (by with_reducible assumption) (by decide) | ktr_room) (by first | exact Mine.units1 (by with_reducible assumption) (by decide) | ktr_units) (by k_upd) (fun rest hne9 => Mine.loweredR_ct _ _ rest (by with_reducible assumption) hne9) ?_
      intro o9 h9 tk9 hS9 F9 hN9
      refine' Mine.upd_then0 hN9 (by k_upd) ?_
      clear hN9
      intro N9
      (try dsimp only)
      (try k_fold)
      (try k_sweep)
      walk_say "RIGHT 161"))
  k_with "call ref" => (
    k_here
    (with_reducible show wpAny _ _ (call (Value.ref 38) _) _ _ _)
    k_dflt (
      refine' Mine.CtP.obj (by k_asm) (by k_asm) (by k_asm) (by k_asm) (by k_asm) (by first | exact rfl | assumption) (by first | exact Mine.room1 (by with_reducible assumption) (by decide) | ktr_room) (by first | exact Mine.units1 (by with_reducible assumption) (by decide) | ktr_units) (Mine.shade_ct _ _ [1, 0, 2] 2 _ (by k_mem) (by exact ⟨_, rfl, IntsAre.cons _ _ (IntsAre.cons _ _ (IntsAre.cons _ _ (IntsAre.cons _ _ IntsAre.nil)))⟩) (by decide) (by decide)) ?_
      intro q9 ob9 h9 tk9 hP9 F9 N9 l9
      (try k_lt l9)
      (try dsimp only)
      (try k_fold)
      (try k_sweep)))
  k_with "call ref" => (
    k_here
    (with_reducible show wpAny _ _ (call (Value.ref 108) _) _ _ _)
    k_dflt (
      refine' Mine.pool_use (by k_asm) (by k_asm) (by k_asm) (by k_asm) (by k_asm) (by first | exact rfl | assumption) (by first | exact Mine.room1 (by with_reducible assumption) (by decide) | ktr_room) (by first | exact Mine.units1 (by with_reducible assumption) (by decide) | ktr_units) (by assumption) (by assumption) (by first | omega | ((have hb9 := len_ints_list (by lay_of)); omega)) ?_
      intro a9 o9 h9 tk9 hS9 F9 N9 l9
      (try k_lt l9)
      (try dsimp only)
      (try k_fold)
      (try k_sweep)
      walk_say "POOL"))
  trivial
set_option maxRecDepth 100000 in
set_option maxHeartbeats 8000000 in
theorem PySem.Challenge.cw_pf0183_01_holds : PySem.Challenge.rw_pf0183_01.Holds := by
  refine Mine.hd ?_
  k_go
