import PyProof.Rows.All
import Wide.All
import OpenK.AllK
import Wide.FinOn
import PySem.Challenge.RW_on0096_01
open PySem PySem.W PyProof.Rows
set_option Elab.async false
set_option maxRecDepth 100000
set_option maxHeartbeats 8000000
set_option rowWalk.seconds 0
set_option linter.unusedVariables false
namespace Mine
/-- the head's first premise in our form: the run of the top alone, from the boot's own state on (the opening is the library's lemma boot_open), by the library's quick twins of topRun, treeTable and openSeen; its looks side by side -/
abbrev LeftX (p q : Program) (loose : List Str) (Xt : Shared → Bool) {α : Type} (Yf : Shared → α) (Ya : World → α) (N : Nat) : Prop :=
  ∀ w : World, (fun os => (Nat.ble 600 N, (boot_heap w.params).isNs mainGlobals,
    (PySem.W.Fast.tw14082659384304107361 PySem.W.Fast.tw14364793385576792824 p w (boot_heap w.params).objs.size ((boot_heap w.params).nsMap mainGlobals "__annotations__") N ⟨boot_heap w.params, Array.mk [], boot_drawn, boot_toks, os⟩ (topStub p)).map fun s =>
      (staticsOk (importedModules p.main.body) (boot_heap w.params) s.heap && namesBound p s.heap && gensDone s && laidKept (boot_heap w.params) s.heap, PySem.W.Fast.tw4187177175401517315 q loose (importedModules p.main.body) Xt true s, Yf s))) =
    fun _ => (true, true, some (true, openGood q loose, Ya w))

theorem left_of {p q : Program} {loose : List Str} {Xt : Shared → Bool} {α : Type} {Yf : Shared → α} {Ya : World → α} {N : Nat}
    (e0 : opening p = plainProg p.main.scope.names) (f : ∀ s, fenceModules? p s = some s)
    (left : LeftX p q loose Xt Yf Ya N) : LeftO p q loose Xt Yf Ya N := fun w => by
  have hN : Nat.ble 600 N = true := congrArg Prod.fst (congrFun (left w) (start (opening p)).1.os)
  obtain ⟨⟨h, gs, d, k, os⟩, e, e'⟩ := Option.map_eq_some_iff.mp (boot_open e0 hN f w)
  obtain ⟨rfl, rfl, rfl, rfl⟩ : h = boot_heap w.params ∧ gs = Array.mk [] ∧ d = boot_drawn ∧ k = boot_toks := by simpa using e'
  have hI : (boot_heap w.params).isNs mainGlobals = true := congrArg (fun x => x.2.1) (congrFun (left w) os)
  obtain ⟨s, hr, hl⟩ := Option.map_eq_some_iff.mp (congrArg (fun x => x.2.2) (congrFun (left w) os))
  rw [← PySem.W.Fast.te14082659384304107361, ← PySem.W.Fast.te14364793385576792824] at hr
  have hk := congrArg Prod.fst hl
  have hs := congrArg (fun x => x.2.1) hl
  have hy := congrArg (fun x => x.2.2) hl
  dsimp only at hk hs hy
  rw [← PySem.W.Fast.te4187177175401517315] at hs
  unfold openEnds
  rw [e]
  show (topFrom treeTable p w N _).map _ = _
  unfold topFrom
  dsimp only
  rw [hI, hr]
  show (match staticsOk (importedModules p.main.body) (boot_heap w.params) s.heap && namesBound p s.heap && gensDone s && laidKept (boot_heap w.params) s.heap with | true => _ | false => _ : Option Shared).map _ = _
  rw [hk]
  exact congrArg some (Prod.ext hs hy)
theorem opening_is : opening PySem.Challenge.rw_on0096_01.row.prog = plainProg PySem.Challenge.rw_on0096_01.row.prog.main.scope.names := by kernel_rfl
theorem fence_is : ∀ s, fenceModules? PySem.Challenge.rw_on0096_01.row.prog s = some s := fun s => by kernel_rfl
end Mine

namespace Mine.PySem.W
/-- the library's head with its first premise in our form: o_head finds this one first, for it stands in our own namespace -/
theorem holds_open {q : Program} {loose : List Str} {Xt : Shared → Bool} {XP : (Str → Option Value) → Heap → Prop} {α : Type} {Yf : Shared → α} {Ya : World → α} {YP : World → Heap → Prop} {d : DefRec} {kwd : List (Str × PySem.Expr)} {N : Nat}
    (left : LeftX PySem.Challenge.rw_on0096_01.row.prog q loose Xt Yf Ya N) :
    type_of% (@_root_.PySem.W.holds_open PySem.Challenge.rw_on0096_01.row q loose Xt XP α Yf Ya YP d kwd N (left_of opening_is fence_is left)) :=
  @_root_.PySem.W.holds_open PySem.Challenge.rw_on0096_01.row q loose Xt XP α Yf Ya YP d kwd N (left_of opening_is fence_is left)
end Mine.PySem.W

namespace Mine
open_top hd for PySem.Challenge.rw_on0096_01
end Mine
namespace Mine
theorem topOff : True := by w_top off; trivial
end Mine
namespace Mine
theorem fillNow : (PySem.Challenge.rw_on0096_01.row.prog, hd.heap_39) = (PySem.Challenge.rw_on0096_01.row.prog, hd.heap_39) := by k_fill; rfl

/-- the facts of the text's top that every contract takes -/
abbrev TopM (mean : ExcName → Option Value) (mg mb : Str → Option Value) (h : Heap) : Prop :=
  Top hd.view_39 (looseW hd.view_39 [Str.ofString "check_target", Str.ofString "check_target_name"]) mean mg mb h

abbrev Led := List (Addr × Obj)

abbrev rowPairs (c : Addr) (at' mix pl : Int) (ta tm tp : Tok) : List (Str × Value) :=
  [(Str.ofString "cells", .ref c), (Str.ofString "at", .int at' ta), (Str.ofString "mix", .int mix tm), (Str.ofString "place", .int pl tp)]

/-- the object o is the row's dict; n: how many cells, c: where they lie -/
def RowIs (w : World) (n : Nat) (c : Addr) (o : Obj) : Prop :=
  ∃ (at' mix pl : Int) (ta tm tp : Tok), Obj.IsDictOf (PySem.strKind PySem.Challenge.rw_on0096_01.row.prog w) o (rowPairs c at' mix pl ta tm tp) ∧
    0 ≤ at' ∧ at' ≤ n ∧ 0 ≤ mix ∧ mix < 911

def CellsIs (n : Nat) (oc : Obj) : Prop := ∃ (ws : List Value) (ns : List Int) (nc : Nat), oc = W.listOf ws.toArray nc ∧ IntsAre ws ns ∧ ns.length = n ∧ n ≤ 50

theorem news_sub {h₀ h : Heap} {L : Addr} {l l' : Led} (N : News h₀ L h l) (hs : ∀ p ∈ l', p ∈ l) : News h₀ L h l' := fun p hp => N p (hs p hp)

abbrev tupO (vs : List Value) (n : Nat) : Obj := { cls := .type "tuple", data := .seq vs.toArray n }
abbrev ent (w : World) (x : Str) (t : Tok) (v : Value) : DictEntry := { hash := PyData.keyHash w.params x, key := .str x t, val := v }

/-- one told row -/
abbrev rowD (kind : Str) (at' : Int) (nm : Str) : Dat := .tuple [.str kind, .int at', .str nm]

/-- names by their number: the tables' ten, sorted, and one unknown name -/
def nameOf : Nat → Str
  | 0 => Str.ofString "P"
  | 1 => Str.ofString "b"
  | 2 => Str.ofString "e"
  | 3 => Str.ofString "f"
  | 4 => Str.ofString "g"
  | 5 => Str.ofString "r"
  | 6 => Str.ofString "t"
  | 7 => Str.ofString "w"
  | 8 => Str.ofString "wi"
  | 9 => Str.ofString "wo"
  | _ => Str.ofString "zz"

/-- the kind of a name's entry -/
def kindOf : Nat → Str
  | 0 => Str.ofString "param"
  | 1 => Str.ofString "block"
  | 2 => Str.ofString "event"
  | 3 => Str.ofString "function"
  | 4 => Str.ofString "genvar"
  | 5 => Str.ofString "var"
  | 6 => Str.ofString "task"
  | 7 => Str.ofString "net"
  | 8 => Str.ofString "net"
  | 9 => Str.ofString "net"
  | _ => Str.ofString "none"

/-- what else the entry holds -/
def moreOf : Nat → Dat
  | 3 => .tuple []
  | 5 => .tuple [.str (Str.ofString ""), .bool false, .bool true]
  | 6 => .tuple []
  | 7 => .tuple [.str (Str.ofString ""), .bool false, .bool true]
  | 8 => .tuple [.str (Str.ofString "input"), .bool true, .bool true]
  | 9 => .tuple [.str (Str.ofString "output"), .bool true, .bool true]
  | _ => .int (-1)

/-- what is told of a name as a target; procedural or not -/
def toldOf (pr : Bool) : Nat → Option Str
  | 0 => some (Str.ofString "constant_assigned")
  | 1 => some (Str.ofString "not_assignable")
  | 2 => some (Str.ofString "not_assignable")
  | 3 => some (Str.ofString "not_assignable")
  | 4 => some (Str.ofString "constant_assigned")
  | 5 => if pr then none else some (Str.ofString "assign_to_variable")
  | 6 => some (Str.ofString "not_assignable")
  | 7 => if pr then some (Str.ofString "assign_to_net") else none
  | 8 => some (Str.ofString "input_assigned")
  | 9 => if pr then some (Str.ofString "assign_to_net") else none
  | _ => some (Str.ofString "undeclared")

/-- the names that stand in selects -/
inductive VN where | zz | p | w
def VN.str : VN → Str
  | .zz => Str.ofString "zz"
  | .p => Str.ofString "P"
  | .w => Str.ofString "w"
abbrev valD (sp : Int) (v : VN) : Dat := .tuple [.str (Str.ofString "id"), .int sp, .str v.str]
def expV (sp : Int) : VN → List Dat
  | .zz => [rowD (Str.ofString "undeclared") sp (Str.ofString "zz")]
  | _ => []
theorem expV_len (sp : Int) (v : VN) : (expV sp v).length ≤ 1 := by cases v <;> simp [expV]

/-- a target -/
inductive Tg where
  | id (sp : Int) (k : Nat)
  | index (sp : Int) (t : Tg) (s1 : Int) (v1 : VN)
  | cat1 (sp : Int) (t : Tg)
  | cat2 (sp : Int) (t u : Tg)
  | cat3 (sp : Int) (t u v : Tg)
  | sel (kind : Str) (sp : Int) (t : Tg) (s1 : Int) (v1 : VN) (s2 : Int) (v2 : VN)
  | path (sp : Int)
  | pathv (sp : Int) (s1 : Int) (v1 : VN)

def Tg.dat : Tg → Dat
  | .id sp k => .tuple [.str (Str.ofString "id"), .int sp, .str (nameOf k)]
  | .index sp t s1 v1 => .tuple [.str (Str.ofString "index"), .int sp, t.dat, valD s1 v1]
  | .cat1 sp t => .tuple [.str (Str.ofString "cat"), .int sp, .tuple [t.dat]]
  | .cat2 sp t u => .tuple [.str (Str.ofString "cat"), .int sp, .tuple [t.dat, u.dat]]
  | .cat3 sp t u v => .tuple [.str (Str.ofString "cat"), .int sp, .tuple [t.dat, u.dat, v.dat]]
  | .sel kind sp t s1 v1 s2 v2 => .tuple [.str kind, .int sp, t.dat, valD s1 v1, valD s2 v2]
  | .path sp => .tuple [.str (Str.ofString "path"), .int sp, .tuple [.tuple [.str (Str.ofString "u"), .none], .tuple [.str (Str.ofString "zz"), .none]]]
  | .pathv sp s1 v1 => .tuple [.str (Str.ofString "path"), .int sp, .tuple [.tuple [.str (Str.ofString "u"), valD s1 v1], .tuple [.str (Str.ofString "zz"), .none]]]

/-- the three words of a part's kind -/
def selWord (x : Str) : Prop := x = Str.ofString "part" ∨ x = Str.ofString "up" ∨ x = Str.ofString "down"

/-- the tree is well made, at most n deep -/
def Tg.Ok : Nat → Tg → Prop
  | _, .id _ k => k ≤ 10
  | n + 1, .index _ t _ _ => t.Ok n
  | n + 1, .cat1 _ t => t.Ok n
  | n + 1, .cat2 _ t u => t.Ok n ∧ u.Ok n
  | n + 1, .cat3 _ t u v => t.Ok n ∧ u.Ok n ∧ v.Ok n
  | n + 1, .sel kind _ t _ _ _ _ => selWord kind ∧ t.Ok n
  | _ + 1, .path _ => True
  | _ + 1, .pathv _ _ _ => True
  | 0, _ => False

/-- what is told of a target -/
def Tg.exp (pr : Bool) : Tg → List Dat
  | .id sp k => match toldOf pr k with | some x => [rowD x sp (nameOf k)] | none => []
  | .index _ t s1 v1 => t.exp pr ++ expV s1 v1
  | .cat1 _ t => t.exp pr
  | .cat2 _ t u => t.exp pr ++ u.exp pr
  | .cat3 _ t u v => t.exp pr ++ u.exp pr ++ v.exp pr
  | .sel _ _ t s1 v1 s2 v2 => t.exp pr ++ expV s1 v1 ++ expV s2 v2
  | .path _ => []
  | .pathv _ s1 v1 => expV s1 v1

theorem Tg.exp_len (pr : Bool) : ∀ (n : Nat) (t : Tg), t.Ok n → (t.exp pr).length ≤ 4 ^ (n + 1) := by
  intro n
  induction n with
  | zero =>
    intro t h
    cases t with
    | id sp k => simp only [Tg.exp]; split <;> simp
    | _ => simp [Tg.Ok] at h
  | succ n ih =>
    intro t h
    have h4 : 4 ^ (n + 1 + 1) = 4 * 4 ^ (n + 1) := by rw [Nat.pow_succ]; omega
    have hp : 4 ≤ 4 ^ (n + 1) := by rw [Nat.pow_succ]; have := Nat.pow_pos (n := n) (show 0 < 4 by decide); omega
    cases t with
    | id sp k => simp only [Tg.exp]; split <;> simp <;> omega
    | index sp t s1 v1 => have := ih t h; have := expV_len s1 v1; simp only [Tg.exp, List.length_append]; omega
    | cat1 sp t => have := ih t h; simp only [Tg.exp]; omega
    | cat2 sp t u => have := ih t h.1; have := ih u h.2; simp only [Tg.exp, List.length_append]; omega
    | cat3 sp t u v => have := ih t h.1; have := ih u h.2.1; have := ih v h.2.2; simp only [Tg.exp, List.length_append]; omega
    | sel kind sp t s1 v1 s2 v2 => have := ih t h.2; have := expV_len s1 v1; have := expV_len s2 v2; simp only [Tg.exp, List.length_append]; omega
    | path sp => simp only [Tg.exp, List.length_nil]; omega
    | pathv sp s1 v1 => have := expV_len s1 v1; simp only [Tg.exp]; omega
end Mine
namespace Mine
theorem fillNow1 : (PySem.Challenge.rw_on0096_01.row.prog, hd.heap_39) = (PySem.Challenge.rw_on0096_01.row.prog, hd.heap_39) := by k_fill; rfl

theorem upd_split {r : Addr} {o : Obj} {news : Led} {g : Obj → Led} (U : UpdF r o news g) :
    ∃ rest : Led, (∀ p ∈ rest, p.1 ≠ r) ∧ (∀ p : Addr × Obj, p ∈ news ↔ p = (r, o) ∨ p ∈ rest) ∧ ∀ (o' : Obj) (p : Addr × Obj), p ∈ g o' ↔ p = (r, o') ∨ p ∈ rest := by
  obtain ⟨pre, post, rfl, hg, h1, h2⟩ := U.split
  refine ⟨pre ++ post, fun p hp => (List.mem_append.mp hp).elim (h1 p) (h2 p), fun p => ?_, fun o' p => ?_⟩
  · simp only [List.mem_append, List.mem_cons]; constructor <;> rintro (h | h | h) <;> simp [h]
  · rw [hg]; simp only [List.mem_append, List.mem_cons]; constructor <;> rintro (h | h | h) <;> simp [h]

section
local macro_rules | `(tactic| walk_at $s:str) => `(tactic| k_extra $s)
local macro_rules | `(tactic| k_all) => `(tactic| assumption)
local macro_rules | `(tactic| news_mem) => `(tactic| (exact .tail _ (by assumption)))

theorem fmod_in (x : Int) {k : Int} (h : 0 < k) : 0 ≤ x.fmod k ∧ x.fmod k < k := ⟨fmod_lo x h, fmod_hi x h⟩

theorem part_canon {w : World} {mean : ExcName → Option Value} {mg mb : Str → Option Value}
    {dp un : Nat} {gd : Option (List Code)} {cn : Str} {cs : Scope} {a : Addr} {ccd : Value} {cl : List (Str × Addr)} {outer : List Env}
    {A₀ : Around} {base h₀ : Heap} {L : Addr} {m : Str → Option Value} {s : Shared} {Q E : Value → Shared → Prop}
    {r c : Addr} {o oc : Obj} {n : Nat} {most : Int} {tmo : Tok} {rest : Led}
    (B : Below A₀ base outer h₀) (F : Fr h₀ L s.heap m) (X : (hd.heap_39 w.params).In h₀) (N : News h₀ L s.heap ((r, o) :: rest)) (T : TopM mean mg mb h₀)
    (hk : cs.kind = .function) (hr : ∀ p ∈ rest, p.1 ≠ r) (hc : (c, oc) ∈ rest) (hrow : RowIs w n c o) (hcells : CellsIs n oc) (hmo : 0 < most) (hdp : dp < 900)
    (ret : ∀ h' tk' o' k tk, Fr h₀ L h' m → News h₀ L h' ((r, o') :: rest) → RowIs w n c o' → 0 ≤ k → k < most → Q (.int k tk) { s with heap := h', toks := tk' }) :
    wpAny (model PySem.Challenge.rw_on0096_01.row.prog w) (ktrTop dp un gd cn cs L a ccd cl outer) (call (.ref 149) [.ref r, .int most tmo]) Q E s := by
  w_top off
  k_with_none
  k_with "exec Assign" => k_fold
  k_with "exec If" => k_fold
  k_with "exec Expr" => k_fold
  k_with "exec Return some" => k_fold
  k_with "exec AugAssign" => k_fold
  k_with "subscriptTail" => ((k_here; (with_reducible show wpAny _ _ (subscriptTail _ _ (Value.ref _) (Value.str _ _)) _ _ _); k_dflt (refine kda_item (knd := PySem.strKind _ _) (by k_asm) (by k_mem) (by k_asm) (strKind_is _ _ _ _) (by rfl) ?_)))
  k_with "setItem ref str" => ((k_here; k_dflt (refine' kda_set (knd := PySem.strKind _ _) ?F ?N ?U ?d (strKind_is _ _ _ _) ?z ?_; (case F => k_asm); (case N => k_asm); (case U => k_updF); (case d => k_asm); (case z => kob_size)); intro h' o' F' N' hd'; (try kob_lit); (try dsimp only at N')))
  obtain ⟨at', mix, pl, ta, tm, tp, hd, hat0, hat1, hm0, hm1⟩ := hrow
  obtain ⟨ws, ns, nc, rfl, hI, hn, hn50⟩ := hcells
  refine wpAny_call ?_
  k_dflt ktr_enter
  k_steps
  all_goals (
    have a1 := fmod_in (mix * 29 + 13) (show (0 : Int) < 911 by decide)
    have a2 := fun x => fmod_in x hmo)
  · exact ret _ _ _ _ _ (by k_asm) (by k_asm) ⟨_, _, _, _, _, _, by k_asm, by omega, by omega, by omega, by omega⟩ (a2 _).1 (a2 _).2
  · exact ret _ _ _ _ _ (by k_asm) (by k_asm) ⟨_, _, _, _, _, _, by k_asm, by omega, by omega, by omega, by omega⟩ (a2 _).1 (a2 _).2
  · exact ret _ _ _ _ _ (by k_asm) (by k_asm) ⟨_, _, _, _, _, _, by k_asm, by omega, by omega, by omega, by omega⟩ (by omega) (by omega)

theorem place_canon {w : World} {mean : ExcName → Option Value} {mg mb : Str → Option Value}
    {dp un : Nat} {gd : Option (List Code)} {cn : Str} {cs : Scope} {a : Addr} {ccd : Value} {cl : List (Str × Addr)} {outer : List Env}
    {A₀ : Around} {base h₀ : Heap} {L : Addr} {m : Str → Option Value} {s : Shared} {Q E : Value → Shared → Prop}
    {r c : Addr} {o : Obj} {n : Nat} {rest : Led}
    (B : Below A₀ base outer h₀) (F : Fr h₀ L s.heap m) (X : (hd.heap_39 w.params).In h₀) (N : News h₀ L s.heap ((r, o) :: rest)) (T : TopM mean mg mb h₀)
    (hk : cs.kind = .function) (hr : ∀ p ∈ rest, p.1 ≠ r) (hrow : RowIs w n c o) (hdp : dp < 900)
    (ret : ∀ h' tk' o' k tk, Fr h₀ L h' m → News h₀ L h' ((r, o') :: rest) → RowIs w n c o' → Q (.int k tk) { s with heap := h', toks := tk' }) :
    wpAny (model PySem.Challenge.rw_on0096_01.row.prog w) (ktrTop dp un gd cn cs L a ccd cl outer) (call (.ref 163) [.ref r]) Q E s := by
  w_top off
  k_with_none
  k_with "exec Assign" => k_fold
  k_with "exec If" => k_fold
  k_with "exec Expr" => k_fold
  k_with "exec Return some" => k_fold
  k_with "exec AugAssign" => k_fold
  k_with "subscriptTail" => ((k_here; (with_reducible show wpAny _ _ (subscriptTail _ _ (Value.ref _) (Value.str _ _)) _ _ _); k_dflt (refine kda_item (knd := PySem.strKind _ _) (by k_asm) (by k_mem) (by k_asm) (strKind_is _ _ _ _) (by rfl) ?_)))
  k_with "setItem ref str" => ((k_here; k_dflt (refine' kda_set (knd := PySem.strKind _ _) ?F ?N ?U ?d (strKind_is _ _ _ _) ?z ?_; (case F => k_asm); (case N => k_asm); (case U => k_updF); (case d => k_asm); (case z => kob_size)); intro h' o' F' N' hd'; (try kob_lit); (try dsimp only at N')))
  obtain ⟨at', mix, pl, ta, tm, tp, hd, hat0, hat1, hm0, hm1⟩ := hrow
  refine wpAny_call ?_
  k_dflt ktr_enter
  k_steps
  exact ret _ _ _ _ _ (by k_asm) (by k_asm) ⟨_, _, _, _, _, _, by k_asm, by omega, by omega, by omega, by omega⟩
end

theorem part_spec {w : World} {mean : ExcName → Option Value} {mg mb : Str → Option Value}
    {dp un : Nat} {gd : Option (List Code)} {cn : Str} {cs : Scope} {a : Addr} {ccd : Value} {cl : List (Str × Addr)} {outer : List Env}
    {A₀ : Around} {base h₀ : Heap} {L : Addr} {m : Str → Option Value} {s : Shared} {Q E : Value → Shared → Prop}
    {r c : Addr} {o oc : Obj} {n : Nat} {most : Int} {tmo : Tok} {news : Led} {g : Obj → Led}
    (B : Below A₀ base outer h₀) (F : Fr h₀ L s.heap m) (X : (hd.heap_39 w.params).In h₀) (N : News h₀ L s.heap news) (T : TopM mean mg mb h₀)
    (hk : cs.kind = .function) (hrow : RowIs w n c o) (U : UpdF r o news g) (hc : (c, oc) ∈ news) (hcr : @Ne Nat c r) (hcells : CellsIs n oc) (hmo : 0 < most) (hdp : dp < 900)
    (ret : ∀ h' tk' o' k tk, Fr h₀ L h' m → News h₀ L h' (g o') → RowIs w n c o' → 0 ≤ k → k < most → Q (.int k tk) { s with heap := h', toks := tk' }) :
    wpAny (model PySem.Challenge.rw_on0096_01.row.prog w) (ktrTop dp un gd cn cs L a ccd cl outer) (call (.ref 149) [.ref r, .int most tmo]) Q E s := by
  obtain ⟨rest, h1, h2, h3⟩ := upd_split U
  refine part_canon (rest := rest) B F X (news_sub N fun p hp => (h2 p).mpr (List.mem_cons.mp hp)) T hk h1 ?_ hrow hcells hmo hdp fun h' tk' o' k tk F' N' R' h0 h1 => ret h' tk' o' k tk F' (news_sub N' fun p hp => List.mem_cons.mpr ((h3 o' p).mp hp)) R' h0 h1
  rcases (h2 _).mp hc with e | e
  · exact absurd (congrArg Prod.fst e) hcr
  · exact e

theorem place_spec {w : World} {mean : ExcName → Option Value} {mg mb : Str → Option Value}
    {dp un : Nat} {gd : Option (List Code)} {cn : Str} {cs : Scope} {a : Addr} {ccd : Value} {cl : List (Str × Addr)} {outer : List Env}
    {A₀ : Around} {base h₀ : Heap} {L : Addr} {m : Str → Option Value} {s : Shared} {Q E : Value → Shared → Prop}
    {r c : Addr} {o : Obj} {n : Nat} {news : Led} {g : Obj → Led}
    (B : Below A₀ base outer h₀) (F : Fr h₀ L s.heap m) (X : (hd.heap_39 w.params).In h₀) (N : News h₀ L s.heap news) (T : TopM mean mg mb h₀)
    (hk : cs.kind = .function) (hrow : RowIs w n c o) (U : UpdF r o news g) (hdp : dp < 900)
    (ret : ∀ h' tk' o' k tk, Fr h₀ L h' m → News h₀ L h' (g o') → RowIs w n c o' → Q (.int k tk) { s with heap := h', toks := tk' }) :
    wpAny (model PySem.Challenge.rw_on0096_01.row.prog w) (ktrTop dp un gd cn cs L a ccd cl outer) (call (.ref 163) [.ref r]) Q E s := by
  obtain ⟨rest, h1, h2, h3⟩ := upd_split U
  exact place_canon (rest := rest) B F X (news_sub N fun p hp => (h2 p).mpr (List.mem_cons.mp hp)) T hk h1 hrow hdp fun h' tk' o' k tk F' N' R' => ret h' tk' o' k tk F' (news_sub N' fun p hp => List.mem_cons.mpr ((h3 o' p).mp hp)) R'
end Mine
namespace Mine
theorem fillNow2 : (PySem.Challenge.rw_on0096_01.row.prog, hd.heap_39) = (PySem.Challenge.rw_on0096_01.row.prog, hd.heap_39) := by k_fill; rfl

/-- the list object holds these data -/
def ListIs (T : Led) (o : Obj) (ds : List Dat) : Prop := ∃ (vs : List Value) (k : Nat), o = W.listOf vs.toArray k ∧ DatAll T vs ds
theorem ListIs.mono {T T' : Led} {o : Obj} {ds : List Dat} (h : ListIs T o ds) (hs : ∀ p ∈ T, p ∈ T') : ListIs T' o ds := let ⟨vs, k, e, h⟩ := h; ⟨vs, k, e, h.mono hs⟩

/-- the builder's state: the row's dict, the due rows, the cells; T: where the due rows' data lie, rest: all else that stands -/
structure BS (w : World) (n : Nat) (r d c : Addr) (o od oc : Obj) (T rest : Led) (due : List Dat) : Prop where
  row : RowIs w n c o
  cells : CellsIs n oc
  hc : (c, oc) ∈ rest
  dr : @Ne Nat d r
  hr : ∀ p ∈ rest, p.1 ≠ r
  hd : ∀ p ∈ rest, p.1 ≠ d
  sub : ∀ p ∈ T, p ∈ rest
  due : ListIs T od due

theorem BS.cr {w : World} {n : Nat} {r d c : Addr} {o od oc : Obj} {T rest : Led} {due : List Dat} (S : BS w n r d c o od oc T rest due) : @Ne Nat c r := S.hr _ S.hc

/-- what is made lies above what stood -/
abbrev Above (tl rest : Led) : Prop := ∀ p ∈ tl, ∀ q ∈ rest, @LT.lt Nat _ q.1 p.1
theorem above_one {A : Addr} {o : Obj} {rest : Led} (h : AllLt A rest) : Above [(A, o)] rest := fun p hp q hq => by rw [List.mem_singleton.mp hp]; exact ktn_ltOf h q hq
theorem above_cons {A : Addr} {o : Obj} {tl rest : Led} (h : AllLt A rest) (k : Above tl rest) : Above ((A, o) :: tl) rest := fun p hp q hq => by
  rcases List.mem_cons.mp hp with rfl | hp
  · exact ktn_ltOf h q hq
  · exact k p hp q hq
theorem above_app {tl tl' rest : Led} (h : Above tl' (tl ++ rest)) (k : Above tl rest) : Above (tl' ++ tl) rest := fun p hp q hq => by
  rcases List.mem_append.mp hp with hp | hp
  · exact h p hp q (List.mem_append.mpr (.inr hq))
  · exact k p hp q hq
theorem above_nil {rest : Led} : Above [] rest := fun _ hp => nomatch hp
theorem allLt_app {A : Addr} : ∀ {tl rest : Led}, AllLt A (tl ++ rest) → AllLt A rest
  | [], _, h => h
  | _ :: _, _, h => allLt_app h.2
theorem sub_app {tl T rest : Led} (h : ∀ p ∈ T, p ∈ rest) : ∀ p ∈ tl ++ T, p ∈ tl ++ rest := fun p hp => List.mem_append.mpr ((List.mem_append.mp hp).imp id (h p))
theorem sub_r {tl T : Led} : ∀ p ∈ T, p ∈ tl ++ T := fun _ hp => List.mem_append.mpr (.inr hp)
theorem sub_l {tl T : Led} : ∀ p ∈ tl, p ∈ tl ++ T := fun _ hp => List.mem_append.mpr (.inl hp)

theorem due_push {T : Led} {vs : List Value} {k : Nat} {ds : List Dat} {v : Value} {d : Dat} {T' : Led} (h : DatAll T vs ds) (hs : ∀ p ∈ T, p ∈ T') (hv : DatIn T' v d) : ListIs T' (W.listOf (vs.toArray.push v) k) (ds ++ [d]) :=
  ⟨vs ++ [v], k, by simp, (h.mono hs).append (.one hv)⟩

theorem due_same {T T' : Led} {vs : List Value} {k : Nat} {ds : List Dat} (h : DatAll T vs ds) (hs : ∀ p ∈ T, p ∈ T') : ListIs T' (W.listOf vs.toArray k) (ds ++ []) :=
  ⟨vs, k, rfl, by rw [List.append_nil]; exact h.mono hs⟩
theorem rot1 {h₀ h : Heap} {L : Addr} {p a b : Addr × Obj} {l : Led} (N : News h₀ L h (p :: a :: b :: l)) : News h₀ L h (a :: b :: p :: l) :=
  news_sub N fun x hx => by simp only [List.mem_cons] at hx ⊢; rcases hx with hx | hx | hx | hx <;> simp [hx]
theorem rot2 {h₀ h : Heap} {L : Addr} {p q a b : Addr × Obj} {l : Led} (N : News h₀ L h (p :: q :: a :: b :: l)) : News h₀ L h (a :: b :: p :: q :: l) :=
  news_sub N fun x hx => by simp only [List.mem_cons] at hx ⊢; rcases hx with hx | hx | hx | hx | hx <;> simp [hx]
theorem apart_cons {r D : Addr} {o : Obj} {l : Led} (h : ∀ p ∈ l, p.1 ≠ r) (hD : @LT.lt Nat _ r D) : ∀ p ∈ (D, o) :: l, p.1 ≠ r := fun p hp => by
  rcases List.mem_cons.mp hp with rfl | hp
  · exact Nat.ne_of_gt hD
  · exact h p hp
theorem sub1 {p : Addr × Obj} {l : Led} : ∀ x ∈ l, x ∈ p :: l := fun _ h => .tail _ h
theorem sub2 {p q : Addr × Obj} {l : Led} : ∀ x ∈ l, x ∈ p :: q :: l := fun _ h => .tail _ (.tail _ h)
theorem dat3 {T : Led} {a : Addr} {x y : Str} {i : Int} {t1 t2 t3 : Tok} {n : Nat} (h : (a, tupO [.str x t1, .int i t2, .str y t3] n) ∈ T) : DatIn T (.ref a) (.tuple [.str x, .int i, .str y]) :=
  .tuple h (.cons (.str _ _) (.cons (.int _ _) (.cons (.str _ _) .nil)))

theorem item_two {prog : Program} {w : World} {A : Around} {E : Value → Shared → Prop} {s : Shared} {h₀ : Heap} {L l : Addr} {news : Led} {value slice : PySem.Expr} {v0 v1 : Value} {n : Nat} {k : Int} {u : Tok} {Q : Value → Shared → Prop}
    (N : News h₀ L s.heap news) (hm : (l, W.listOf [v0, v1].toArray n) ∈ news) (h0 : 0 ≤ k) (h1 : k < 2)
    (hs : ∀ j : Int, subscripted slice false (.ref l) (.int j u) = operate [.ref l, .int j u] (getItem (.ref l) (.int j u)))
    (a : k = 0 → Q v0 s) (b : k = 1 → Q v1 s) : wpAny (model prog w) A (subscriptTail value slice (.ref l) (.int k u)) Q E s := by
  have hL : s.heap.IsList l [v0, v1].toArray := ⟨_, (N _ hm).1, rfl, n, rfl⟩
  have e : k = 0 ∨ k = 1 := by omega
  rcases e with rfl | rfl
  · exact tail_any hL.typeIs slot_list_getitem.lookup (wpAny_getItem_list hL (by decide) (by decide) (by rfl) (a rfl)) (hs _)
  · exact tail_any hL.typeIs slot_list_getitem.lookup (wpAny_getItem_list hL (by decide) (by decide) (by rfl) (b rfl)) (hs _)
theorem item_three {prog : Program} {w : World} {A : Around} {E : Value → Shared → Prop} {s : Shared} {h₀ : Heap} {L l : Addr} {news : Led} {value slice : PySem.Expr} {v0 v1 v2 : Value} {n : Nat} {k : Int} {u : Tok} {Q : Value → Shared → Prop}
    (N : News h₀ L s.heap news) (hm : (l, W.listOf [v0, v1, v2].toArray n) ∈ news) (h0 : 0 ≤ k) (h1 : k < 3)
    (hs : ∀ j : Int, subscripted slice false (.ref l) (.int j u) = operate [.ref l, .int j u] (getItem (.ref l) (.int j u)))
    (a : k = 0 → Q v0 s) (b : k = 1 → Q v1 s) (c : k = 2 → Q v2 s) : wpAny (model prog w) A (subscriptTail value slice (.ref l) (.int k u)) Q E s := by
  have hL : s.heap.IsList l [v0, v1, v2].toArray := ⟨_, (N _ hm).1, rfl, n, rfl⟩
  have e : k = 0 ∨ k = 1 ∨ k = 2 := by omega
  rcases e with rfl | rfl | rfl
  · exact tail_any hL.typeIs slot_list_getitem.lookup (wpAny_getItem_list hL (by decide) (by decide) (by rfl) (a rfl)) (hs _)
  · exact tail_any hL.typeIs slot_list_getitem.lookup (wpAny_getItem_list hL (by decide) (by decide) (by rfl) (b rfl)) (hs _)
  · exact tail_any hL.typeIs slot_list_getitem.lookup (wpAny_getItem_list hL (by decide) (by decide) (by rfl) (c rfl)) (hs _)

section
local macro_rules | `(tactic| walk_at $s:str) => `(tactic| k_extra $s)
local macro_rules | `(tactic| k_all) => `(tactic| assumption)
local macro_rules | `(tactic| k_mem) => `(tactic| assumption)

theorem value_spec {w : World} {mean : ExcName → Option Value} {mg mb : Str → Option Value}
    {dp un : Nat} {gd : Option (List Code)} {cn : Str} {cs : Scope} {a : Addr} {ccd : Value} {cl : List (Str × Addr)} {outer : List Env}
    {A₀ : Around} {base h₀ : Heap} {L : Addr} {m : Str → Option Value} {s : Shared} {Q E : Value → Shared → Prop}
    {r d c : Addr} {o od oc : Obj} {n : Nat} {T0 rest : Led} {due : List Dat}
    (B : Below A₀ base outer h₀) (F : Fr h₀ L s.heap m) (X : (hd.heap_39 w.params).In h₀) (N : News h₀ L s.heap ((r, o) :: (d, od) :: rest)) (T : TopM mean mg mb h₀)
    (hk : cs.kind = .function) (S : BS w n r d c o od oc T0 rest due) (hsz : due.length + 1 ≤ 1000000) (hdp : dp < 890)
    (ret : ∀ h' tk' o' od' tl rest' v sp x, Fr h₀ L h' m → News h₀ L h' ((r, o') :: (d, od') :: rest') → rest' = tl ++ rest → BS w n r d c o' od' oc (tl ++ T0) rest' (due ++ expV sp x) → Above tl rest →
      DatIn tl v (valD sp x) → Q v { s with heap := h', toks := tk' }) :
    wpAny (model PySem.Challenge.rw_on0096_01.row.prog w) (ktrTop dp un gd cn cs L a ccd cl outer) (call (.ref 170) [.ref r, .ref d]) Q E s := by
  w_top off
  k_with_none
  k_with "exec Assign" => k_fold
  k_with "exec If" => k_fold
  k_with "exec Expr" => k_fold
  k_with "exec Return some" => k_fold
  k_with "exec AugAssign" => k_fold
  k_with "subscriptTail" => ((k_here; (with_reducible show wpAny _ _ (subscriptTail _ _ (Value.ref _) (Value.int _ _)) _ _ _); k_dflt (refine' item_two ?k1 ?k2 ?k3 ?k4 ?k5 ?_ ?_; (case k1 => k_asm); (case k2 => k_mem); (case k3 => assumption); (case k4 => assumption); (case k5 => intro _; with_unfolding_all rfl)); all_goals (intro hk2'; try k_fold)))
  k_with "call builtin:list.append" => ((k_here; (with_reducible show wpAny _ _ (call (Value.builtin _) [Value.ref _, _]) _ _ _); k_dflt (refine' append_K ?k1 ?k2 ?k3 ?_ ?z; (case k1 => k_asm); (case k2 => k_asm); (case k3 => k_upd); (case z => (simp only [List.size_toArray]; rw [sizeLine_eq]; omega)); k_whole); intro h' F' N'))
  k_with "call ref" => ((k_here; k_dflt (refine' place_spec ?k1 ?k2 ?k3 ?k4 ?k5 ?k6 ?k7 ?k8 ?k9 ?_; (case k1 => k_asm); (case k2 => k_asm); (case k3 => k_asm); (case k4 => k_asm); (case k5 => k_asm); (case k6 => first | exact rfl | assumption); (case k7 => k_asm); (case k8 => k_updF); (case k9 => (dsimp only [ktrTop, Around.deeper]; omega))); k_whole; intro h' tk' o' k' t' F' N' R'; (try dsimp only at N'); (try k_fold)))
  k_with "call ref" => ((k_here; k_dflt (refine' part_spec ?k1 ?k2 ?k3 ?k4 ?k5 ?k6 ?k7 ?k8 ?kc ?kr ?ks ?km ?k9 ?_; (case k1 => k_asm); (case k2 => k_asm); (case k3 => k_asm); (case k4 => k_asm); (case k5 => k_asm); (case k6 => first | exact rfl | assumption); (case k7 => k_asm); (case k8 => k_updF); (case ks => assumption); (case kc => k_mem); (case kr => assumption); (case km => decide); (case k9 => (dsimp only [ktrTop, Around.deeper]; omega))); k_whole; intro h' tk' o' k' t' F' N' R' hk0' hk1'; (try dsimp only at N'); (try k_fold)))
  have hcr := S.cr
  obtain ⟨hrow, hcells, hc, hdr, hr, hd, hsub, ⟨vs, kd, rfl, hdue⟩⟩ := S
  have hvl := hdue.length
  refine wpAny_call ?_
  k_dflt ktr_enter
  k_steps
  · exact ret _ _ _ _ [_, _] _ _ _ .zz (by k_asm) (rot2 (by k_asm)) rfl
      ⟨by assumption, hcells, .tail _ (.tail _ hc), hdr, apart_cons (apart_cons hr (by omega)) (by omega), apart_cons (apart_cons hd (by omega)) (by omega), sub_app hsub, due_push hdue sub2 (dat3 (.tail _ (.head _)))⟩
      (above_cons (by tbn_find) (above_one (by tbn_find))) (dat3 (.head _))
  · exact ret _ _ _ _ [_, _] _ _ _ .p (by k_asm) (rot2 (by k_asm)) rfl
      ⟨by assumption, hcells, .tail _ (.tail _ hc), hdr, apart_cons (apart_cons hr (by omega)) (by omega), apart_cons (apart_cons hd (by omega)) (by omega), sub_app hsub, due_same hdue sub2⟩
      (above_cons (by tbn_find) (above_one (by tbn_find))) (dat3 (.head _))
  · exact ret _ _ _ _ [_, _] _ _ _ .w (by k_asm) (rot2 (by k_asm)) rfl
      ⟨by assumption, hcells, .tail _ (.tail _ hc), hdr, apart_cons (apart_cons hr (by omega)) (by omega), apart_cons (apart_cons hd (by omega)) (by omega), sub_app hsub, due_same hdue sub2⟩
      (above_cons (by tbn_find) (above_one (by tbn_find))) (dat3 (.head _))
end
end Mine
namespace Mine
theorem fillNow3 : (PySem.Challenge.rw_on0096_01.row.prog, hd.heap_39) = (PySem.Challenge.rw_on0096_01.row.prog, hd.heap_39) := by k_fill; rfl

theorem BS.setRow {w : World} {n : Nat} {r d c : Addr} {o o' od oc : Obj} {T0 rest : Led} {due : List Dat} (S : BS w n r d c o od oc T0 rest due) (R : RowIs w n c o') : BS w n r d c o' od oc T0 rest due :=
  ⟨R, S.cells, S.hc, S.dr, S.hr, S.hd, S.sub, S.due⟩

theorem BS.more {w : World} {n : Nat} {r d c : Addr} {o od oc : Obj} {T0 rest : Led} {due : List Dat} {A : Addr} {ob : Obj} (S : BS w n r d c o od oc T0 rest due) (h1 : @LT.lt Nat _ r A) (h2 : @LT.lt Nat _ d A) : BS w n r d c o od oc ((A, ob) :: T0) ((A, ob) :: rest) due :=
  ⟨S.row, S.cells, .tail _ S.hc, S.dr, apart_cons S.hr h1, apart_cons S.hd h2, sub_app (tl := [(A, ob)]) S.sub, S.due.mono sub1⟩
theorem BS.skip {w : World} {n : Nat} {r d c : Addr} {o od oc : Obj} {T0 rest : Led} {due : List Dat} {A : Addr} {ob : Obj} (S : BS w n r d c o od oc T0 rest due) (h1 : @Ne Nat A r) (h2 : @Ne Nat A d) : BS w n r d c o od oc T0 ((A, ob) :: rest) due :=
  ⟨S.row, S.cells, .tail _ S.hc, S.dr, List.forall_mem_cons.mpr ⟨h1, S.hr⟩, List.forall_mem_cons.mpr ⟨h2, S.hd⟩, fun p hp => .tail _ (S.sub p hp), S.due⟩
theorem BS.re {w : World} {n : Nat} {r d c : Addr} {o od oc : Obj} {T0 T1 rest : Led} {due due' : List Dat} (S : BS w n r d c o od oc T0 rest due) (e : T1 = T0) (h : due' = due) : BS w n r d c o od oc T1 rest due' := by rw [e, h]; exact S

theorem part_bs {w : World} {mean : ExcName → Option Value} {mg mb : Str → Option Value}
    {dp un : Nat} {gd : Option (List Code)} {cn : Str} {cs : Scope} {a : Addr} {ccd : Value} {cl : List (Str × Addr)} {outer : List Env}
    {A₀ : Around} {base h₀ : Heap} {L : Addr} {m : Str → Option Value} {s : Shared} {Q E : Value → Shared → Prop}
    {r d c : Addr} {o od oc : Obj} {n : Nat} {most : Int} {tmo : Tok} {news T0 rest : Led} {due : List Dat} {g : Obj → Led}
    (B : Below A₀ base outer h₀) (F : Fr h₀ L s.heap m) (X : (hd.heap_39 w.params).In h₀) (N : News h₀ L s.heap news) (T : TopM mean mg mb h₀)
    (hk : cs.kind = .function) (S : BS w n r d c o od oc T0 rest due) (U : UpdF r o news g) (hc : (c, oc) ∈ news) (hmo : 0 < most) (hdp : dp < 900)
    (ret : ∀ h' tk' o' k tk, Fr h₀ L h' m → News h₀ L h' (g o') → BS w n r d c o' od oc T0 rest due → 0 ≤ k → k < most → Q (.int k tk) { s with heap := h', toks := tk' }) :
    wpAny (model PySem.Challenge.rw_on0096_01.row.prog w) (ktrTop dp un gd cn cs L a ccd cl outer) (call (.ref 149) [.ref r, .int most tmo]) Q E s :=
  part_spec B F X N T hk S.row U hc S.cr S.cells hmo hdp fun h' tk' o' k tk F' N' R' h0 h1 => ret h' tk' o' k tk F' N' (S.setRow R') h0 h1

theorem place_bs {w : World} {mean : ExcName → Option Value} {mg mb : Str → Option Value}
    {dp un : Nat} {gd : Option (List Code)} {cn : Str} {cs : Scope} {a : Addr} {ccd : Value} {cl : List (Str × Addr)} {outer : List Env}
    {A₀ : Around} {base h₀ : Heap} {L : Addr} {m : Str → Option Value} {s : Shared} {Q E : Value → Shared → Prop}
    {r d c : Addr} {o od oc : Obj} {n : Nat} {news T0 rest : Led} {due : List Dat} {g : Obj → Led}
    (B : Below A₀ base outer h₀) (F : Fr h₀ L s.heap m) (X : (hd.heap_39 w.params).In h₀) (N : News h₀ L s.heap news) (T : TopM mean mg mb h₀)
    (hk : cs.kind = .function) (S : BS w n r d c o od oc T0 rest due) (U : UpdF r o news g) (hdp : dp < 900)
    (ret : ∀ h' tk' o' k tk, Fr h₀ L h' m → News h₀ L h' (g o') → BS w n r d c o' od oc T0 rest due → Q (.int k tk) { s with heap := h', toks := tk' }) :
    wpAny (model PySem.Challenge.rw_on0096_01.row.prog w) (ktrTop dp un gd cn cs L a ccd cl outer) (call (.ref 163) [.ref r]) Q E s :=
  place_spec B F X N T hk S.row U hdp fun h' tk' o' k tk F' N' R' => ret h' tk' o' k tk F' N' (S.setRow R')

/-- two bounds, or None -/
def pairD : Option (Int × VN × Int × VN) → Dat
  | none => .none
  | some (s1, v1, s2, v2) => .tuple [valD s1 v1, valD s2 v2]
def expP : Option (Int × VN × Int × VN) → List Dat
  | none => []
  | some (s1, v1, s2, v2) => expV s1 v1 ++ expV s2 v2
theorem expP_len (x) : (expP x).length ≤ 2 := by
  rcases x with _ | ⟨s1, v1, s2, v2⟩
  · simp [expP]
  · have := expV_len s1 v1; have := expV_len s2 v2; simp only [expP, List.length_append]; omega

section
local macro_rules | `(tactic| walk_at $s:str) => `(tactic| k_extra $s)
local macro_rules | `(tactic| k_all) => `(tactic| assumption)
local macro_rules | `(tactic| k_mem) => `(tactic| assumption)

theorem pair_spec {w : World} {mean : ExcName → Option Value} {mg mb : Str → Option Value}
    {dp un : Nat} {gd : Option (List Code)} {cn : Str} {cs : Scope} {a : Addr} {ccd : Value} {cl : List (Str × Addr)} {outer : List Env}
    {A₀ : Around} {base h₀ : Heap} {L : Addr} {m : Str → Option Value} {s : Shared} {Q E : Value → Shared → Prop}
    {r d c : Addr} {o od oc : Obj} {n : Nat} {T0 rest : Led} {due : List Dat}
    (B : Below A₀ base outer h₀) (F : Fr h₀ L s.heap m) (X : (hd.heap_39 w.params).In h₀) (N : News h₀ L s.heap ((r, o) :: (d, od) :: rest)) (T : TopM mean mg mb h₀)
    (hk : cs.kind = .function) (S : BS w n r d c o od oc T0 rest due) (hsz : due.length + 2 ≤ 1000000) (hdp : dp < 880)
    (ret : ∀ h' tk' o' od' tl rest' v x, Fr h₀ L h' m → News h₀ L h' ((r, o') :: (d, od') :: rest') → rest' = tl ++ rest → BS w n r d c o' od' oc (tl ++ T0) rest' (due ++ expP x) → Above tl rest →
      DatIn tl v (pairD x) → Q v { s with heap := h', toks := tk' }) :
    wpAny (model PySem.Challenge.rw_on0096_01.row.prog w) (ktrTop dp un gd cn cs L a ccd cl outer) (call (.ref 182) [.ref r, .ref d]) Q E s := by
  w_top off
  k_with_none
  k_with "exec Assign" => k_fold
  k_with "exec If" => k_fold
  k_with "exec Expr" => k_fold
  k_with "exec Return some" => k_fold
  k_with "exec AugAssign" => k_fold
  k_with "call ref" => ((k_here; k_dflt (refine' place_bs ?k1 ?k2 ?k3 ?k4 ?k5 ?k6 ?k7 ?k8 ?k9 ?_; (case k1 => k_asm); (case k2 => k_asm); (case k3 => k_asm); (case k4 => k_asm); (case k5 => k_asm); (case k6 => first | exact rfl | assumption); (case k7 => assumption); (case k8 => k_updF); (case k9 => (dsimp only [ktrTop, Around.deeper]; omega))); k_whole; intro h' tk' o' k' t' F' N' S'; (try dsimp only at N'); (try k_fold)))
  k_with "call ref" => ((k_here; k_dflt (refine' part_bs ?k1 ?k2 ?k3 ?k4 ?k5 ?k6 ?k7 ?k8 ?kc ?km ?k9 ?_; (case k1 => k_asm); (case k2 => k_asm); (case k3 => k_asm); (case k4 => k_asm); (case k5 => k_asm); (case k6 => first | exact rfl | assumption); (case k7 => assumption); (case k8 => k_updF); (case kc => k_mem); (case km => decide); (case k9 => (dsimp only [ktrTop, Around.deeper]; omega))); k_whole; intro h' tk' o' k' t' F' N' S' hk0' hk1'; (try dsimp only at N'); (try k_fold)))
  k_with "call ref" => ((k_here; k_dflt (refine' value_spec ?k1 ?k2 ?k3 ?k4 ?k5 ?k6 ?k7 ?k8 ?k9 ?_; (case k1 => k_asm); (case k2 => k_asm); (case k3 => k_asm); (case k4 => k_asm); (case k5 => k_asm); (case k6 => first | exact rfl | assumption); (case k7 => assumption); (case k8 => ((try simp only [List.length_append]); omega)); (case k9 => (dsimp only [ktrTop, Around.deeper]; omega))); k_whole; intro h' tk' o' od' tl' rest' v' sp' x' F' N' e' S' hs' D'; (have hc' := S'.hc); (have hr' := S'.hr); (have hd' := S'.hd); (have hl' := expV_len sp' x'); (try k_fold)))
  have hc := S.hc
  have hr := S.hr
  have hd := S.hd
  have hdr := S.dr
  refine wpAny_call ?_
  k_dflt ktr_enter
  k_steps
  · rename_i ha1 tk1 o1 od1 tl1 T1 v1 s1 x1 e1 S1 hs1 D1 hc1 hr1 hd1 hl1 A h3 F3 N3 l3 kF kN Tc kX
    subst e1 e'
    exact ret _ _ _ _ ((A, tupO [v1, v'] 0) :: (tl' ++ tl1)) _ _ (some (s1, x1, sp', x')) kF (rot1 kN) (by simp) ((S'.more (A := A) (by omega) (by omega)).re (by simp) (by simp only [expP, List.append_assoc]))
      (above_cons (allLt_app (allLt_app l3.2.2)) (above_app hs' hs1)) (.tuple (.head _) (.cons (D1.mono fun p hp => .tail _ (sub_r p hp)) (.cons (D'.mono fun p hp => .tail _ (sub_l p hp)) .nil)))
  · exact ret _ _ _ _ [] _ _ none (by k_asm) (by k_asm) rfl (BS.re (by assumption) rfl (by simp only [expP, List.append_nil])) above_nil .none
end
end Mine
namespace Mine
theorem fillNow4 : (PySem.Challenge.rw_on0096_01.row.prog, hd.heap_39) = (PySem.Challenge.rw_on0096_01.row.prog, hd.heap_39) := by k_fill; rfl
/-- the made table of the law: its dict and its ten entries -/
structure EntS (w : World) (T : Led) (oe : Obj) (v8 v9 v7 v5 v0 v4 v2 v6 v3 v1 : Value) : Prop where
  dict : Obj.IsDictOf (PySem.strKind PySem.Challenge.rw_on0096_01.row.prog w) oe [(Str.ofString "wi", v8), (Str.ofString "wo", v9), (Str.ofString "w", v7), (Str.ofString "r", v5), (Str.ofString "P", v0), (Str.ofString "g", v4), (Str.ofString "e", v2), (Str.ofString "t", v6), (Str.ofString "f", v3), (Str.ofString "b", v1)]
  e8 : DatIn T v8 (.tuple [.str (kindOf 8), moreOf 8])
  e9 : DatIn T v9 (.tuple [.str (kindOf 9), moreOf 9])
  e7 : DatIn T v7 (.tuple [.str (kindOf 7), moreOf 7])
  e5 : DatIn T v5 (.tuple [.str (kindOf 5), moreOf 5])
  e0 : DatIn T v0 (.tuple [.str (kindOf 0), moreOf 0])
  e4 : DatIn T v4 (.tuple [.str (kindOf 4), moreOf 4])
  e2 : DatIn T v2 (.tuple [.str (kindOf 2), moreOf 2])
  e6 : DatIn T v6 (.tuple [.str (kindOf 6), moreOf 6])
  e3 : DatIn T v3 (.tuple [.str (kindOf 3), moreOf 3])
  e1 : DatIn T v1 (.tuple [.str (kindOf 1), moreOf 1])
theorem EntS.mono {w : World} {T T' : Led} {oe : Obj} {v8 v9 v7 v5 v0 v4 v2 v6 v3 v1 : Value} (h : EntS w T oe v8 v9 v7 v5 v0 v4 v2 v6 v3 v1) (hs : ∀ p ∈ T, p ∈ T') : EntS w T' oe v8 v9 v7 v5 v0 v4 v2 v6 v3 v1 :=
  ⟨h.dict, h.e8.mono hs, h.e9.mono hs, h.e7.mono hs, h.e5.mono hs, h.e0.mono hs, h.e4.mono hs, h.e2.mono hs, h.e6.mono hs, h.e3.mono hs, h.e1.mono hs⟩
theorem news_mid {h₀ h : Heap} {L : Addr} {tl news : Led} {x : Addr × Obj} (N : News h₀ L h (tl ++ x :: news)) : News h₀ L h (x :: (tl ++ news)) :=
  news_sub N fun p hp => by simp only [List.mem_cons, List.mem_append] at hp ⊢; rcases hp with h | h | h <;> simp [h]
section
local macro_rules | `(tactic| walk_at $s:str) => `(tactic| k_extra $s)
local macro_rules | `(tactic| k_all) => `(tactic| assumption)

theorem entries_canon {w : World} {mean : ExcName → Option Value} {mg mb : Str → Option Value}
    {dp un : Nat} {gd : Option (List Code)} {cn : Str} {cs : Scope} {a : Addr} {ccd : Value} {cl : List (Str × Addr)} {outer : List Env}
    {A₀ : Around} {base h₀ : Heap} {L : Addr} {m : Str → Option Value} {s : Shared} {Q E : Value → Shared → Prop} {news : Led}
    (B : Below A₀ base outer h₀) (F : Fr h₀ L s.heap m) (X : (hd.heap_39 w.params).In h₀) (N : News h₀ L s.heap news) (T : TopM mean mg mb h₀)
    (hk : cs.kind = .function) (hdp : dp < 900)
    (ret : ∀ h' tk' de oe tl v8 v9 v7 v5 v0 v4 v2 v6 v3 v1, Fr h₀ L h' m → News h₀ L h' ((de, oe) :: (tl ++ news)) → (∀ p ∈ (de, oe) :: tl, AllLt p.1 news) → (de == sysModules) = false → EntS w tl oe v8 v9 v7 v5 v0 v4 v2 v6 v3 v1 → Q (.ref de) { s with heap := h', toks := tk' }) :
    wpAny (model PySem.Challenge.rw_on0096_01.row.prog w) (ktrTop dp un gd cn cs L a ccd cl outer) (call (.ref 156) []) Q E s := by
  w_top off
  k_with_none
  k_with "exec Assign" => k_fold
  k_with "exec If" => k_fold
  k_with "exec Expr" => k_fold
  k_with "exec Return some" => k_fold
  k_with "exec AugAssign" => k_fold
  k_with "eval Dict" => ((k_here; k_dflt ( (refine' kdn_str ?q ?F ?N ?b ?a ?l ?e ?n ?_; (case q => rfl); (case F => k_asm); (case N => first | k_asm | exact News.nil); (case b => exact Top.nolimit (by k_asm)); (case a => rfl); (case l => rfl); (case e => exact List.cons_ne_nil _ _); (case n => exact Nat.le_of_ble_eq_true rfl))); intro d' h' o' F' N' l1 lo' hd'; (try k_lt l1)))
  refine wpAny_call ?_
  k_dflt ktr_enter
  k_steps
  refine ret _ _ _ _ [_,_,_,_,_,_,_,_,_,_,_,_,_,_,_,_] _ _ _ _ _ _ _ _ _ _ (by k_asm) (news_mid (tl := [_,_,_,_,_,_,_,_,_,_,_,_,_,_,_,_]) (by k_asm)) ?_ (by k_asm) ⟨by k_asm, ?_, ?_, ?_, ?_, ?_, ?_, ?_, ?_, ?_, ?_⟩
  · (repeat' (first | exact List.forall_mem_nil _ | refine List.forall_mem_cons.mpr ⟨?_, ?_⟩)) <;> first | tbn_find | exact allLt_of (by assumption)
  all_goals exact DatIn.tuple (by k_mem) (.cons (.str _ _) (.cons (by first | exact DatIn.int _ _ | exact DatIn.tuple (by k_mem) .nil | exact DatIn.tuple (by k_mem) (.cons (.str _ _) (.cons (.bool _) (.cons (.bool _) .nil)))) .nil))
end
end Mine
namespace Mine
theorem fillNow4b : (PySem.Challenge.rw_on0096_01.row.prog, hd.heap_39) = (PySem.Challenge.rw_on0096_01.row.prog, hd.heap_39) := by k_fill; rfl

theorem perm_uniq {α : Type} {R : α → α → Prop} (anti : ∀ a b, R a b → R b a → a = b) : ∀ {a b : List α}, a.Perm b → a.Pairwise R → b.Pairwise R → a = b
  | [], _, p, _, _ => p.nil_eq
  | x :: r, b, p, ha, hb => by
    cases b with
    | nil => exact absurd p.length_eq (by simp)
    | cons y t =>
      have hx : x ∈ y :: t := p.mem_iff.mp (.head _)
      have hy : y ∈ x :: r := p.mem_iff.mpr (.head _)
      have e : x = y := by
        rcases List.mem_cons.mp hx with h | h
        · exact h
        · rcases List.mem_cons.mp hy with h' | h'
          · exact h'.symm
          · exact anti _ _ ((List.pairwise_cons.mp ha).1 y h') ((List.pairwise_cons.mp hb).1 x h)
      subst e
      rw [perm_uniq anti (List.Perm.cons_inv p) (List.pairwise_cons.mp ha).2 (List.pairwise_cons.mp hb).2]

/-- a text does not lie behind another -/
def StrLe (a b : Str) : Prop := ¬ b.cps.toList < a.cps.toList
theorem strLe_anti (a b : Str) (h : StrLe a b) (k : StrLe b a) : a = b := by
  have e : a.cps.toList = b.cps.toList := List.le_antisymm (List.not_lt.mp h) (List.not_lt.mp k)
  have e' : a.cps = b.cps := Array.ext' e
  cases a; cases b; cases e'; rfl
theorem strLe_trans {a b c : Str} (h : StrLe a b) (k : StrLe b c) : StrLe a c :=
  List.not_lt.mpr (List.le_trans (List.not_lt.mp h) (List.not_lt.mp k))
theorem rising_pairwise : ∀ (l : List Str) (p : Str), risingS p l = true → (∀ x ∈ l, StrLe p x) ∧ l.Pairwise StrLe
  | [], _, _ => ⟨(fun _ h => nomatch h), .nil⟩
  | x :: r, p, h => by
    simp only [risingS, Bool.and_eq_true, Bool.not_eq_true'] at h
    have hx : StrLe p x := by unfold StrLe; rw [ltCps_eq] at h; exact of_decide_eq_false h.1
    have q := rising_pairwise r x h.2
    refine ⟨fun y hy => ?_, .cons q.1 q.2⟩
    rcases List.mem_cons.mp hy with rfl | hy
    · exact hx
    · exact strLe_trans hx (q.1 y hy)
theorem sorted_pairwise : ∀ {l : List Str}, sortedS l = true → l.Pairwise StrLe
  | [], _ => .nil
  | x :: r, h => .cons (rising_pairwise r x h).1 (rising_pairwise r x h).2
theorem sorted_is {a b : List Str} (p : a.Perm b) (ha : sortedS a = true) (hb : sortedS b = true) : a = b := perm_uniq strLe_anti p (sorted_pairwise ha) (sorted_pairwise hb)

theorem strsAre_of {vs : List Value} : ∀ {ss : List Str}, vs.length = ss.length → (∀ (j : Nat) v, vs[j]? = some v → ∃ x t, ss[j]? = some x ∧ v = .str x t) → StrsAre vs ss := by
  induction vs with
  | nil => intro ss hl _; cases ss with
    | nil => exact .nil
    | cons _ _ => cases hl
  | cons v vs ih =>
    intro ss hl h
    cases ss with
    | nil => cases hl
    | cons x ss =>
      obtain ⟨y, t, e, rfl⟩ := h 0 v rfl
      cases e
      exact .cons _ _ (ih (Nat.succ.inj hl) fun j u hu => h (j + 1) u hu)

section
variable {prog : Program} {w : World} {A : Around} {E : Value → Shared → Prop} {s : Shared} {h₀ : Heap} {L D : Addr} {m : Str → Option Value} {news : Led}
/-- list.sort upon a list of texts that was made last -/
theorem sort_texts {vs : List Value} {k : Nat} {ss tt : List Str} {Q : Value → Shared → Prop} (F : Fr h₀ L s.heap m) (N : News h₀ L s.heap ((D, W.listOf vs.toArray k) :: news)) (hap : ∀ q ∈ news, q.1 ≠ D)
    (hS : StrsAre vs ss) (h64 : vs.length < 64) (hp : ss.Perm tt) (ht : sortedS tt = true)
    (h : ∀ h' vs' k', Fr h₀ L h' m → News h₀ L h' ((D, W.listOf vs'.toArray k') :: news) → StrsAre vs' tt → Q .none { s with heap := h' }) :
    wpAny (model prog w) A (call (.builtin "list.sort") [.ref D]) Q E s := by
  have z := N _ (.head _)
  have ho : s.heap.get? D = some (seqObj "list" vs.toArray k) := z.1
  refine wpAny_call_entry PyProof.Rows.slot_list_sort ⟨_, z.1, rfl⟩ PyProof.Rows.entry_list_sort (list_sort_treeK PyProof.Rows.strKind_oneLt ho hS.keysOf (fun v₁ v₂ rest e => keyKind_strs (by rw [← e]; exact hS)) h64 fun st' a1 a2 => ⟨.none, rfl, ?_⟩) (PyProof.Rows.args_list_sort _)
  obtain ⟨ss', b1, b2, b3⟩ := sorted_out_str hS a1 a2
  obtain rfl := sorted_is (b2.trans hp) b3 ht
  obtain ⟨e, he⟩ := sortedHeap_at (out := (arrOf st').map (·.2)) ho
  have old : ∀ b o, b ≠ D → s.heap.get? b = some o → (sortedHeap s.heap D vs ((arrOf st').map (·.2))).get? b = some o := fun b o hb q => (sortedHeap_old hb (Heap.lt_size q)).trans q
  have hLD : L ≠ D := Ne.symm z.2.1
  refine h _ _ e ⟨F.ns.at' fun o q => old L o hLD q, fun b o q => old b o (fun hb => by rw [hb, z.2.2] at q; cases q) (F.keep b o q), F.above⟩ (fun p hp => ?_) b1
  rcases List.mem_cons.mp hp with rfl | hp
  · exact ⟨by rw [Array.toArray_toList]; exact he, z.2⟩
  · have y := N p (.tail _ hp)
    exact ⟨old _ _ (hap p hp) y.1, y.2⟩

/-- sorted(d) of a dict with texts as keys -/
theorem dict_sorted {de : Addr} {oe : Obj} {kvs : List (Str × Value)} {tt : List Str} {Q : Value → Shared → Prop} (hh : A.handled = none) (F : Fr h₀ L s.heap m) (N : News h₀ L s.heap news) (hm : (de, oe) ∈ news) (lo : (de == sysModules) = false)
    (hD : Obj.IsDictOf (PySem.strKind prog w) oe kvs) (hp : (kvs.map (·.1)).Perm tt) (ht : sortedS tt = true) (h64 : kvs.length < 64)
    (h : ∀ B h' tk vs k, Fr h₀ L h' m → News h₀ L h' ((B, W.listOf vs.toArray k) :: news) → (∀ q ∈ news, q.1 < B) → StrsAre vs tt → Q (.ref B) { s with heap := h', toks := tk }) :
    wpAny (model prog w) A (call (.builtin "sorted") [.ref de]) Q E s := by
  have hat : s.heap.DictOf (PySem.strKind prog w) de kvs := Heap.dictOf_iff.mpr ⟨oe, (N _ hm).1, hD⟩
  obtain ⟨ep, hat⟩ := hat.dictAt
  refine kdu_sorted (kdl_dict (knd := PySem.strKind prog w) (kvs := kvs) (ep := ep) lo) hh F N hat (kdl_size (by omega)) fun B h' tk vs F' N' l1 hl hv => ?_
  have hS : StrsAre vs (kvs.map (·.1)) := strsAre_of (by rw [hl, List.length_map]) fun j v hj => by
    obtain ⟨k, x, e1, e2⟩ := hv j v hj
    obtain ⟨t, rfl⟩ := Value.isStrOf_shape e2
    exact ⟨k, t, by rw [List.getElem?_map, e1]; rfl, rfl⟩
  exact sort_texts F' N' (fun q hq => Nat.ne_of_lt (l1 q hq)) hS (by rw [hl]; exact h64) hp ht fun h2 vs' k' F2 N2 hS2 => h B h2 tk vs' k' F2 N2 l1 hS2
end
end Mine
namespace Mine
inductive OpT (T : Led) (v : Value) (ds : List Dat) : Prop | mk (a : Addr) (n : Nat) (vs : List Value) (ev : v = .ref a) (hm : (a, tupO vs n) ∈ T) (r : DatAll T vs ds) : OpT T v ds
inductive OpC (T : Led) (vs : List Value) (d : Dat) (ds : List Dat) : Prop | mk (v : Value) (ws : List Value) (ev : vs = v :: ws) (h : DatIn T v d) (r : DatAll T ws ds) : OpC T vs d ds
theorem tup_open {T : Led} {v : Value} {ds : List Dat} (h : DatIn T v (.tuple ds)) : OpT T v ds := by
  cases h with
  | tuple hm r => exact ⟨_, _, _, rfl, hm, r⟩
theorem all_cons {T : Led} {vs : List Value} {d : Dat} {ds : List Dat} (h : DatAll T vs (d :: ds)) : OpC T vs d ds := by
  cases h with
  | cons h1 r => exact ⟨_, _, rfl, h1, r⟩
theorem all_nil {T : Led} {vs : List Value} (h : DatAll T vs []) : vs = [] := by cases h; rfl
theorem str_open {T : Led} {v : Value} {x : Str} (h : DatIn T v (.str x)) : ∃ t, v = .str x t := by cases h; exact ⟨_, rfl⟩
theorem int_open {T : Led} {v : Value} {x : Int} (h : DatIn T v (.int x)) : ∃ t, v = .int x t := by cases h; exact ⟨_, rfl⟩
theorem bool_open {T : Led} {v : Value} {x : Bool} (h : DatIn T v (.bool x)) : v = .bool x := by cases h; rfl
theorem none_open {T : Led} {v : Value} (h : DatIn T v .none) : v = .none := by cases h; rfl
inductive Op1 (T : Led) (v : Value) (d : Dat) : Prop | mk (a : Addr) (n : Nat) (v1 : Value) (ev : v = .ref a) (hm : (a, tupO [v1] n) ∈ T) (h1 : DatIn T v1 d) : Op1 T v d
inductive Op2 (T : Led) (v : Value) (d e : Dat) : Prop | mk (a : Addr) (n : Nat) (v1 v2 : Value) (ev : v = .ref a) (hm : (a, tupO [v1, v2] n) ∈ T) (h1 : DatIn T v1 d) (h2 : DatIn T v2 e) : Op2 T v d e
inductive Op3 (T : Led) (v : Value) (d e f : Dat) : Prop | mk (a : Addr) (n : Nat) (v1 v2 v3 : Value) (ev : v = .ref a) (hm : (a, tupO [v1, v2, v3] n) ∈ T) (h1 : DatIn T v1 d) (h2 : DatIn T v2 e) (h3 : DatIn T v3 f) : Op3 T v d e f
theorem dat1_open {T : Led} {v : Value} {d : Dat} (h : DatIn T v (.tuple [d])) : Op1 T v d := by
  obtain ⟨a, n, vs0, e, hm, r0⟩ := tup_open h
  obtain ⟨v1, vs1, rfl, h1, r1⟩ := all_cons r0
  obtain rfl := all_nil r1
  exact ⟨a, n, v1, e, hm, h1⟩
theorem dat2_open {T : Led} {v : Value} {d e : Dat} (h : DatIn T v (.tuple [d, e])) : Op2 T v d e := by
  obtain ⟨a, n, vs0, e, hm, r0⟩ := tup_open h
  obtain ⟨v1, vs1, rfl, h1, r1⟩ := all_cons r0
  obtain ⟨v2, vs2, rfl, h2, r2⟩ := all_cons r1
  obtain rfl := all_nil r2
  exact ⟨a, n, v1, v2, e, hm, h1, h2⟩
theorem tup3_open {T : Led} {v : Value} {d e f : Dat} (h : DatIn T v (.tuple [d, e, f])) : Op3 T v d e f := by
  obtain ⟨a, n, vs0, e, hm, r0⟩ := tup_open h
  obtain ⟨v1, vs1, rfl, h1, r1⟩ := all_cons r0
  obtain ⟨v2, vs2, rfl, h2, r2⟩ := all_cons r1
  obtain ⟨v3, vs3, rfl, h3, r3⟩ := all_cons r2
  obtain rfl := all_nil r3
  exact ⟨a, n, v1, v2, v3, e, hm, h1, h2, h3⟩
/-- an entry of the law's own table; a net's second place; a name with its place; a made entry -/
inductive OpE (T : Led) (v : Value) (x : Str) (d : Dat) : Prop | mk (a : Addr) (n : Nat) (t : Tok) (v2 : Value) (ev : v = .ref a) (hm : (a, tupO [.str x t, v2] n) ∈ T) (h : DatIn T v2 d) : OpE T v x d
inductive OpN (T : Led) (v : Value) (x : Str) (b1 b2 : Bool) : Prop | mk (a : Addr) (n : Nat) (t : Tok) (ev : v = .ref a) (hm : (a, tupO [.str x t, .bool b1, .bool b2] n) ∈ T) : OpN T v x b1 b2
inductive OpV (T : Led) (v : Value) (x : Str) (i : Int) (y : Str) : Prop | mk (a : Addr) (n : Nat) (t1 t2 t3 : Tok) (ev : v = .ref a) (hm : (a, tupO [.str x t1, .int i t2, .str y t3] n) ∈ T) : OpV T v x i y
theorem ent_open {T : Led} {v : Value} {x : Str} {d : Dat} (h : DatIn T v (.tuple [.str x, d])) : OpE T v x d := by
  obtain ⟨a, n, v1, v2, e, hm, h1, h2⟩ := dat2_open h
  obtain ⟨t, rfl⟩ := str_open h1
  exact ⟨a, n, t, v2, e, hm, h2⟩
theorem net_open {T : Led} {v : Value} {x : Str} {b1 b2 : Bool} (h : DatIn T v (.tuple [.str x, .bool b1, .bool b2])) : OpN T v x b1 b2 := by
  obtain ⟨a, n, v1, v2, v3, e, hm, h1, h2, h3⟩ := tup3_open h
  obtain ⟨t, rfl⟩ := str_open h1
  obtain rfl := bool_open h2
  obtain rfl := bool_open h3
  exact ⟨a, n, t, e, hm⟩
theorem dat3_open {T : Led} {v : Value} {x y : Str} {i : Int} (h : DatIn T v (.tuple [.str x, .int i, .str y])) : OpV T v x i y := by
  obtain ⟨a, n, v1, v2, v3, e, hm, h1, h2, h3⟩ := tup3_open h
  obtain ⟨t1, rfl⟩ := str_open h1
  obtain ⟨t2, rfl⟩ := int_open h2
  obtain ⟨t3, rfl⟩ := str_open h3
  exact ⟨a, n, t1, t2, t3, e, hm⟩
/-- a target's tuple, by the number of its places -/
inductive Op4 (T : Led) (v : Value) (x : Str) (i : Int) (d e : Dat) : Prop | mk (a : Addr) (n : Nat) (t1 t2 : Tok) (v3 v4 : Value) (ev : v = .ref a) (hm : (a, tupO [.str x t1, .int i t2, v3, v4] n) ∈ T) (h3 : DatIn T v3 d) (h4 : DatIn T v4 e) : Op4 T v x i d e
inductive Op5 (T : Led) (v : Value) (x : Str) (i : Int) (d e f : Dat) : Prop | mk (a : Addr) (n : Nat) (t1 t2 : Tok) (v3 v4 v5 : Value) (ev : v = .ref a) (hm : (a, tupO [.str x t1, .int i t2, v3, v4, v5] n) ∈ T) (h3 : DatIn T v3 d) (h4 : DatIn T v4 e) (h5 : DatIn T v5 f) : Op5 T v x i d e f
inductive OpL (T : Led) (v : Value) (x : Str) (i : Int) (ds : List Dat) : Prop | mk (a b : Addr) (n k : Nat) (t1 t2 : Tok) (vs : List Value) (ev : v = .ref a) (hm : (a, tupO [.str x t1, .int i t2, .ref b] n) ∈ T) (hb : (b, tupO vs k) ∈ T) (r : DatAll T vs ds) : OpL T v x i ds
theorem tup4_open {T : Led} {v : Value} {x : Str} {i : Int} {d e : Dat} (h : DatIn T v (.tuple [.str x, .int i, d, e])) : Op4 T v x i d e := by
  obtain ⟨a, n, vs0, e, hm, r0⟩ := tup_open h
  obtain ⟨v1, vs1, rfl, h1, r1⟩ := all_cons r0
  obtain ⟨v2, vs2, rfl, h2, r2⟩ := all_cons r1
  obtain ⟨v3, vs3, rfl, h3, r3⟩ := all_cons r2
  obtain ⟨v4, vs4, rfl, h4, r4⟩ := all_cons r3
  obtain rfl := all_nil r4
  obtain ⟨t1, rfl⟩ := str_open h1
  obtain ⟨t2, rfl⟩ := int_open h2
  exact ⟨a, n, t1, t2, v3, v4, e, hm, h3, h4⟩
theorem tup5_open {T : Led} {v : Value} {x : Str} {i : Int} {d e f : Dat} (h : DatIn T v (.tuple [.str x, .int i, d, e, f])) : Op5 T v x i d e f := by
  obtain ⟨a, n, vs0, e, hm, r0⟩ := tup_open h
  obtain ⟨v1, vs1, rfl, h1, r1⟩ := all_cons r0
  obtain ⟨v2, vs2, rfl, h2, r2⟩ := all_cons r1
  obtain ⟨v3, vs3, rfl, h3, r3⟩ := all_cons r2
  obtain ⟨v4, vs4, rfl, h4, r4⟩ := all_cons r3
  obtain ⟨v5, vs5, rfl, h5, r5⟩ := all_cons r4
  obtain rfl := all_nil r5
  obtain ⟨t1, rfl⟩ := str_open h1
  obtain ⟨t2, rfl⟩ := int_open h2
  exact ⟨a, n, t1, t2, v3, v4, v5, e, hm, h3, h4, h5⟩
theorem list_open {T : Led} {v : Value} {x : Str} {i : Int} {ds : List Dat} (h : DatIn T v (.tuple [.str x, .int i, .tuple ds])) : OpL T v x i ds := by
  obtain ⟨a, n, v1, v2, v3, e, hm, h1, h2, h3⟩ := tup3_open h
  obtain ⟨t1, rfl⟩ := str_open h1
  obtain ⟨t2, rfl⟩ := int_open h2
  obtain ⟨b, k, vs, rfl, hb, r⟩ := tup_open h3
  exact ⟨a, b, n, k, t1, t2, vs, e, hm, hb, r⟩
end Mine
namespace Mine
theorem fillNow5a : (PySem.Challenge.rw_on0096_01.row.prog, hd.heap_39) = (PySem.Challenge.rw_on0096_01.row.prog, hd.heap_39) := by k_fill; rfl

/-- what a call of _law_target does, lv levels above the deepest -/
def TargetSpec (w : World) (lv : Nat) : Prop :=
  ∀ (mean : ExcName → Option Value) (mg mb : Str → Option Value)
    (dp un : Nat) (gd : Option (List Code)) (cn : Str) (cs : Scope) (a : Addr) (ccd : Value) (cl : List (Str × Addr)) (outer : List Env)
    (A₀ : Around) (base h₀ : Heap) (L : Addr) (m : Str → Option Value) (s : Shared) (Q E : Value → Shared → Prop)
    (r d c : Addr) (o od oc : Obj) (n : Nat) (T0 rest : Led) (due : List Dat) (pr : Bool) (deep : Int) (td : Tok)
    (B : Below A₀ base outer h₀) (F : Fr h₀ L s.heap m) (X : (hd.heap_39 w.params).In h₀) (N : News h₀ L s.heap ((r, o) :: (d, od) :: rest)) (T : TopM mean mg mb h₀)
    (hk : cs.kind = .function) (S : BS w n r d c o od oc T0 rest due) (hsz : due.length + 4 ^ (lv + 1) ≤ 1000000) (hdp : dp + lv < 870) (hdeep : deep = 3 - (lv : Int)) (hlv : lv ≤ 3)
    (ret : ∀ h' tk' o' od' tl rest' v t, Fr h₀ L h' m → News h₀ L h' ((r, o') :: (d, od') :: rest') → rest' = tl ++ rest → BS w n r d c o' od' oc (tl ++ T0) rest' (due ++ Tg.exp pr t) → Above tl rest →
      DatIn tl v t.dat → t.Ok lv → Q v { s with heap := h', toks := tk' }),
    wpAny (model PySem.Challenge.rw_on0096_01.row.prog w) (ktrTop dp un gd cn cs L a ccd cl outer) (call (.ref 175) [.ref r, .ref d, .bool pr, .int deep td]) Q E s

/-- these entries stand in the rest -/
def Kept (cs rest : Led) : Prop := ∀ p ∈ cs, p ∈ rest
theorem Kept.up {cs tl rest rest' : Led} (h : Kept cs rest) (e : rest' = tl ++ rest) : Kept cs rest' := fun p hp => e ▸ sub_r p (h p hp)
theorem Kept.skip {cs rest : Led} {p : Addr × Obj} (h : Kept cs rest) : Kept cs (p :: rest) := fun x hx => .tail _ (h x hx)
theorem mem_kept {cs rest : Led} {x : Addr × Obj} (h : Kept cs rest) (hx : x ∈ cs) : x ∈ rest := h x hx
theorem target_use {w : World} {lv : Nat} {mean : ExcName → Option Value} {mg mb : Str → Option Value}
    {dp un : Nat} {gd : Option (List Code)} {cn : Str} {cs : Scope} {a : Addr} {ccd : Value} {cl : List (Str × Addr)} {outer : List Env}
    {A₀ : Around} {base h₀ : Heap} {L : Addr} {m : Str → Option Value} {s : Shared} {Q E : Value → Shared → Prop}
    {r d c : Addr} {o od oc : Obj} {n : Nat} {T0 rest : Led} {due : List Dat} {pr : Bool} {deep : Int} {td : Tok} (C : TargetSpec w lv)
    (B : Below A₀ base outer h₀) (F : Fr h₀ L s.heap m) (X : (hd.heap_39 w.params).In h₀) (N : News h₀ L s.heap ((r, o) :: (d, od) :: rest)) (T : TopM mean mg mb h₀)
    (hk : cs.kind = .function) (S : BS w n r d c o od oc T0 rest due) (hsz : due.length + 4 ^ (lv + 1) ≤ 1000000) (hdp : dp + lv < 870) (hdeep : deep = 3 - (lv : Int)) (hlv : lv ≤ 3)
    (ret : ∀ h' tk' o' od' tl rest' v t, Fr h₀ L h' m → News h₀ L h' ((r, o') :: (d, od') :: rest') → rest' = tl ++ rest → BS w n r d c o' od' oc (tl ++ T0) rest' (due ++ Tg.exp pr t) → Above tl rest →
      DatIn tl v t.dat → t.Ok lv → (Tg.exp pr t).length ≤ 4 ^ (lv + 1) → (∀ cs, Kept cs rest → Kept cs rest') → Q v { s with heap := h', toks := tk' }) :
    wpAny (model PySem.Challenge.rw_on0096_01.row.prog w) (ktrTop dp un gd cn cs L a ccd cl outer) (call (.ref 175) [.ref r, .ref d, .bool pr, .int deep td]) Q E s :=
  C _ _ _ _ _ _ _ _ _ _ _ _ _ _ _ _ _ _ _ _ _ _ _ _ _ _ _ _ _ _ _ _ _ B F X N T hk S hsz hdp hdeep hlv fun h' tk' o' od' tl rest' v t F' N' e S' ha hD ok => ret h' tk' o' od' tl rest' v t F' N' e S' ha hD ok (Tg.exp_len pr lv t ok) fun cs k => k.up e
/-- what the recursion may use -/
structure TargetUp (w : World) (lv : Nat) : Prop where
  get : 0 < lv → TargetSpec w (lv - 1)

theorem ite_const {M : Model} {A : Around} {E : Value → Shared → Prop} {s : Shared} {c : Prop} [Decidable c] {x y k1 k2} {env : Env} {p1 p2 : Pos} {Q : Value → Shared → Prop}
    (h : Q (.int (if c then x else y) s.toks) { s with toks := s.toks + 1 }) :
    if c then wpAny M A (eval (.Constant (.int x) k1 p1) env) Q E s else wpAny M A (eval (.Constant (.int y) k2 p2) env) Q E s := by
  split
  · rename_i hc; rw [if_pos hc] at h; exact wpAny_Constant_int h
  · rename_i hc; rw [if_neg hc] at h; exact wpAny_Constant_int h

/-- the kind's draw -/
theorem part_kind {w : World} {mean : ExcName → Option Value} {mg mb : Str → Option Value}
    {dp un : Nat} {gd : Option (List Code)} {cn : Str} {cs : Scope} {a : Addr} {ccd : Value} {cl : List (Str × Addr)} {outer : List Env}
    {A₀ : Around} {base h₀ : Heap} {L : Addr} {m : Str → Option Value} {s : Shared} {Q E : Value → Shared → Prop}
    {r d c : Addr} {o od oc : Obj} {n : Nat} {deep : Int} {tmo : Tok} {news T0 rest : Led} {due : List Dat} {g : Obj → Led}
    (B : Below A₀ base outer h₀) (F : Fr h₀ L s.heap m) (X : (hd.heap_39 w.params).In h₀) (N : News h₀ L s.heap news) (T : TopM mean mg mb h₀)
    (hk : cs.kind = .function) (S : BS w n r d c o od oc T0 rest due) (U : UpdF r o news g) (hc : (c, oc) ∈ news) (hdp : dp < 900)
    (ret : ∀ h' tk' o' k tk, Fr h₀ L h' m → News h₀ L h' (g o') → BS w n r d c o' od oc T0 rest due → 0 ≤ k → k < 2 ∨ (deep < 3 ∧ k < 6) → Q (.int k tk) { s with heap := h', toks := tk' }) :
    wpAny (model PySem.Challenge.rw_on0096_01.row.prog w) (ktrTop dp un gd cn cs L a ccd cl outer) (call (.ref 149) [.ref r, .int (if decide (deep < 3) = true then 6 else 2) tmo]) Q E s :=
  part_bs B F X N T hk S U hc (by split <;> decide) hdp fun h' tk' o' k tk F' N' S' h0 h1 => ret h' tk' o' k tk F' N' S' h0 (by simp only [decide_eq_true_eq] at h1; split at h1 <;> omega)

theorem entries_bs {w : World} {mean : ExcName → Option Value} {mg mb : Str → Option Value}
    {dp un : Nat} {gd : Option (List Code)} {cn : Str} {cs : Scope} {a : Addr} {ccd : Value} {cl : List (Str × Addr)} {outer : List Env}
    {A₀ : Around} {base h₀ : Heap} {L : Addr} {m : Str → Option Value} {s : Shared} {Q E : Value → Shared → Prop}
    {r d c : Addr} {o od oc : Obj} {n : Nat} {T0 rest : Led} {due : List Dat}
    (B : Below A₀ base outer h₀) (F : Fr h₀ L s.heap m) (X : (hd.heap_39 w.params).In h₀) (N : News h₀ L s.heap ((r, o) :: (d, od) :: rest)) (T : TopM mean mg mb h₀)
    (hk : cs.kind = .function) (S : BS w n r d c o od oc T0 rest due) (hdp : dp < 900)
    (ret : ∀ h' tk' de oe tl rest' v8 v9 v7 v5 v0 v4 v2 v6 v3 v1, Fr h₀ L h' m → News h₀ L h' ((r, o) :: (d, od) :: (de, oe) :: rest') → rest' = tl ++ rest → BS w n r d c o od oc T0 rest' due → Above ((de, oe) :: tl) rest →
      @Ne Nat de r → @Ne Nat de d → (de == sysModules) = false → EntS w rest' oe v8 v9 v7 v5 v0 v4 v2 v6 v3 v1 → Q (.ref de) { s with heap := h', toks := tk' }) :
    wpAny (model PySem.Challenge.rw_on0096_01.row.prog w) (ktrTop dp un gd cn cs L a ccd cl outer) (call (.ref 156) []) Q E s := by
  refine entries_canon B F X N T hk (by omega) fun h' tk' de oe tl v8 v9 v7 v5 v0 v4 v2 v6 v3 v1 F' N' hap lo hE => ?_
  have ha : ∀ p ∈ (de, oe) :: tl, @LT.lt Nat _ r p.1 ∧ @LT.lt Nat _ d p.1 ∧ AllLt p.1 rest := fun p hp => hap p hp
  have hde := ha _ (.head _)
  refine ret h' tk' de oe tl (tl ++ rest) v8 v9 v7 v5 v0 v4 v2 v6 v3 v1 F' (news_sub N' fun p hp => ?_) rfl ⟨S.row, S.cells, sub_r _ S.hc, S.dr, fun p hp => ?_, fun p hp => ?_, fun p hp => sub_r _ (S.sub p hp), S.due⟩
    (fun p hp q hq => ktn_ltOf (ha p hp).2.2 q hq) (Nat.ne_of_gt hde.1) (Nat.ne_of_gt hde.2.1) lo (hE.mono sub_l)
  · simp only [List.mem_cons, List.mem_append] at hp ⊢
    rcases hp with h | h | h | h | h <;> simp [h]
  · rcases List.mem_append.mp hp with hp | hp
    · exact Nat.ne_of_gt (ha p (.tail _ hp)).1
    · exact S.hr p hp
  · rcases List.mem_append.mp hp with hp | hp
    · exact Nat.ne_of_gt (ha p (.tail _ hp)).2.1
    · exact S.hd p hp

/-- the number of the drawn name, kept for the end -/
structure NameNo (j : Nat) : Prop where
abbrev NameNo.no {j : Nat} (_ : NameNo j) : Nat := j

abbrev tenNames : List Str := [Str.ofString "P", Str.ofString "b", Str.ofString "e", Str.ofString "f", Str.ofString "g", Str.ofString "r", Str.ofString "t", Str.ofString "w", Str.ofString "wi", Str.ofString "wo"]
theorem ten_sorted : sortedS tenNames = true := by decide +kernel
theorem ten_perm (v8 v9 v7 v5 v0 v4 v2 v6 v3 v1 : Value) : (([(Str.ofString "wi", v8), (Str.ofString "wo", v9), (Str.ofString "w", v7), (Str.ofString "r", v5), (Str.ofString "P", v0), (Str.ofString "g", v4), (Str.ofString "e", v2), (Str.ofString "t", v6), (Str.ofString "f", v3), (Str.ofString "b", v1)] : List (Str × Value)).map (·.1)).Perm tenNames := by
  show List.Perm [Str.ofString "wi", Str.ofString "wo", Str.ofString "w", Str.ofString "r", Str.ofString "P", Str.ofString "g", Str.ofString "e", Str.ofString "t", Str.ofString "f", Str.ofString "b"] tenNames
  exact List.isPerm_iff.mp (by decide +kernel)

theorem strs_get {vs : List Value} {ss : List Str} (h : StrsAre vs ss) : ∀ {j : Nat} {x : Str}, ss[j]? = some x → ∃ t, vs[j]? = some (.str x t) := by
  induction h with
  | nil => intro j x e; cases e
  | cons y t _ ih =>
    intro j x e
    cases j with
    | zero => cases e; exact ⟨t, rfl⟩
    | succ j => exact ih e
theorem strs_app {vs ws : List Value} {ss tt : List Str} (h : StrsAre vs ss) (k : StrsAre ws tt) : StrsAre (vs ++ ws) (ss ++ tt) := by
  induction h with
  | nil => exact k
  | cons y t _ ih => exact .cons y t ih
theorem names_at : ∀ {j : Nat}, j ≤ 10 → (tenNames ++ [Str.ofString "zz"])[j]? = some (nameOf j) := by
  intro j hj
  have e : j = 0 ∨ j = 1 ∨ j = 2 ∨ j = 3 ∨ j = 4 ∨ j = 5 ∨ j = 6 ∨ j = 7 ∨ j = 8 ∨ j = 9 ∨ j = 10 := by omega
  rcases e with rfl | rfl | rfl | rfl | rfl | rfl | rfl | rfl | rfl | rfl | rfl <;> rfl
theorem item_names {prog : Program} {w : World} {A : Around} {E : Value → Shared → Prop} {s : Shared} {h₀ : Heap} {L l : Addr} {news : Led} {value slice : PySem.Expr} {vs : List Value} {n : Nat} {k : Int} {u : Tok} {Q : Value → Shared → Prop}
    (N : News h₀ L s.heap news) (hm : (l, W.listOf vs.toArray n) ∈ news) (hS : StrsAre vs (tenNames ++ [Str.ofString "zz"])) (h0 : 0 ≤ k) (h1 : k < 11)
    (hs : subscripted slice false (.ref l) (.int k u) = operate [.ref l, .int k u] (getItem (.ref l) (.int k u)))
    (h : ∀ j t, NameNo j → j ≤ 10 → Q (.str (nameOf j) t) s) : wpAny (model prog w) A (subscriptTail value slice (.ref l) (.int k u)) Q E s := by
  have hL : s.heap.IsList l vs.toArray := ⟨_, (N _ hm).1, rfl, n, rfl⟩
  obtain ⟨t, ht⟩ := strs_get hS (names_at (j := k.toNat) (by omega))
  exact tail_any hL.typeIs slot_list_getitem.lookup (wpAny_getItem_list hL h0 (by omega) (by simpa using ht) (h k.toNat t ⟨⟩ (by omega))) hs


/-- rest2 is rest with TL, made later, ahead of it -/
structure Grow (TL rest rest2 : Led) : Prop where
  e : rest2 = TL ++ rest
  ab : Above TL rest
theorem Grow.trans {tl2 tl1 rest rest1 rest2 : Led} (g : Grow tl2 rest1 rest2) (k : Grow tl1 rest rest1) : Grow (tl2 ++ tl1) rest rest2 := by
  obtain ⟨rfl, h2⟩ := g
  obtain ⟨rfl, h1⟩ := k
  exact ⟨(List.append_assoc ..).symm, above_app h2 h1⟩
theorem subT {tl a b c : Led} (h : ∀ p ∈ a, p ∈ b ++ c) : ∀ p ∈ tl ++ a, p ∈ (tl ++ b) ++ c := fun p hp => by
  rw [List.append_assoc]
  rcases List.mem_append.mp hp with hp | hp
  · exact sub_l p hp
  · exact sub_r p (h p hp)
theorem BS.push {w : World} {n : Nat} {r d c : Addr} {o oc : Obj} {vs : List Value} {k k' : Nat} {T rest T' rest' : Led} {due : List Dat} {v : Value} {x : Dat} (S : BS w n r d c o (W.listOf vs.toArray k) oc T rest due)
    (hv : DatIn T' v x) (hT : ∀ p ∈ T, p ∈ T') (hT' : ∀ p ∈ T', p ∈ rest') (hc : (c, oc) ∈ rest') (hr : ∀ p ∈ rest', p.1 ≠ r) (hd : ∀ p ∈ rest', p.1 ≠ d) : BS w n r d c o (W.listOf (vs.toArray.push v) k') oc T' rest' (due ++ [x]) := by
  obtain ⟨vs', k2, e, hD⟩ := S.due
  have e2 : vs = vs' := by
    have := congrArg Obj.data e
    injection this with e3
    simpa using e3
  subst e2
  exact ⟨S.row, S.cells, hc, S.dr, hr, hd, hT', due_push hD hT hv⟩
theorem BS.len {w : World} {n : Nat} {r d c : Addr} {o oc : Obj} {vs : List Value} {k : Nat} {T rest : Led} {due : List Dat} (S : BS w n r d c o (W.listOf vs.toArray k) oc T rest due) : vs.length = due.length := by
  obtain ⟨vs', k2, e, hD⟩ := S.due
  have e2 : vs = vs' := by
    have := congrArg Obj.data e
    injection this with e3
    simpa using e3
  rw [e2]; exact hD.length

/-- an end of _law_target: what was made lies ahead of what stood -/
theorem tg_fin {h₀ : Heap} {L : Addr} {m : Str → Option Value} {s : Shared} {Q : Value → Shared → Prop} {w : World} {n : Nat} {r d c : Addr} {oc : Obj} {T0 rest : Led} {due : List Dat} {pr : Bool} {lv : Nat}
    (ret : ∀ h' tk' o' od' tl rest' v t, Fr h₀ L h' m → News h₀ L h' ((r, o') :: (d, od') :: rest') → rest' = tl ++ rest → BS w n r d c o' od' oc (tl ++ T0) rest' (due ++ Tg.exp pr t) → Above tl rest →
      DatIn tl v t.dat → t.Ok lv → Q v { s with heap := h', toks := tk' })
    {h' : Heap} {tk' : Nat} {o od : Obj} {rest2 T2 TL : Led} {due2 : List Dat} {v : Value} (new kp : Led) (t : Tg)
    (F : Fr h₀ L h' m) (N : News h₀ L h' (new ++ (r, o) :: (d, od) :: rest2)) (hkp : ∀ p ∈ kp, p ∈ new) (hA : ∀ p ∈ kp, (@LT.lt Nat _ r p.1) ∧ (@LT.lt Nat _ d p.1) ∧ AllLt p.1 rest2)
    (S : BS w n r d c o od oc T2 rest2 due2) (g : Grow TL rest rest2) (hT : ∀ p ∈ T2, p ∈ TL ++ T0) (hT0 : ∀ p ∈ T0, p ∈ rest)
    (D : DatIn (kp ++ TL) v t.dat) (ok : t.Ok lv) (hdue : due2 = due ++ Tg.exp pr t) : Q v { s with heap := h', toks := tk' } := by
  obtain ⟨rfl, ab⟩ := g
  subst hdue
  refine ret h' tk' o od (kp ++ TL) (kp ++ (TL ++ rest)) v t F (news_sub N fun p hp => ?_) (by rw [List.append_assoc]) ⟨S.row, S.cells, sub_r _ S.hc, S.dr, fun p hp => ?_, fun p hp => ?_, fun p hp => ?_, S.due.mono fun p hp => ?_⟩
    (fun p hp q hq => ?_) D ok
  · simp only [List.mem_cons, List.mem_append] at hp ⊢
    rcases hp with h | h | h | h | h
    · simp [h]
    · simp [h]
    · exact .inl (hkp p h)
    · simp [h]
    · simp [h]
  · rcases List.mem_append.mp hp with hp | hp
    · exact Nat.ne_of_gt (hA p hp).1
    · exact S.hr p hp
  · rcases List.mem_append.mp hp with hp | hp
    · exact Nat.ne_of_gt (hA p hp).2.1
    · exact S.hd p hp
  · simp only [List.mem_append] at hp ⊢
    rcases hp with (h | h) | h
    · exact .inl h
    · exact .inr (.inl h)
    · exact .inr (.inr (hT0 p h))
  · have := hT p hp
    simp only [List.mem_append] at this ⊢
    rcases this with h | h <;> simp [h]
  · rcases List.mem_append.mp hp with hp | hp
    · exact ktn_ltOf (allLt_app (hA p hp).2.2) q hq
    · exact ab p hp q hq
theorem dat_up {T T' : Led} {v : Value} {d : Dat} (h : DatIn T v d) (hs : ∀ p ∈ T, p ∈ T') : DatIn T' v d := h.mono hs

/-- what the second place of an entry holds, as far as it is read -/
def MoreIs (T : Led) : Nat → Value → Prop
  | 7, v => ∃ a n t, v = .ref a ∧ (a, tupO [.str (Str.ofString "") t, .bool false, .bool true] n) ∈ T
  | 8, v => ∃ a n t, v = .ref a ∧ (a, tupO [.str (Str.ofString "input") t, .bool true, .bool true] n) ∈ T
  | 9, v => ∃ a n t, v = .ref a ∧ (a, tupO [.str (Str.ofString "output") t, .bool true, .bool true] n) ∈ T
  | _, _ => True
theorem eleven {j : Nat} (h : j ≤ 10) : j = 0 ∨ j = 1 ∨ j = 2 ∨ j = 3 ∨ j = 4 ∨ j = 5 ∨ j = 6 ∨ j = 7 ∨ j = 8 ∨ j = 9 ∨ j = 10 := by omega
theorem more_of {T T' : Led} {j : Nat} {v : Value} (h : DatIn T v (moreOf j)) (hs : ∀ p ∈ T, p ∈ T') : MoreIs T' j v := by
  unfold MoreIs
  split
  · obtain ⟨a, n, t, e, hm⟩ := net_open h; exact ⟨a, n, t, e, hs _ hm⟩
  · obtain ⟨a, n, t, e, hm⟩ := net_open h; exact ⟨a, n, t, e, hs _ hm⟩
  · obtain ⟨a, n, t, e, hm⟩ := net_open h; exact ⟨a, n, t, e, hs _ hm⟩
  · trivial
theorem get_ent {w : World} {A : Around} {E : Value → Shared → Prop} {s : Shared} {h₀ : Heap} {L : Addr} {news T : Led} {de P0 : Addr} {oe : Obj} {v8 v9 v7 v5 v0 v4 v2 v6 v3 v1 : Value} {j k : Nat} {t0 t1 t2 : Tok} {Q : Value → Shared → Prop}
    (N : News h₀ L s.heap news) (hm : (de, oe) ∈ news) (lo : (de == sysModules) = false) (hE : EntS w T oe v8 v9 v7 v5 v0 v4 v2 v6 v3 v1) (hT : ∀ p ∈ T, p ∈ news) (hp : (P0, tupO [.str (Str.ofString "none") t1, .str (Str.ofString "") t2] k) ∈ news) (hj : j ≤ 10)
    (h : ∀ a n t v2, (a, tupO [.str (kindOf j) t, v2] n) ∈ news → MoreIs news j v2 → Q (.ref a) { s with toks := s.toks + 1 }) :
    wpAny (model PySem.Challenge.rw_on0096_01.row.prog w) A (call (.builtin "dict.get") [.ref de, .str (nameOf j) t0, .ref P0]) Q E s := by
  have go : ∀ {v : Value}, DatIn T v (.tuple [.str (kindOf j), moreOf j]) → Q v { s with toks := s.toks + 1 } := fun hD => by
    obtain ⟨a, n, t, v2, rfl, hm2, hD2⟩ := ent_open hD
    exact h a n t v2 (hT _ hm2) (more_of hD2 hT)
  rcases eleven hj with rfl | rfl | rfl | rfl | rfl | rfl | rfl | rfl | rfl | rfl | rfl
  · exact kdg_get2 (knd := PySem.strKind _ _) N hm hE.dict lo (strKind_is _ _ _ _) (some v0) (by rfl) (go hE.e0)
  · exact kdg_get2 (knd := PySem.strKind _ _) N hm hE.dict lo (strKind_is _ _ _ _) (some v1) (by rfl) (go hE.e1)
  · exact kdg_get2 (knd := PySem.strKind _ _) N hm hE.dict lo (strKind_is _ _ _ _) (some v2) (by rfl) (go hE.e2)
  · exact kdg_get2 (knd := PySem.strKind _ _) N hm hE.dict lo (strKind_is _ _ _ _) (some v3) (by rfl) (go hE.e3)
  · exact kdg_get2 (knd := PySem.strKind _ _) N hm hE.dict lo (strKind_is _ _ _ _) (some v4) (by rfl) (go hE.e4)
  · exact kdg_get2 (knd := PySem.strKind _ _) N hm hE.dict lo (strKind_is _ _ _ _) (some v5) (by rfl) (go hE.e5)
  · exact kdg_get2 (knd := PySem.strKind _ _) N hm hE.dict lo (strKind_is _ _ _ _) (some v6) (by rfl) (go hE.e6)
  · exact kdg_get2 (knd := PySem.strKind _ _) N hm hE.dict lo (strKind_is _ _ _ _) (some v7) (by rfl) (go hE.e7)
  · exact kdg_get2 (knd := PySem.strKind _ _) N hm hE.dict lo (strKind_is _ _ _ _) (some v8) (by rfl) (go hE.e8)
  · exact kdg_get2 (knd := PySem.strKind _ _) N hm hE.dict lo (strKind_is _ _ _ _) (some v9) (by rfl) (go hE.e9)
  · exact kdg_get2 (knd := PySem.strKind _ _) N hm hE.dict lo (strKind_is _ _ _ _) none (by rfl) (h _ _ _ _ hp trivial)
theorem cat_names {prog : Program} {w : World} {A : Around} {E : Value → Shared → Prop} {s : Shared} {h₀ : Heap} {L a b : Addr} {m : Str → Option Value} {news : Led} {vs : List Value} {k k' : Nat} {t : Tok} {Q : Value → Shared → Prop}
    (F : Fr h₀ L s.heap m) (N : News h₀ L s.heap news) (ha : (a, W.listOf vs.toArray k) ∈ news) (hb : (b, W.listOf [Value.str (Str.ofString "zz") t].toArray k') ∈ news) (hS : StrsAre vs tenNames)
    (h : ∀ D us h', Fr h₀ L h' m → News h₀ L h' ((D, W.listOf (List.toArray us) 0) :: news) → (∀ p ∈ news, p.1 < D) → StrsAre us (tenNames ++ [Str.ofString "zz"]) → Q (.ref D) { s with heap := h' }) :
    wpAny (model prog w) A (binaryOp .Add (.ref a) (.ref b)) Q E s :=
  add_lists F N (News.isList N ha) (News.isList N hb) (fun h' F' N' => h _ _ h' F' N' (fun p hp => Heap.lt_size (N p hp).1) (strs_app hS (.cons _ _ .nil)))
    (by rw [StrsAre.length hS, sizeLine_eq]; exact Nat.le_of_ble_eq_true rfl)
theorem sub4 {a b c d : Addr × Obj} {l : Led} : ∀ x ∈ l, x ∈ a :: b :: c :: d :: l := fun _ h => .tail _ (.tail _ (.tail _ (.tail _ h)))
theorem kindOf_0 : kindOf 0 = Str.ofString "param" := rfl
theorem kindOf_1 : kindOf 1 = Str.ofString "block" := rfl
theorem kindOf_2 : kindOf 2 = Str.ofString "event" := rfl
theorem kindOf_3 : kindOf 3 = Str.ofString "function" := rfl
theorem kindOf_4 : kindOf 4 = Str.ofString "genvar" := rfl
theorem kindOf_5 : kindOf 5 = Str.ofString "var" := rfl
theorem kindOf_6 : kindOf 6 = Str.ofString "task" := rfl
theorem kindOf_7 : kindOf 7 = Str.ofString "net" := rfl
theorem kindOf_8 : kindOf 8 = Str.ofString "net" := rfl
theorem kindOf_9 : kindOf 9 = Str.ofString "net" := rfl
theorem kindOf_10 : kindOf 10 = Str.ofString "none" := rfl
theorem off3_tail {I C D : Addr} {a b : Addr × Obj} {l : Led} (h : LCg.Off3 I C D (a :: b :: l)) : LCg.Off3 I C D l := h.2.2
theorem off3_app {I C D : Addr} : ∀ {tl l : Led}, (∀ p ∈ tl, (@Ne Nat p.1 I) ∧ (@Ne Nat p.1 C) ∧ (@Ne Nat p.1 D)) → LCg.Off3 I C D l → LCg.Off3 I C D (tl ++ l)
  | [], _, _, k => k
  | p :: _, _, h, k => ⟨h p (.head _), off3_app (fun q hq => h q (.tail _ hq)) k⟩
theorem BS.skip3 {w : World} {n : Nat} {r d c : Addr} {o od o1 od1 oc oI oC oD : Obj} {T0 rest : Led} {due : List Dat} {I C D : Addr} (S : BS w n r d c o od oc T0 rest due) (h : LCg.Off3 I C D ((r, o1) :: (d, od1) :: rest)) :
    BS w n r d c o od oc T0 ((I, oI) :: (C, oC) :: (D, oD) :: rest) due :=
  ((S.skip (Ne.symm h.1.2.2) (Ne.symm h.2.1.2.2)).skip (Ne.symm h.1.2.1) (Ne.symm h.2.1.2.1)).skip (Ne.symm h.1.1) (Ne.symm h.2.1.1)
theorem comp_end {w : World} {h₀ h' : Heap} {L : Addr} {m : Str → Option Value} {s₁ : Shared} {I C D : Addr} {oI oC oD : Obj} {rst : Value → Led → Prop} {y : Value} {tk : Nat}
    {n : Nat} {r d c : Addr} {o od o0 od0 oc : Obj} {T0 tl R rest' cs : Led} {due due0 : List Dat}
    (F : Fr h₀ L h' m) (N : News h₀ L h' ((r, o) :: (d, od) :: rest')) (e : rest' = tl ++ (I, oI) :: (C, oC) :: (D, oD) :: R) (S : BS w n r d c o od oc (tl ++ T0) rest' due)
    (ha : Above tl ((I, oI) :: (C, oC) :: (D, oD) :: R)) (hK : Kept cs R) (o3 : LCg.Off3 I C D R) (S0 : BS w n r d c o0 od0 oc T0 R due0)
    (h : ∀ R', Grow tl R R' → BS w n r d c o od oc (tl ++ T0) R' due → Kept cs R' → LCg.Off3 I C D R' → rst y ((r, o) :: (d, od) :: R')) :
    LCg.CompEnd h₀ L m s₁ I oI C oC D oD (fun _ => True) rst y { s₁ with heap := h', toks := tk } := by
  subst e
  have hsub : ∀ p ∈ tl ++ R, p ∈ tl ++ (I, oI) :: (C, oC) :: (D, oD) :: R := fun p hp => by
    rcases List.mem_append.mp hp with h | h
    · exact sub_l p h
    · exact sub_r p (.tail _ (.tail _ (.tail _ h)))
  have mI : (I, oI) ∈ tl ++ (I, oI) :: (C, oC) :: (D, oD) :: R := sub_r _ (.head _)
  have mC : (C, oC) ∈ tl ++ (I, oI) :: (C, oC) :: (D, oD) :: R := sub_r _ (.tail _ (.head _))
  have mD : (D, oD) ∈ tl ++ (I, oI) :: (C, oC) :: (D, oD) :: R := sub_r _ (.tail _ (.tail _ (.head _)))
  have o3' : LCg.Off3 I C D (tl ++ R) := off3_app (fun p hp => ⟨Nat.ne_of_gt (ha p hp _ (.head _)), Nat.ne_of_gt (ha p hp _ (.tail _ (.head _))), Nat.ne_of_gt (ha p hp _ (.tail _ (.tail _ (.head _))))⟩) o3
  refine LCg.CompEnd.intro F N ((r, o) :: (d, od) :: (tl ++ R)) (fun p hp => ?_) ⟨⟨Ne.symm (S.hr _ mI), Ne.symm (S.hr _ mC), Ne.symm (S.hr _ mD)⟩, ⟨Ne.symm (S.hd _ mI), Ne.symm (S.hd _ mC), Ne.symm (S.hd _ mD)⟩, o3'⟩ trivial
    (h (tl ++ R) ⟨rfl, fun p hp q hq => ha p hp q (.tail _ (.tail _ (.tail _ hq)))⟩ ⟨S.row, S.cells, sub_r _ S0.hc, S.dr, fun p hp => S.hr p (hsub p hp), fun p hp => S.hd p (hsub p hp), sub_app S0.sub, S.due⟩ (fun p hp => sub_r p (hK p hp)) o3')
  rcases List.mem_cons.mp hp with rfl | hp
  · exact .tail _ (.tail _ mI)
  · rcases List.mem_cons.mp hp with rfl | hp
    · exact .tail _ (.tail _ mC)
    · rcases List.mem_cons.mp hp with rfl | hp
      · exact .tail _ (.tail _ mD)
      · rcases List.mem_cons.mp hp with rfl | hp
        · exact .head _
        · rcases List.mem_cons.mp hp with rfl | hp
          · exact .tail _ (.head _)
          · exact .tail _ (.tail _ (hsub p hp))
theorem rot4 {h₀ h : Heap} {L : Addr} {p1 p2 p3 p4 a b : Addr × Obj} {l : Led} (N : News h₀ L h (p1 :: p2 :: p3 :: p4 :: a :: b :: l)) : News h₀ L h (a :: b :: p1 :: p2 :: p3 :: p4 :: l) :=
  news_sub N fun x hx => by simp only [List.mem_cons] at hx ⊢; rcases hx with hx | hx | hx | hx | hx | hx | hx <;> simp [hx]
theorem rot3 {h₀ h : Heap} {L : Addr} {p1 p2 p3 a b : Addr × Obj} {l : Led} (N : News h₀ L h (p1 :: p2 :: p3 :: a :: b :: l)) : News h₀ L h (a :: b :: p1 :: p2 :: p3 :: l) :=
  news_sub N fun x hx => by simp only [List.mem_cons] at hx ⊢; rcases hx with hx | hx | hx | hx | hx | hx <;> simp [hx]

theorem grow_cons {TL rest rest2 : Led} {A : Addr} {o : Obj} (g : Grow TL rest rest2) (h : AllLt A rest) : Grow ((A, o) :: TL) rest ((A, o) :: rest2) := by
  obtain ⟨rfl, ab⟩ := g
  exact ⟨rfl, above_cons h ab⟩
theorem allLt_grow {TL rest rest2 : Led} {A : Addr} (g : Grow TL rest rest2) (h : AllLt A rest2) : AllLt A rest := by
  obtain ⟨rfl, ab⟩ := g
  exact allLt_app h
theorem grow_nil {rest : Led} : Grow [] rest rest := ⟨rfl, above_nil⟩
theorem leaf_grow {cs tl1 tl2 R0 rest rest1 rest2 : Led} {N1 Z B de : Addr} {a b c oe : Obj} (g2 : Grow tl2 ((N1, a) :: (Z, b) :: (B, c) :: (de, oe) :: rest1) rest2) (g1 : Grow ((de, oe) :: tl1) R0 ((de, oe) :: rest1)) (g0 : Grow cs rest R0)
    (h1 : @LT.lt Nat _ de N1) (k1 : AllLt N1 rest1) (h2 : @LT.lt Nat _ de Z) (k2 : AllLt Z rest1) (h3 : @LT.lt Nat _ de B) (k3 : AllLt B rest1) :
    Grow (tl2 ++ ([(N1, a), (Z, b), (B, c)] ++ (((de, oe) :: tl1) ++ cs))) rest rest2 :=
  g2.trans (Grow.trans ⟨rfl, above_cons ⟨h1, k1⟩ (above_cons ⟨h2, k2⟩ (above_one ⟨h3, k3⟩))⟩ (g1.trans g0))

theorem grow_ent {tl rest rest' : Led} {p : Addr × Obj} (e : rest' = tl ++ rest) (h : Above (p :: tl) rest) : Grow (p :: tl) rest (p :: rest') := ⟨by rw [e]; rfl, h⟩
theorem allLt_up {a b : Addr} : ∀ {l : Led}, AllLt b l → @LT.lt Nat _ b a → AllLt a l
  | [], _, _ => trivial
  | _ :: _, h, k => ⟨Nat.lt_trans h.1 k, allLt_up h.2 k⟩
abbrev HiUp (r d : Addr) (rest2 kp : Led) : Prop := ∀ p ∈ kp, (@LT.lt Nat _ r p.1) ∧ (@LT.lt Nat _ d p.1) ∧ AllLt p.1 rest2
theorem hA0 {r d : Addr} {rest2 : Led} : HiUp r d rest2 [] := fun _ h => nomatch h
theorem hA1 {r d A : Addr} {o : Obj} {rest2 kp : Led} (h1 : @LT.lt Nat _ r A) (h2 : @LT.lt Nat _ d A) (h3 : AllLt A rest2) (k : HiUp r d rest2 kp) : HiUp r d rest2 ((A, o) :: kp) := fun p hp => by
  rcases List.mem_cons.mp hp with rfl | hp
  · exact ⟨h1, h2, h3⟩
  · exact k p hp
theorem kp2 {a b c : Addr × Obj} : ∀ p ∈ [a, b], p ∈ [a, b, c] := fun p hp => by
  simp only [List.mem_cons, List.not_mem_nil, or_false] at hp ⊢; rcases hp with h | h <;> simp [h]
theorem subS {x : Addr × Obj} {a b c : Led} (h : ∀ p ∈ a, p ∈ b ++ c) : ∀ p ∈ a, p ∈ ([x] ++ b) ++ c := fun p hp => .tail _ (h p hp)
theorem grow_one {A : Addr} {o : Obj} {rest : Led} (h : AllLt A rest) : Grow [(A, o)] rest ((A, o) :: rest) := ⟨rfl, above_one h⟩
theorem ok_index {lv : Nat} {sp s1 : Int} {t : Tg} {v1 : VN} (h : 0 < lv) (k : t.Ok (lv - 1)) : (Tg.index sp t s1 v1).Ok lv := by
  cases lv with
  | zero => exact absurd h (Nat.lt_irrefl _)
  | succ l => exact k
theorem ok_cat1 {lv : Nat} {sp : Int} {t : Tg} (h : 0 < lv) (k : t.Ok (lv - 1)) : (Tg.cat1 sp t).Ok lv := by
  cases lv with
  | zero => exact absurd h (Nat.lt_irrefl _)
  | succ l => exact k
theorem ok_cat2 {lv : Nat} {sp : Int} {t u : Tg} (h : 0 < lv) (k : t.Ok (lv - 1)) (k2 : u.Ok (lv - 1)) : (Tg.cat2 sp t u).Ok lv := by
  cases lv with
  | zero => exact absurd h (Nat.lt_irrefl _)
  | succ l => exact ⟨k, k2⟩
theorem ok_cat3 {lv : Nat} {sp : Int} {t u v : Tg} (h : 0 < lv) (k : t.Ok (lv - 1)) (k2 : u.Ok (lv - 1)) (k3 : v.Ok (lv - 1)) : (Tg.cat3 sp t u v).Ok lv := by
  cases lv with
  | zero => exact absurd h (Nat.lt_irrefl _)
  | succ l => exact ⟨k, k2, k3⟩
theorem ok_sel {lv : Nat} {sp s1 s2 : Int} {kind : Str} {t : Tg} {v1 v2 : VN} (h : 0 < lv) (w : selWord kind) (k : t.Ok (lv - 1)) : (Tg.sel kind sp t s1 v1 s2 v2).Ok lv := by
  cases lv with
  | zero => exact absurd h (Nat.lt_irrefl _)
  | succ l => exact ⟨w, k⟩
theorem ok_path {lv : Nat} {sp : Int} (h : 0 < lv) : (Tg.path sp).Ok lv := by
  cases lv with
  | zero => exact absurd h (Nat.lt_irrefl _)
  | succ l => trivial
theorem ok_pathv {lv : Nat} {sp s1 : Int} {v1 : VN} (h : 0 < lv) : (Tg.pathv sp s1 v1).Ok lv := by
  cases lv with
  | zero => exact absurd h (Nat.lt_irrefl _)
  | succ l => trivial
theorem leaf_none {h₀ : Heap} {L : Addr} {m : Str → Option Value} {s : Shared} {Q : Value → Shared → Prop} {w : World} {n : Nat} {r d c : Addr} {oc : Obj} {T0 rest : Led} {due : List Dat} {pr : Bool} {lv : Nat}
    (ret : ∀ h' tk' o' od' tl rest' v t, Fr h₀ L h' m → News h₀ L h' ((r, o') :: (d, od') :: rest') → rest' = tl ++ rest → BS w n r d c o' od' oc (tl ++ T0) rest' (due ++ Tg.exp pr t) → Above tl rest →
      DatIn tl v t.dat → t.Ok lv → Q v { s with heap := h', toks := tk' })
    {h' : Heap} {tk' : Nat} {o od oe : Obj} {rest2 TL : Led} {A de : Addr} {sp : Int} {j kA : Nat} {t1 t2 t3 : Tok} (mid : Led)
    (F : Fr h₀ L h' m) (N : News h₀ L h' ((A, tupO [.str (Str.ofString "id") t1, .int sp t2, .str (nameOf j) t3] kA) :: (mid ++ (r, o) :: (d, od) :: (de, oe) :: rest2)))
    (S : BS w n r d c o od oc T0 rest2 due) (g : Grow TL rest rest2) (hT0 : ∀ p ∈ T0, p ∈ rest) (told : toldOf pr j = none) (hj : j ≤ 10)
    (a1 : @LT.lt Nat _ r A) (a2 : @LT.lt Nat _ d A) (a3 : AllLt A rest2) : Q (.ref A) { s with heap := h', toks := tk' } := by
  refine tg_fin ret [(A, tupO [.str (Str.ofString "id") t1, .int sp t2, .str (nameOf j) t3] kA)] [(A, tupO [.str (Str.ofString "id") t1, .int sp t2, .str (nameOf j) t3] kA)] (.id sp j) F (news_sub N fun p hp => ?_) (fun p hp => hp)
    (fun p hp => by rw [List.mem_singleton.mp hp]; exact ⟨a1, a2, a3⟩) S g sub_r hT0 (dat3 (.head _)) (by cases lv <;> exact hj) (by simp only [Tg.exp, told, List.append_nil])
  simp only [List.cons_append, List.nil_append, List.mem_cons, List.mem_append] at hp ⊢
  rcases hp with h | h | h | h <;> simp [h]

theorem leaf_told {h₀ : Heap} {L : Addr} {m : Str → Option Value} {s : Shared} {Q : Value → Shared → Prop} {w : World} {n : Nat} {r d c : Addr} {oc : Obj} {T0 rest : Led} {due : List Dat} {pr : Bool} {lv : Nat}
    (ret : ∀ h' tk' o' od' tl rest' v t, Fr h₀ L h' m → News h₀ L h' ((r, o') :: (d, od') :: rest') → rest' = tl ++ rest → BS w n r d c o' od' oc (tl ++ T0) rest' (due ++ Tg.exp pr t) → Above tl rest →
      DatIn tl v t.dat → t.Ok lv → Q v { s with heap := h', toks := tk' })
    {h' : Heap} {tk' : Nat} {o oe : Obj} {vs : List Value} {k k' : Nat} {rest2 TL : Led} {A B de : Addr} {sp : Int} {x : Str} {j kA kB : Nat} {t1 t2 t3 u1 u2 u3 : Tok} (mid : Led)
    (F : Fr h₀ L h' m) (N : News h₀ L h' ((A, tupO [.str (Str.ofString "id") t1, .int sp t2, .str (nameOf j) t3] kA) :: (B, tupO [.str x u1, .int sp u2, .str (nameOf j) u3] kB) :: (mid ++ (r, o) :: (d, W.listOf (vs.toArray.push (.ref B)) k') :: (de, oe) :: rest2)))
    (S : BS w n r d c o (W.listOf vs.toArray k) oc T0 rest2 due) (g : Grow TL rest rest2) (hT0 : ∀ p ∈ T0, p ∈ rest) (told : toldOf pr j = some x) (hj : j ≤ 10)
    (a0 : @LT.lt Nat _ B A) (a1 : @LT.lt Nat _ r A) (a2 : @LT.lt Nat _ d A) (a3 : AllLt A rest2) (b1 : @LT.lt Nat _ r B) (b2 : @LT.lt Nat _ d B) (b3 : AllLt B rest2) : Q (.ref A) { s with heap := h', toks := tk' } := by
  refine tg_fin ret [(A, tupO [.str (Str.ofString "id") t1, .int sp t2, .str (nameOf j) t3] kA)] [(A, tupO [.str (Str.ofString "id") t1, .int sp t2, .str (nameOf j) t3] kA)] (.id sp j) F
    (od := W.listOf (vs.toArray.push (.ref B)) k') (rest2 := (B, tupO [.str x u1, .int sp u2, .str (nameOf j) u3] kB) :: rest2) (T2 := (B, tupO [.str x u1, .int sp u2, .str (nameOf j) u3] kB) :: T0) (news_sub N fun p hp => ?_) (fun p hp => hp)
    (fun p hp => by rw [List.mem_singleton.mp hp]; exact ⟨a1, a2, a0, a3⟩) (BS.push S (dat3 (.head _)) sub1 (sub_app (tl := [_]) S.sub) (.tail _ S.hc) (apart_cons S.hr b1) (apart_cons S.hd b2))
    (grow_cons g (allLt_grow g b3)) (fun p hp => ?_) hT0 (dat3 (.head _)) (by cases lv <;> exact hj) (by simp only [Tg.exp, told])
  · simp only [List.cons_append, List.nil_append, List.mem_cons, List.mem_append] at hp ⊢
    rcases hp with h | h | h | h | h <;> simp [h]
  · rcases List.mem_cons.mp hp with rfl | hp
    · exact .head _
    · exact .tail _ (sub_r p hp)
end Mine
namespace Mine
theorem str_eq2 {prog : Program} {w : World} {A : Around} {E : Value → Shared → Prop} {s : Shared} {x y : Str} {t u : Tok} {Q : Value → Shared → Prop} (h1 : x = y → Q (.bool true) s) (h2 : x ≠ y → Q (.bool false) s) :
    wpAny (model prog w) A (compareOp .Eq (.str x t) (.str y u)) Q E s := PyProof.Rows.eq_str (by
  by_cases e : x = y
  · rw [beq_iff_eq.mpr e]; exact h1 e
  · rw [beq_eq_false_iff_ne.mpr e]; exact h2 e)
theorem str_ne2 {prog : Program} {w : World} {A : Around} {E : Value → Shared → Prop} {s : Shared} {x y : Str} {t u : Tok} {Q : Value → Shared → Prop} (h1 : x = y → Q (.bool false) s) (h2 : x ≠ y → Q (.bool true) s) :
    wpAny (model prog w) A (compareOp .NotEq (.str x t) (.str y u)) Q E s := PyProof.Rows.ne_str (by
  by_cases e : x = y
  · rw [show (x != y) = false by rw [bne, beq_iff_eq.mpr e]; rfl]; exact h1 e
  · rw [show (x != y) = true by rw [bne, beq_eq_false_iff_ne.mpr e]; rfl]; exact h2 e)
theorem str_in2 {prog : Program} {w : World} {A : Around} {E : Value → Shared → Prop} {s : Shared} {h₀ : Heap} {L l : Addr} {news : Led} {x a b : Str} {t t1 t2 : Tok} {k : Nat} {Q : Value → Shared → Prop}
    (N : News h₀ L s.heap news) (hm : (l, W.listOf [Value.str a t1, Value.str b t2].toArray k) ∈ news) (h1 : x = a ∨ x = b → Q (.bool true) s) (h2 : x ≠ a → x ≠ b → Q (.bool false) s) :
    wpAny (model prog w) A (compareOp .In (.str x t) (.ref l)) Q E s :=
  PyProof.Rows.in_list_strs (N.isList hm) (.cons a t1 (.cons b t2 .nil)) (by
    by_cases e : a = x
    · rw [show ([a, b].any (· == x)) = true by rw [List.any_cons, beq_iff_eq.mpr e]; rfl]; exact h1 (.inl e.symm)
    · by_cases f : b = x
      · rw [show ([a, b].any (· == x)) = true by rw [List.any_cons, List.any_cons, beq_iff_eq.mpr f, Bool.true_or, Bool.or_true]]; exact h1 (.inr f.symm)
      · rw [show ([a, b].any (· == x)) = false by rw [List.any_cons, List.any_cons, beq_eq_false_iff_ne.mpr e, beq_eq_false_iff_ne.mpr f]; rfl]; exact h2 (Ne.symm e) (Ne.symm f))

def dirOf : Nat → Str
  | 8 => Str.ofString "input"
  | 9 => Str.ofString "output"
  | _ => Str.ofString ""
theorem more_net {T : Led} {j : Nat} {v : Value} (hj : j ≤ 10) (h : kindOf j = Str.ofString "net") (hM : MoreIs T j v) : ∃ a n t b, v = .ref a ∧ (a, tupO [.str (dirOf j) t, .bool b, .bool true] n) ∈ T := by
  have e : j = 7 ∨ j = 8 ∨ j = 9 := (by decide +kernel : ∀ i : Fin 11, kindOf i = Str.ofString "net" → i.val = 7 ∨ i.val = 8 ∨ i.val = 9) ⟨j, by omega⟩ h
  rcases e with rfl | rfl | rfl <;> (obtain ⟨a, n, t, e, hm⟩ := hM; exact ⟨a, n, t, _, e, hm⟩)
set_option synthInstance.maxSize 2000 in
set_option synthInstance.maxHeartbeats 400000 in
theorem told_all : ∀ (pr : Bool) (i : Fin 11), (kindOf i = Str.ofString "none" → toldOf pr i = some (Str.ofString "undeclared")) ∧
    (kindOf i = Str.ofString "param" ∨ kindOf i = Str.ofString "genvar" → toldOf pr i = some (Str.ofString "constant_assigned")) ∧
    (kindOf i = Str.ofString "var" → toldOf pr i = if pr then none else some (Str.ofString "assign_to_variable")) ∧
    (kindOf i = Str.ofString "net" → dirOf i = Str.ofString "input" → toldOf pr i = some (Str.ofString "input_assigned")) ∧
    (kindOf i = Str.ofString "net" → dirOf i ≠ Str.ofString "input" → toldOf pr i = if pr then some (Str.ofString "assign_to_net") else none) ∧
    (kindOf i ≠ Str.ofString "none" → kindOf i ≠ Str.ofString "param" → kindOf i ≠ Str.ofString "genvar" → kindOf i ≠ Str.ofString "var" → kindOf i ≠ Str.ofString "net" → toldOf pr i = some (Str.ofString "not_assignable")) ∧
    (kindOf i = Str.ofString "none" ↔ i.val = 10) := by decide +kernel
theorem net_ne2 {prog : Program} {w : World} {A : Around} {E : Value → Shared → Prop} {s : Shared} {T : Led} {j : Nat} {v : Value} {t u : Tok} {Q : Value → Shared → Prop} (hj : j ≤ 10) (hM : MoreIs T j v)
    (h1 : ∀ a n t b, v = .ref a → (a, tupO [.str (dirOf j) t, .bool b, .bool true] n) ∈ T → kindOf j = Str.ofString "net" → Q (.bool false) s) (h2 : kindOf j ≠ Str.ofString "net" → Q (.bool true) s) :
    wpAny (model prog w) A (compareOp .NotEq (.str (kindOf j) t) (.str (Str.ofString "net") u)) Q E s :=
  str_ne2 (fun h => let ⟨a, n, t, b, e, hm⟩ := more_net hj h hM; h1 a n t b e hm h) h2
theorem net_eq2 {prog : Program} {w : World} {A : Around} {E : Value → Shared → Prop} {s : Shared} {T : Led} {j : Nat} {v : Value} {t u : Tok} {Q : Value → Shared → Prop} (hj : j ≤ 10) (hM : MoreIs T j v)
    (h1 : ∀ a n t b, v = .ref a → (a, tupO [.str (dirOf j) t, .bool b, .bool true] n) ∈ T → kindOf j = Str.ofString "net" → Q (.bool true) s) (h2 : kindOf j ≠ Str.ofString "net" → Q (.bool false) s) :
    wpAny (model prog w) A (compareOp .Eq (.str (kindOf j) t) (.str (Str.ofString "net") u)) Q E s :=
  str_eq2 (fun h => let ⟨a, n, t, b, e, hm⟩ := more_net hj h hM; h1 a n t b e hm h) h2
theorem told_none {pr : Bool} {j : Nat} (hj : j ≤ 10) (h : kindOf j = Str.ofString "none") : toldOf pr j = some (Str.ofString "undeclared") := (told_all pr ⟨j, by omega⟩).1 h
theorem told_const {pr : Bool} {j : Nat} (hj : j ≤ 10) (h : kindOf j = Str.ofString "param" ∨ kindOf j = Str.ofString "genvar") : toldOf pr j = some (Str.ofString "constant_assigned") := (told_all pr ⟨j, by omega⟩).2.1 h
theorem told_varT {pr : Bool} {j : Nat} (hj : j ≤ 10) (h : kindOf j = Str.ofString "var") (hp : pr = true) : toldOf pr j = none := ((told_all pr ⟨j, by omega⟩).2.2.1 h).trans (by rw [hp]; rfl)
theorem told_varF {pr : Bool} {j : Nat} (hj : j ≤ 10) (h : kindOf j = Str.ofString "var") (hp : pr = false) : toldOf pr j = some (Str.ofString "assign_to_variable") := ((told_all pr ⟨j, by omega⟩).2.2.1 h).trans (by rw [hp]; rfl)
theorem told_in {pr : Bool} {j : Nat} (hj : j ≤ 10) (h : kindOf j = Str.ofString "net") (hd : dirOf j = Str.ofString "input") : toldOf pr j = some (Str.ofString "input_assigned") := (told_all pr ⟨j, by omega⟩).2.2.2.1 h hd
theorem told_netT {pr : Bool} {j : Nat} (hj : j ≤ 10) (h : kindOf j = Str.ofString "net") (hd : dirOf j ≠ Str.ofString "input") (hp : pr = true) : toldOf pr j = some (Str.ofString "assign_to_net") := ((told_all pr ⟨j, by omega⟩).2.2.2.2.1 h hd).trans (by rw [hp]; rfl)
theorem told_netF {pr : Bool} {j : Nat} (hj : j ≤ 10) (h : kindOf j = Str.ofString "net") (hd : dirOf j ≠ Str.ofString "input") (hp : pr = false) : toldOf pr j = none := ((told_all pr ⟨j, by omega⟩).2.2.2.2.1 h hd).trans (by rw [hp]; rfl)
theorem told_other {pr : Bool} {j : Nat} (hj : j ≤ 10) (h0 : kindOf j ≠ Str.ofString "none") (h1 : kindOf j ≠ Str.ofString "param") (h2 : kindOf j ≠ Str.ofString "genvar") (h3 : kindOf j ≠ Str.ofString "var") (h4 : kindOf j ≠ Str.ofString "net") : toldOf pr j = some (Str.ofString "not_assignable") :=
  (told_all pr ⟨j, by omega⟩).2.2.2.2.2.1 h0 h1 h2 h3 h4
theorem kind_none {j : Nat} (hj : j ≤ 10) : kindOf j = Str.ofString "none" ↔ j = 10 := (told_all true ⟨j, by omega⟩).2.2.2.2.2.2
end Mine
namespace Mine
theorem fillNow5 : (PySem.Challenge.rw_on0096_01.row.prog, hd.heap_39) = (PySem.Challenge.rw_on0096_01.row.prog, hd.heap_39) := by k_fill; rfl

theorem part_three {w : World} {mean : ExcName → Option Value} {mg mb : Str → Option Value}
    {dp un : Nat} {gd : Option (List Code)} {cn : Str} {cs : Scope} {a : Addr} {ccd : Value} {cl : List (Str × Addr)} {outer : List Env}
    {A₀ : Around} {base h₀ : Heap} {L : Addr} {m : Str → Option Value} {s : Shared} {Q E : Value → Shared → Prop}
    {r d c : Addr} {o od oc : Obj} {n : Nat} {tmo : Tok} {news T0 rest : Led} {due : List Dat} {g : Obj → Led}
    (B : Below A₀ base outer h₀) (F : Fr h₀ L s.heap m) (X : (hd.heap_39 w.params).In h₀) (N : News h₀ L s.heap news) (T : TopM mean mg mb h₀)
    (hk : cs.kind = .function) (S : BS w n r d c o od oc T0 rest due) (U : UpdF r o news g) (hc : (c, oc) ∈ news) (hdp : dp < 900)
    (r0 : ∀ h' tk' o' tk, Fr h₀ L h' m → News h₀ L h' (g o') → BS w n r d c o' od oc T0 rest due → Q (.int 0 tk) { s with heap := h', toks := tk' })
    (r1 : ∀ h' tk' o' tk, Fr h₀ L h' m → News h₀ L h' (g o') → BS w n r d c o' od oc T0 rest due → Q (.int 1 tk) { s with heap := h', toks := tk' })
    (r2 : ∀ h' tk' o' tk, Fr h₀ L h' m → News h₀ L h' (g o') → BS w n r d c o' od oc T0 rest due → Q (.int 2 tk) { s with heap := h', toks := tk' }) :
    wpAny (model PySem.Challenge.rw_on0096_01.row.prog w) (ktrTop dp un gd cn cs L a ccd cl outer) (call (.ref 149) [.ref r, .int 3 tmo]) Q E s :=
  part_bs B F X N T hk S U hc (by decide) hdp fun h' tk' o' k tk F' N' S' h0 h1 => by
    have e : k = 0 ∨ k = 1 ∨ k = 2 := by omega
    rcases e with rfl | rfl | rfl
    · exact r0 h' tk' o' tk F' N' S'
    · exact r1 h' tk' o' tk F' N' S'
    · exact r2 h' tk' o' tk F' N' S'

theorem item_sel {prog : Program} {w : World} {A : Around} {E : Value → Shared → Prop} {s : Shared} {h₀ : Heap} {L l : Addr} {news : Led} {value slice : PySem.Expr} {t1 t2 t3 : Tok} {n : Nat} {k : Int} {u : Tok} {Q : Value → Shared → Prop}
    (N : News h₀ L s.heap news) (hm : (l, W.listOf [Value.str (Str.ofString "part") t1, .str (Str.ofString "up") t2, .str (Str.ofString "down") t3].toArray n) ∈ news) (h0 : 0 ≤ k) (h1 : k < 3)
    (hs : ∀ j : Int, subscripted slice false (.ref l) (.int j u) = operate [.ref l, .int j u] (getItem (.ref l) (.int j u)))
    (h : ∀ x t, selWord x → Q (.str x t) s) : wpAny (model prog w) A (subscriptTail value slice (.ref l) (.int k u)) Q E s :=
  item_three N hm h0 h1 hs (fun _ => h _ _ (.inl rfl)) (fun _ => h _ _ (.inr (.inl rfl))) (fun _ => h _ _ (.inr (.inr rfl)))

section
local macro_rules | `(tactic| walk_at $s:str) => `(tactic| k_extra $s)
local macro_rules | `(tactic| k_all) => `(tactic| assumption)
local macro_rules | `(tactic| k_mem) => `(tactic| assumption)
local macro_rules | `(tactic| k_mem) => `(tactic| exact mem_kept (by assumption) (by first | exact .head _ | exact .tail _ (.head _) | exact .tail _ (.tail _ (.head _)) | exact .tail _ (.tail _ (.tail _ (.head _)))))
-- the lines for calls: k1..k6 are the common facts
-- the kind
-- a draw of three ways, a draw of the eleven names
-- the leaf
-- the recursion

theorem target_step (w : World) (lv : Nat) (IH : TargetUp w lv) : TargetSpec w lv := by
  w_top off
  k_with_none
  k_with "mine common" => (((case k1 => k_asm); (case k2 => k_asm); (case k3 => k_asm); (case k4 => first | k_asm | exact rot3 (by k_asm)); (case k5 => k_asm); (case k6 => first | exact rfl | assumption)))
  k_with "call ref" => ((k_here; k_dflt (refine' place_bs ?k1 ?k2 ?k3 ?k4 ?k5 ?k6 ?k7 ?k8 ?k9 ?_; (case k1 => k_asm); (case k2 => k_asm); (case k3 => k_asm); (case k4 => k_asm); (case k5 => k_asm); (case k6 => first | exact rfl | assumption); (case k7 => assumption); (case k8 => k_updF); (case k9 => (dsimp only [ktrTop, Around.deeper]; omega))); k_whole; intro h' tk' o' k' t' F' N' S'; (try dsimp only at N'); (try k_fold)))
  k_with "call ref" => ((k_here; k_dflt (refine' part_bs ?k1 ?k2 ?k3 ?k4 ?k5 ?k6 ?k7 ?k8 ?kc ?km ?k9 ?_; (case k1 => k_asm); (case k2 => k_asm); (case k3 => k_asm); (case k4 => k_asm); (case k5 => k_asm); (case k6 => first | exact rfl | assumption); (case k7 => assumption); (case k8 => k_updF); (case kc => k_mem); (case km => decide); (case k9 => (dsimp only [ktrTop, Around.deeper]; omega))); k_whole; intro h' tk' o' k' t' F' N' S' hk0' hk1'; (try dsimp only at N'); (try k_fold)))
  k_with "call ref" => ((k_here; (with_reducible show wpAny _ _ (call (Value.ref 149) [_, Value.int (ite _ _ _) _]) _ _ _); k_dflt (refine' part_kind ?k1 ?k2 ?k3 ?k4 ?k5 ?k6 ?k7 ?k8 ?kc ?k9 ?_; (case k1 => k_asm); (case k2 => k_asm); (case k3 => k_asm); (case k4 => k_asm); (case k5 => k_asm); (case k6 => first | exact rfl | assumption); (case k7 => assumption); (case k8 => k_updF); (case kc => k_mem); (case k9 => (dsimp only [ktrTop, Around.deeper]; omega))); k_whole; intro h' tk' o' k' t' F' N' S' hk0' hkd'; (try dsimp only at N'); (try k_fold)))
  k_with "call ref" => ((k_here; k_dflt (refine' value_spec ?k1 ?k2 ?k3 ?k4 ?k5 ?k6 ?k7 ?k8 ?k9 ?_; (case k1 => k_asm); (case k2 => k_asm); (case k3 => k_asm); (case k4 => first | k_asm | exact rot1 (by k_asm)); (case k5 => k_asm); (case k6 => first | exact rfl | assumption); (case k7 => first | assumption | exact BS.skip (by assumption) (by omega) (by omega)); (case k8 => ((try simp only [List.length_append]); omega)); (case k9 => (dsimp only [ktrTop, Around.deeper]; omega))); k_whole; intro h' tk' o' od' tl' rest' v' sp' x' F' N' e' S' hs' D'; (have gR' := Grow.mk e' hs'); (have hK' := Kept.up (by first | assumption | exact Kept.skip (by assumption)) e'); (have hc' := S'.hc); (have hr' := S'.hr); (have hd' := S'.hd); (have hl' := expV_len sp' x'); (try k_fold)))
  k_with "ite" => ((refine ite_const ?_))
  k_with "exec Assign cons ListComp" => ((k_here; k_dflt (refine LCg.Assign_ListComp_U (F₀ := by k_asm) (by rfl) (by with_unfolding_all rfl) (by rfl) (by decide) (by rfl) (by decide) (by rfl) (by rfl) (by rfl) ?_)))
  k_with "CompSrc" => ((k_here; k_dflt (refine LCg.CompSrc.range (by rfl) (by k_asm) (by k_asm) (by assumption) (by first | decide | rfl) (by first | rfl | decide) (by first | size_fits | exact Nat.le_of_ble_eq_true rfl) ?_; intro g'; lcg_lit)))
  k_with "CompRest" => ((with_unfolding_all first | (refine LCg.CompRest.succ ?_; intro v' I' oI' C' oC' D' m' h' tk' E' hv' hC' hx' F' N' off' ne'; (have off2' := off3_tail off'); clear ne') | refine LCg.CompRest.zero ?_))
  k_with "CompEnd" => ((refine comp_end (by k_asm) (by k_asm) (by assumption) (by assumption) (by assumption) (by assumption) (by assumption) (by assumption) ?_; (intro rest' gR' S' hK' o3'); (have hc' := S'.hc); (have hr' := S'.hr); (have hd' := S'.hd)))
  k_with "call ref" => ((k_here; (with_reducible show wpAny _ _ (call (Value.ref 149) [_, Value.int 3 _]) _ _ _); (rename (_ = (3 : Int)) => h3); k_dflt (refine' part_three ?k1 ?k2 ?k3 ?k4 ?k5 ?k6 ?k7 ?k8 ?kc ?k9 ?_ ?_ ?_; (case k1 => k_asm); (case k2 => k_asm); (case k3 => k_asm); (case k4 => k_asm); (case k5 => k_asm); (case k6 => first | exact rfl | assumption); (case k7 => assumption); (case k8 => k_updF); (case kc => k_mem); (case k9 => (dsimp only [ktrTop, Around.deeper]; omega))); all_goals (k_whole; intro h' tk' o' t' F' N' S'; (try dsimp only at N'); (try k_fold))))
  k_with "call ref" => ((k_here; (with_reducible show wpAny _ _ (call (Value.ref 156) _) _ _ _); k_dflt (refine' entries_bs ?k1 ?k2 ?k3 ?k4 ?k5 ?k6 ?k7 ?k9 ?_; (case k1 => k_asm); (case k2 => k_asm); (case k3 => k_asm); (case k4 => first | exact rot3 (by k_asm) | k_asm); (case k5 => k_asm); (case k6 => first | exact rfl | assumption); (case k7 => first | assumption | exact BS.skip (BS.skip (BS.skip (BS.skip (by assumption) (by assumption) (by assumption)) (by omega) (by omega)) (by omega) (by omega)) (by omega) (by omega)); (case k9 => (dsimp only [ktrTop, Around.deeper]; omega))); k_whole; intro h' tk' de' oe' tl' rest' v8' v9' v7' v5' v0' v4' v2' v6' v3' v1' F' N' e' S' hs' hn1' hn2' lo' hE'; (have gR' := Grow.mk e' (fun p hp => hs' p (.tail _ hp))); (have gE' := grow_ent e' hs'); (have hK' := Kept.up (by first | assumption | exact Kept.skip (Kept.skip (Kept.skip (Kept.skip (by assumption))))) e'); (have hc' := S'.hc); (have hr' := S'.hr); (have hd' := S'.hd); clear e' hs'; (try k_fold)))
  k_with "call builtin:sorted" => ((k_here; k_dflt (refine' dict_sorted ?qhh ?qF ?qN ?qm ?qlo ?qD (ten_perm _ _ _ _ _ _ _ _ _ _) ten_sorted ?qz ?_; (case qhh => exact rfl); (case qF => k_asm); (case qN => k_asm); (case qD => exact EntS.dict (by assumption)); (case qm => k_mem); (case qlo => assumption); (case qz => exact Nat.le_of_ble_eq_true rfl)); intro B' h' tk' vs' k' F' N' l1 hS'; k_lt l1; (try k_fold)))
  k_with "binaryOp Add ref ref" => ((k_here; k_dflt (refine' cat_names ?qF ?qN ?qa ?qb ?qS ?_; (case qF => k_asm); (case qN => k_asm); (case qa => k_mem); (case qb => k_mem); (case qS => assumption)); intro D' us' h' F' N' l1 hS'; k_lt l1; (try k_fold)))
  k_with "subscriptTail Name Call ref int" => ((k_here; k_dflt (refine' item_names ?qN ?qm ?qS ?qa ?qb ?qs ?_; (case qN => k_asm); (case qm => k_mem); (case qS => assumption); (case qa => assumption); (case qb => assumption); (case qs => with_unfolding_all rfl)); intro j' t' no' hj'; (try k_fold)))
  k_with "getMethod ref" => ((k_here; (with_reducible show wpAny _ _ (getMethod (Value.ref _) (Str.ofString "get") _) _ _ _); k_dflt (refine' kdg_method (knd := PySem.strKind _ _) ?qN ?qm ?qD ?_; (case qN => k_asm); (case qD => exact EntS.dict (by assumption)); (case qm => k_mem))))
  k_with "call builtin:dict.get" => (k_here; (obtain ⟨vs9, k9, e9, hD9⟩ := BS.due (by assumption)); subst e9; (have hvl9 := DatAll.length hD9); k_dflt (refine' get_ent ?qN ?qm ?qlo ?qE ?qT ?qp ?qj ?_; (case qN => k_asm); (case qE => assumption); (case qm => k_mem); (case qlo => assumption); (case qT => exact sub4); (case qp => k_mem); (case qj => assumption)); intro a' n' t' v' hm' hv'; (try k_fold))
  k_with "compareOp Eq str str" => (k_here; (first | ((with_reducible show wpAny _ _ (compareOp _ _ (Value.str (Str.ofString "net") _)) _ _ _); k_dflt (refine' net_eq2 (by assumption) (by assumption) ?_ ?_)) | k_dflt (refine' str_eq2 ?_ ?_)); all_goals (first | (intro a9 n9 t9 b9 e9 hm9 hk9; subst e9; (try k_fold)) | (intro hk9; (try k_fold))))
  k_with "compareOp In str ref" => (k_here; k_dflt (refine' str_in2 ?qN ?qm ?_ ?_; (case qN => k_asm); (case qm => k_mem)); all_goals (first | (intro hk8 hk9; (try k_fold)) | (intro hk9; (try k_fold))))
  k_with "subscriptTail" => (k_here; (with_reducible show wpAny _ _ (subscriptTail (PySem.Expr.List _ _) _ (Value.ref _) (Value.int _ _)) _ _ _); k_dflt (refine' item_sel ?k1 ?k2 ?k3 ?k4 ?k5 ?_; (case k1 => k_asm); (case k2 => k_mem); (case k3 => assumption); (case k4 => assumption); (case k5 => intro _; with_unfolding_all rfl)); intro x9 t9 hs9; (try k_fold))
  k_with "call builtin:list.append" => ((k_here; (with_reducible show wpAny _ _ (call (Value.builtin _) [Value.ref _, _]) _ _ _); k_dflt (refine' append_K ?k1 ?k2 ?k3 ?_ ?z; (case k1 => k_asm); (case k2 => k_asm); (case k3 => k_upd); (case z => (simp only [List.size_toArray]; rw [sizeLine_eq]; omega)); k_whole); intro h' F' N'))
  k_with "call ref" => ((k_here; (with_reducible show wpAny _ _ (call (Value.ref 175) _) _ _ _); k_dflt (refine' target_use (TargetUp.get (by assumption) (by omega)) ?k1 ?k2 ?k3 ?k4 ?k5 ?k6 ?k7 ?k8 ?k9 ?ka ?kb ?_; (case k1 => k_asm); (case k2 => k_asm); (case k3 => k_asm); (case k4 => first | k_asm | exact rot3 (by k_asm)); (case k5 => k_asm); (case k6 => first | exact rfl | assumption); (case k7 => first | assumption | exact BS.skip3 (by assumption) (by assumption)); (case k8 => ((try simp only [List.length_append]); omega)); (case k9 => (dsimp only [ktrTop, Around.deeper]; omega)); (case ka => omega); (case kb => omega)); k_whole; intro h' tk' o' od' tl' rest' v' t' F' N' e' S' hs' D' ok' hl' hK'; (have gR' := Grow.mk e' hs'); (replace hK' := hK' _ (by first | assumption | exact Kept.skip (Kept.skip (Kept.skip (by assumption))))); (have hc' := S'.hc); (have hr' := S'.hr); (have hd' := S'.hd); (try k_fold)))
  k_with "told" => first | exact told_none (by assumption) (by assumption) | exact told_const (by assumption) (by assumption) | exact told_varT (by assumption) (by assumption) (by assumption) | exact told_varF (by assumption) (by assumption) (by assumption) | exact told_in (by assumption) (by assumption) (by assumption) | exact told_netT (by assumption) (by assumption) (by assumption) (by assumption) | exact told_netF (by assumption) (by assumption) (by assumption) (by assumption) | exact told_other (by assumption) (by assumption) (by assumption) (by assumption) (by assumption) (by assumption)
  k_with "exec Assign" => k_fold
  k_with "exec If" => k_fold
  k_with "exec Expr" => k_fold
  k_with "leaf grow" => (exact leaf_grow (by assumption) (by assumption) (by assumption) (by omega) (by tbn_find) (by omega) (by tbn_find) (by omega) (by tbn_find))
  unfold TargetSpec
  intro mean mg mb dp un gd cn cs a ccd cl outer A₀ base h₀ L m s Q E r d c o od oc n T0 rest due pr deep td B F X N T hk S hsz hdp hdeep hlv ret
  have hc := S.hc
  have hr := S.hr
  have hd := S.hd
  have hdr := S.dr
  have hp4 : 4 ^ (lv + 1) = 4 * 4 ^ lv := by rw [Nat.pow_succ]; omega
  have hp1 : 1 ≤ 4 ^ lv := Nat.pow_pos (by decide)
  have hp5 : lv = 0 ∨ 4 ^ (lv - 1 + 1) = 4 ^ lv := by
    rcases Nat.eq_zero_or_pos lv with h | h
    · exact .inl h
    · exact .inr (by rw [Nat.sub_add_cancel h])
  refine wpAny_call ?_
  k_dflt (refine' code_defC ?k1 ?k2 ?k3 ?k4 ?k5 ?kA ?kF ?kK ?k6 ?k7 ?k8 ?k9 ?kB ?kD ?_ ?c2 ?c3 ?c4; (case kA => exact rfl); (case kF => exact rfl); (case kK => assumption); (case k1 => k_asm); (case k2 => k_asm); (case k3 => k_asm); (case k4 => k_asm); (case k5 => k_asm); (case k6 => k_is); (case k7 => k_is); (case k8 => (dsimp only [ktrTop, recursionLimit]; omega)); (case k9 => exact BindsTo.of_eq rfl); (case kB => exact rfl); (case kD => decide +kernel); (case c2 => exact rfl); (case c3 => exact rfl); (case c4 => exact rfl); k_whole; intro g' L' h' tk' cells' FG' F' N' Y' B' X' T' l1)
  k_lt l1; k_cells Y'; (try simp only [List.cons_append, List.nil_append] at N'); (try dsimp only); (try k_lift B')
  replace N' := rot4 N'
  have hl1 := l1.1
  have hl2 := l1.2.1
  rename_i q4 q3 q2 q1 z4 z3 z2 z1
  have S' := (((S.skip (A := L' + 1) (ob := q1) (by omega) (by omega)).skip (A := L' + 1 + 1) (ob := q2) (by omega) (by omega)).skip (A := L' + 1 + 1 + 1) (ob := q3) (by omega) (by omega)).skip (A := L' + 1 + 1 + 1 + 1) (ob := q4) (by omega) (by omega)

  obtain ⟨R0, hR0⟩ : ∃ R : Led, R = (L' + 1 + 1 + 1 + 1, q4) :: (L' + 1 + 1 + 1, q3) :: (L' + 1 + 1, q2) :: (L' + 1, q1) :: rest := ⟨_, rfl⟩
  rw [← hR0] at N' S'
  have hK : Kept [(L' + 1 + 1 + 1 + 1, q4), (L' + 1 + 1 + 1, q3), (L' + 1 + 1, q2), (L' + 1, q1)] R0 := fun p hp => by
    rw [hR0]; simp only [List.mem_cons, List.not_mem_nil, or_false] at hp ⊢; rcases hp with h | h | h | h <;> simp [h]
  have hc2 := S'.hc
  have hr2 := S'.hr
  have hd2 := S'.hd
  have gR0 : Grow [(L' + 1 + 1 + 1 + 1, q4), (L' + 1 + 1 + 1, q3), (L' + 1 + 1, q2), (L' + 1, q1)] rest R0 :=
    ⟨hR0, above_cons (allLt_up l1.2.2 (by omega)) (above_cons (allLt_up l1.2.2 (by omega)) (above_cons (allLt_up l1.2.2 (by omega)) (above_one (allLt_up l1.2.2 (by omega)))))⟩
  have hT0 := S.sub
  clear N F S hc hr hd
  (try dsimp only)
  (try k_fold)
  k_steps
  iterate 8 (· first
      | exact leaf_told ret [_, _] (by k_asm) (by k_asm) (by assumption) (by walk_at "leaf grow") hT0 (by walk_at "told") (by assumption) (by omega) (by omega) (by omega) (by tbn_find) (by omega) (by omega) (by tbn_find)
      | exact leaf_told ret [_] (by k_asm) (by k_asm) (by assumption) (by walk_at "leaf grow") hT0 (by walk_at "told") (by assumption) (by omega) (by omega) (by omega) (by tbn_find) (by omega) (by omega) (by tbn_find)
      | exact leaf_none ret [_, _] (by k_asm) (by k_asm) (by assumption) (by walk_at "leaf grow") hT0 (by walk_at "told") (by assumption) (by omega) (by omega) (by tbn_find))
  · exact tg_fin ret [_] [_] (.index _ _ _ _) (by k_asm) (by k_asm) (fun p hp => hp) (hA1 (by omega) (by omega) (by tbn_find) hA0) (by assumption) (Grow.trans (by assumption) (Grow.trans (by assumption) gR0)) (subT (subT sub_r)) hT0
      (.tuple (.head _) (.cons (.str _ _) (.cons (.int _ _) (.cons (dat_up (by assumption) fun p hp => sub_r p (sub_r p (sub_l p hp))) (.cons (dat_up (by assumption) fun p hp => sub_r p (sub_l p hp)) .nil)))))
      (ok_index (by omega) (by assumption)) (by simp only [Tg.exp, List.append_assoc])
  · exact tg_fin ret [_, _, _] [_, _] (.cat1 _ _) (by k_asm) (by k_asm) kp2 (hA1 (by omega) (by omega) (by tbn_find) (hA1 (by omega) (by omega) (by tbn_find) hA0)) (by assumption) (Grow.trans (by assumption) gR0) (subT sub_r) hT0
      (.tuple (.head _) (.cons (.str _ _) (.cons (.int _ _) (.cons (.tuple (.tail _ (.head _)) (.cons (dat_up (by assumption) fun p hp => sub_r p (sub_l p hp)) .nil)) .nil))))
      (ok_cat1 (by omega) (by assumption)) (by simp only [Tg.exp])
  · exact tg_fin ret [_, _, _] [_, _] (.cat2 _ _ _) (by k_asm) (by k_asm) kp2 (hA1 (by omega) (by omega) (by tbn_find) (hA1 (by omega) (by omega) (by tbn_find) hA0)) (by assumption) (Grow.trans (by assumption) (Grow.trans (by assumption) gR0)) (subT (subT sub_r)) hT0
      (.tuple (.head _) (.cons (.str _ _) (.cons (.int _ _) (.cons (.tuple (.tail _ (.head _)) (.cons (dat_up (by assumption) fun p hp => sub_r p (sub_r p (sub_l p hp))) (.cons (dat_up (by assumption) fun p hp => sub_r p (sub_l p hp)) .nil))) .nil))))
      (ok_cat2 (by omega) (by assumption) (by assumption)) (by simp only [Tg.exp, List.append_assoc])
  · exact tg_fin ret [_, _, _] [_, _] (.cat3 _ _ _ _) (by k_asm) (by k_asm) kp2 (hA1 (by omega) (by omega) (by tbn_find) (hA1 (by omega) (by omega) (by tbn_find) hA0)) (by assumption) (Grow.trans (by assumption) (Grow.trans (by assumption) (Grow.trans (by assumption) gR0))) (subT (subT (subT sub_r))) hT0
      (.tuple (.head _) (.cons (.str _ _) (.cons (.int _ _) (.cons (.tuple (.tail _ (.head _)) (.cons (dat_up (by assumption) fun p hp => sub_r p (sub_r p (sub_r p (sub_l p hp)))) (.cons (dat_up (by assumption) fun p hp => sub_r p (sub_r p (sub_l p hp))) (.cons (dat_up (by assumption) fun p hp => sub_r p (sub_l p hp)) .nil)))) .nil))))
      (ok_cat3 (by omega) (by assumption) (by assumption) (by assumption)) (by simp only [Tg.exp, List.append_assoc])
  · exact tg_fin ret [_] [_] (.sel _ _ _ _ _ _ _) (by k_asm) (by k_asm) (fun p hp => hp) (hA1 (by omega) (by omega) (by tbn_find) hA0) (by assumption) (Grow.trans (by assumption) (Grow.trans (grow_one (by tbn_find)) (Grow.trans (by assumption) (Grow.trans (by assumption) gR0)))) (subT (subS (subT (subT sub_r)))) hT0
      (.tuple (.head _) (.cons (.str _ _) (.cons (.int _ _) (.cons (dat_up (by assumption) fun p hp => sub_r p (sub_r p (sub_r p (sub_r p (sub_l p hp))))) (.cons (dat_up (by assumption) fun p hp => sub_r p (sub_r p (sub_r p (sub_l p hp)))) (.cons (dat_up (by assumption) fun p hp => sub_r p (sub_l p hp)) .nil))))))
      (ok_sel (by omega) (by assumption) (by assumption)) (by simp only [Tg.exp, List.append_assoc])
  · exact tg_fin ret [_, _, _, _] [_, _, _, _] (.pathv _ _ _) (by k_asm) (by k_asm) (fun p hp => hp) (hA1 (by omega) (by omega) (by tbn_find) (hA1 (by omega) (by omega) (by tbn_find) (hA1 (by omega) (by omega) (by tbn_find) (hA1 (by omega) (by omega) (by tbn_find) hA0)))) (by assumption) (Grow.trans (by assumption) gR0) (subT sub_r) hT0
      (.tuple (.head _) (.cons (.str _ _) (.cons (.int _ _) (.cons (.tuple (.tail _ (.head _)) (.cons (.tuple (.tail _ (.tail _ (.tail _ (.head _)))) (.cons (.str _ _) (.cons (dat_up (by assumption) fun p hp => sub_r p (sub_l p hp)) .nil))) (.cons (.tuple (.tail _ (.tail _ (.head _))) (.cons (.str _ _) (.cons .none .nil))) .nil))) .nil))))
      (ok_pathv (by omega)) (by simp only [Tg.exp])
  · exact tg_fin ret [_, _, _, _] [_, _, _, _] (.path _) (by k_asm) (by k_asm) (fun p hp => hp) (hA1 (by omega) (by omega) (by tbn_find) (hA1 (by omega) (by omega) (by tbn_find) (hA1 (by omega) (by omega) (by tbn_find) (hA1 (by omega) (by omega) (by tbn_find) hA0)))) (by assumption) gR0 sub_r hT0
      (.tuple (.head _) (.cons (.str _ _) (.cons (.int _ _) (.cons (.tuple (.tail _ (.head _)) (.cons (.tuple (.tail _ (.tail _ (.tail _ (.head _)))) (.cons (.str _ _) (.cons .none .nil))) (.cons (.tuple (.tail _ (.tail _ (.head _))) (.cons (.str _ _) (.cons .none .nil))) .nil))) .nil))))
      (ok_path (by omega)) (by simp only [Tg.exp, List.append_nil])
end

theorem target_all (w : World) : ∀ lv, TargetSpec w lv := by
  intro lv
  induction lv with
  | zero => exact target_step w 0 ⟨fun h => absurd h (Nat.lt_irrefl _)⟩
  | succ l ih => exact target_step w (l + 1) ⟨fun _ => ih⟩
end Mine
namespace Mine
theorem fillNow6a : (PySem.Challenge.rw_on0096_01.row.prog, hd.heap_39) = (PySem.Challenge.rw_on0096_01.row.prog, hd.heap_39) := by k_fill; rfl

def optD : Option (Int × VN) → Dat
  | none => .none
  | some (s1, v1) => valD s1 v1
def delD : Option (Int × VN) → Dat
  | none => .none
  | some (s1, v1) => .tuple [valD s1 v1]
def arrD : Option (Int × VN × Int × VN) → Dat
  | none => .tuple []
  | some x => .tuple [pairD (some x)]
def expO : Option (Int × VN) → List Dat
  | none => []
  | some (s1, v1) => expV s1 v1
/-- a declaration -/
inductive It where
  | param (p : Option (Int × VN × Int × VN)) (s1 : Int) (v1 : VN)
  | port (p : Option (Int × VN × Int × VN))
  | net (p : Option (Int × VN × Int × VN)) (dl : Option (Int × VN)) (b : Option (Int × VN × Int × VN)) (f : Option (Int × VN))
  | var (p : Option (Int × VN × Int × VN)) (b : Option (Int × VN × Int × VN)) (f : Option (Int × VN))
def It.dat : It → Dat
  | .param p s1 v1 => .tuple [.str (Str.ofString "param"), .int 1, .str (Str.ofString "parameter"), .bool false, pairD p, .str (Str.ofString "N"), valD s1 v1]
  | .port p => .tuple [.str (Str.ofString "port"), .int 1, .str (Str.ofString "input"), .bool false, pairD p, .str (Str.ofString "N")]
  | .net p dl b f => .tuple [.str (Str.ofString "net"), .int 1, .str (Str.ofString "wire"), .bool false, pairD p, delD dl, .str (Str.ofString "N"), arrD b, .none, optD f]
  | .var p b f => .tuple [.str (Str.ofString "var"), .int 1, .str (Str.ofString "reg"), .bool false, pairD p, .str (Str.ofString "N"), arrD b, optD f]
def It.exp : It → List Dat
  | .param p s1 v1 => expP p ++ expV s1 v1
  | .port p => expP p
  | .net p dl b f => expP p ++ expO dl ++ expP b ++ expO f
  | .var p b f => expP p ++ expP b ++ expO f

theorem pair_isnot {M : Model} {A : Around} {E : Value → Shared → Prop} {s : Shared} {T : Led} {v : Value} {x : Option (Int × VN × Int × VN)} {Q : Value → Shared → Prop} (h : DatIn T v (pairD x)) (k0 : x = none → Q (.bool false) s) (k1 : ∀ y, x = some y → Q (.bool true) s) :
    wpAny M A (compareOp .IsNot v .none) Q E s := by
  rcases x with _ | ⟨s1, v1, s2, v2⟩
  · cases h; exact wpAny_isNot_self (by rfl) (k0 rfl)
  · cases h; exact wpAny_isNot_other (by rfl) (by intro x; cases x) (k1 _ rfl)

/-- an end of _law_item -/
theorem it_fin {h₀ : Heap} {L : Addr} {m : Str → Option Value} {s : Shared} {Q : Value → Shared → Prop} {w : World} {n : Nat} {r d c : Addr} {oc : Obj} {T0 rest : Led} {due : List Dat}
    (ret : ∀ h' tk' o' od' tl rest' v it, Fr h₀ L h' m → News h₀ L h' ((r, o') :: (d, od') :: rest') → rest' = tl ++ rest → BS w n r d c o' od' oc (tl ++ T0) rest' (due ++ It.exp it) → Above tl rest →
      DatIn tl v it.dat → Q v { s with heap := h', toks := tk' })
    {h' : Heap} {tk' : Nat} {o od : Obj} {rest2 T2 TL : Led} {due2 : List Dat} {v : Value} (kp : Led) (it : It)
    (F : Fr h₀ L h' m) (N : News h₀ L h' (kp ++ (r, o) :: (d, od) :: rest2)) (S : BS w n r d c o od oc T2 rest2 due2)
    (g : Grow TL rest rest2) (hA : HiUp r d rest2 kp) (hT : ∀ p ∈ T2, p ∈ TL ++ T0) (hT0 : ∀ p ∈ T0, p ∈ rest)
    (D : DatIn (kp ++ TL) v it.dat) (hdue : due2 = due ++ It.exp it) : Q v { s with heap := h', toks := tk' } := by
  obtain ⟨rfl, ab⟩ := g
  subst hdue
  refine ret h' tk' o od (kp ++ TL) (kp ++ (TL ++ rest)) v it F (news_sub N fun p hp => ?_) (by rw [List.append_assoc]) ⟨S.row, S.cells, sub_r _ S.hc, S.dr, fun p hp => ?_, fun p hp => ?_, fun p hp => ?_, S.due.mono fun p hp => ?_⟩
    (fun p hp q hq => ?_) D
  · simp only [List.mem_cons, List.mem_append] at hp ⊢
    rcases hp with h | h | h | h | h <;> simp [h]
  · rcases List.mem_append.mp hp with hp | hp
    · exact Nat.ne_of_gt (hA p hp).1
    · exact S.hr p hp
  · rcases List.mem_append.mp hp with hp | hp
    · exact Nat.ne_of_gt (hA p hp).2.1
    · exact S.hd p hp
  · simp only [List.mem_append] at hp ⊢
    rcases hp with (h | h) | h
    · exact .inl h
    · exact .inr (.inl h)
    · exact .inr (.inr (hT0 p h))
  · have := hT p hp
    simp only [List.mem_append] at this ⊢
    rcases this with h | h <;> simp [h]
  · rcases List.mem_append.mp hp with hp | hp
    · exact ktn_ltOf (allLt_app (hA p hp).2.2) q hq
    · exact ab p hp q hq
theorem del_none {T : Led} : DatIn T .none (delD none) := .none
theorem del_some {T : Led} {v : Value} {s1 : Int} {v1 : VN} (h : DatIn T v (.tuple [valD s1 v1])) : DatIn T v (delD (some (s1, v1))) := h
theorem arr_none {T : Led} {v : Value} (h : DatIn T v (.tuple [])) : DatIn T v (arrD none) := h
theorem arr_some {T : Led} {v : Value} {x : Int × VN × Int × VN} (h : DatIn T v (.tuple [pairD (some x)])) : DatIn T v (arrD (some x)) := h
theorem opt_none {T : Led} : DatIn T .none (optD none) := .none
theorem opt_some {T : Led} {v : Value} {s1 : Int} {v1 : VN} (h : DatIn T v (valD s1 v1)) : DatIn T v (optD (some (s1, v1))) := h
theorem subN {c : Led} : ∀ p ∈ c, p ∈ [] ++ c := fun _ h => h
theorem subS' {x : Addr × Obj} {a b c : Led} (h : ∀ p ∈ a, p ∈ b ++ c) : ∀ p ∈ a, p ∈ ([x] ++ b) ++ c := fun p hp => .tail _ (h p hp)
theorem in_l {a : Addr × Obj} {l l' : Led} (h : a ∈ l) : a ∈ l ++ l' := List.mem_append.mpr (.inl h)
theorem in_r {a : Addr × Obj} {l l' : Led} (h : a ∈ l') : a ∈ l ++ l' := List.mem_append.mpr (.inr h)
theorem subR {tl a b : Led} (h : ∀ p ∈ tl, p ∈ b) : ∀ p ∈ tl, p ∈ a ++ b := fun p hp => sub_r p (h p hp)

end Mine
namespace Mine
theorem fillNow6 : (PySem.Challenge.rw_on0096_01.row.prog, hd.heap_39) = (PySem.Challenge.rw_on0096_01.row.prog, hd.heap_39) := by k_fill; rfl
theorem sub_eq {tl a b : Led} (e : b = tl ++ a) : ∀ p ∈ a, p ∈ b := fun p hp => by rw [e]; exact sub_r p hp
theorem sub_tr {a b c : Led} (h : ∀ p ∈ a, p ∈ b) (k : ∀ p ∈ b, p ∈ c) : ∀ p ∈ a, p ∈ c := fun p hp => k p (h p hp)

theorem part_w {w : World} {mean : ExcName → Option Value} {mg mb : Str → Option Value}
    {dp un : Nat} {gd : Option (List Code)} {cn : Str} {cs : Scope} {a : Addr} {ccd : Value} {cl : List (Str × Addr)} {outer : List Env}
    {A₀ : Around} {base h₀ : Heap} {L : Addr} {m : Str → Option Value} {s : Shared} {Q E : Value → Shared → Prop}
    {r d c : Addr} {o od oc : Obj} {n : Nat} {rest : Led} {due : List Dat} {most : Int} {tmo : Tok}
    (B : Below A₀ base outer h₀) (F : Fr h₀ L s.heap m) (X : (hd.heap_39 w.params).In h₀) (N : News h₀ L s.heap ((r, o) :: (d, od) :: rest)) (T : TopM mean mg mb h₀)
    (hk : cs.kind = .function) (S : BS w n r d c o od oc rest rest due) (hmo : 0 < most) (hdp : dp < 900)
    (ret : ∀ h' tk' o' k tk, Fr h₀ L h' m → News h₀ L h' ((r, o') :: (d, od) :: rest) → BS w n r d c o' od oc rest rest due → 0 ≤ k → k < most → Q (.int k tk) { s with heap := h', toks := tk' }) :
    wpAny (model PySem.Challenge.rw_on0096_01.row.prog w) (ktrTop dp un gd cn cs L a ccd cl outer) (call (.ref 149) [.ref r, .int most tmo]) Q E s :=
  part_canon (rest := (d, od) :: rest) B F X N T hk (List.forall_mem_cons.mpr ⟨S.dr, S.hr⟩) (.tail _ S.hc) S.row S.cells hmo hdp fun h' tk' o' k tk F' N' R' h0 h1 => ret h' tk' o' k tk F' N' (S.setRow R') h0 h1
theorem value_w {w : World} {mean : ExcName → Option Value} {mg mb : Str → Option Value}
    {dp un : Nat} {gd : Option (List Code)} {cn : Str} {cs : Scope} {a : Addr} {ccd : Value} {cl : List (Str × Addr)} {outer : List Env}
    {A₀ : Around} {base h₀ : Heap} {L : Addr} {m : Str → Option Value} {s : Shared} {Q E : Value → Shared → Prop}
    {r d c : Addr} {o od oc : Obj} {n : Nat} {rest : Led} {due : List Dat}
    (B : Below A₀ base outer h₀) (F : Fr h₀ L s.heap m) (X : (hd.heap_39 w.params).In h₀) (N : News h₀ L s.heap ((r, o) :: (d, od) :: rest)) (T : TopM mean mg mb h₀)
    (hk : cs.kind = .function) (S : BS w n r d c o od oc rest rest due) (hsz : due.length + 1 ≤ 1000000) (hdp : dp < 890)
    (ret : ∀ h' tk' o' od' rest' v sp x, Fr h₀ L h' m → News h₀ L h' ((r, o') :: (d, od') :: rest') → (∀ p ∈ rest, p ∈ rest') → BS w n r d c o' od' oc rest' rest' (due ++ expV sp x) → DatIn rest' v (valD sp x) → Q v { s with heap := h', toks := tk' }) :
    wpAny (model PySem.Challenge.rw_on0096_01.row.prog w) (ktrTop dp un gd cn cs L a ccd cl outer) (call (.ref 170) [.ref r, .ref d]) Q E s :=
  value_spec B F X N T hk S hsz hdp fun h' tk' o' od' tl rest' v sp x F' N' e S' ha D => ret h' tk' o' od' rest' v sp x F' N' (sub_eq e) (BS.re S' e rfl) (D.mono fun p hp => by rw [e]; exact sub_l p hp)
theorem pair_w {w : World} {mean : ExcName → Option Value} {mg mb : Str → Option Value}
    {dp un : Nat} {gd : Option (List Code)} {cn : Str} {cs : Scope} {a : Addr} {ccd : Value} {cl : List (Str × Addr)} {outer : List Env}
    {A₀ : Around} {base h₀ : Heap} {L : Addr} {m : Str → Option Value} {s : Shared} {Q E : Value → Shared → Prop}
    {r d c : Addr} {o od oc : Obj} {n : Nat} {rest : Led} {due : List Dat}
    (B : Below A₀ base outer h₀) (F : Fr h₀ L s.heap m) (X : (hd.heap_39 w.params).In h₀) (N : News h₀ L s.heap ((r, o) :: (d, od) :: rest)) (T : TopM mean mg mb h₀)
    (hk : cs.kind = .function) (S : BS w n r d c o od oc rest rest due) (hsz : due.length + 2 ≤ 1000000) (hdp : dp < 880)
    (ret : ∀ h' tk' o' od' rest' v x, Fr h₀ L h' m → News h₀ L h' ((r, o') :: (d, od') :: rest') → (∀ p ∈ rest, p ∈ rest') → BS w n r d c o' od' oc rest' rest' (due ++ expP x) → DatIn rest' v (pairD x) → Q v { s with heap := h', toks := tk' }) :
    wpAny (model PySem.Challenge.rw_on0096_01.row.prog w) (ktrTop dp un gd cn cs L a ccd cl outer) (call (.ref 182) [.ref r, .ref d]) Q E s :=
  pair_spec B F X N T hk S hsz hdp fun h' tk' o' od' tl rest' v x F' N' e S' ha D => ret h' tk' o' od' rest' v x F' N' (sub_eq e) (BS.re S' e rfl) (D.mono fun p hp => by rw [e]; exact sub_l p hp)

theorem sub_c {a b : Led} {x : Addr × Obj} (h : ∀ p ∈ a, p ∈ b) : ∀ p ∈ a, p ∈ x :: b := fun p hp => .tail _ (h p hp)
theorem fr_5 {h₀ h : Heap} {L r d : Addr} {x1 x2 x3 : Str} {a1 a2 a3 : Option Value} {m : Str → Option Value} (F : Fr h₀ L h (fun y => if y = x1 then a1 else if y = x2 then a2 else if y = x3 then a3 else m y)) (h1 : m (Str.ofString "row") = some (.ref r)) (h2 : m (Str.ofString "due") = some (.ref d)) :
    Fr h₀ L h (fun y => if y = x1 then a1 else if y = x2 then a2 else if y = x3 then a3 else if y = Str.ofString "row" then some (.ref r) else if y = Str.ofString "due" then some (.ref d) else m y) := by
  have e : (fun y => if y = Str.ofString "row" then some (.ref r) else if y = Str.ofString "due" then some (.ref d) else m y) = m := by
    funext y
    split
    · rename_i hy; rw [hy, h1]
    · split
      · rename_i hy; rw [hy, h2]
      · rfl
  have e2 : ∀ y, (if y = Str.ofString "row" then some (.ref r) else if y = Str.ofString "due" then some (.ref d) else m y) = m y := fun y => congrFun e y
  simp only [e2]; exact F

def itemStmt : Stmt := match PySem.Challenge.rw_on0096_01.row.prog.main.body.find? (fun s => match s with | .FunctionDef x _ _ _ _ _ _ _ _ _ => x == Str.ofString "_law_item" | _ => false) with | some s => s | none => .Pass ⟨0, 0, 0, 0⟩
def itemBody : List Stmt := match itemStmt with | .FunctionDef _ _ b _ _ _ _ _ _ _ => b | _ => []
def itemScope : Scope := match itemStmt with | .FunctionDef _ _ _ _ _ _ sc _ _ _ => sc | _ => { kind := .module, names := [], isGenerator := false, isCoroutine := false }

section
local macro_rules | `(tactic| walk_at $s:str) => `(tactic| k_extra $s)
local macro_rules | `(tactic| k_all) => `(tactic| assumption)
local macro_rules | `(tactic| k_mem) => `(tactic| assumption)

theorem it8 {w : World} {mean : ExcName → Option Value} {mg mb : Str → Option Value}
    {dp un : Nat} {gd : Option (List Code)} {a : Addr} {ccd : Value} {outer : List Env}
    {A₀ : Around} {base h₀ : Heap} {L : Addr} {m : Str → Option Value} {s : Shared} {Q : Flow → Shared → Prop} {r d c : Addr} {o od oc : Obj} {n : Nat} {rest : Led} {due : List Dat} {k : Int} {tk : Tok} {vp vd vb va vf : Value} {p b : Option (Int × VN × Int × VN)} {dl f : Option (Int × VN)}
    (B : Below A₀ base outer h₀) (F : Fr h₀ L s.heap (fun y => if y = Str.ofString "first" then some vf else if y = Str.ofString "arrays" then some va else if y = Str.ofString "bounds" then some vb else if y = Str.ofString "delays" then some vd else if y = Str.ofString "pair" then some vp else if y = Str.ofString "kind" then some (.int k tk) else m y))
    (X : (hd.heap_39 w.params).In h₀) (N : News h₀ L s.heap ((r, o) :: (d, od) :: rest)) (T : TopM mean mg mb h₀) (S : BS w n r d c o od oc rest rest due) (hdp : dp < 870) 
    (hk2 : k = 2 ∨ (k = 3 ∧ dl = none)) (Dp : DatIn rest vp (pairD p)) (Dd : DatIn rest vd (delD dl)) (Da : DatIn rest va (arrD b)) (Df : DatIn rest vf (optD f))
    (ret : ∀ h' tk' m' o' od' rest' v it x, Fr h₀ L h' m' → News h₀ L h' ((r, o') :: (d, od') :: rest') → (∀ p ∈ rest, p ∈ rest') → BS w n r d c o' od' oc rest' rest' (due ++ x) → DatIn rest' v (It.dat it) → It.exp it = (expP p ++ expO dl ++ expP b ++ expO f) ++ x → Q (.ret v) { s with heap := h', toks := tk' }) :
    wpAny (model PySem.Challenge.rw_on0096_01.row.prog w) (ktrTop dp un gd (Str.ofString "_law_item") itemScope L a ccd [] outer) (execs (itemBody.drop 8) (envOf (Str.ofString "_law_item") itemScope L a ccd)) Q (fun _ _ => False) s := by
  w_top off
  k_with_none
  k_with "exec Assign" => k_fold
  k_with "exec If" => k_fold
  k_with "compareOp IsNot" => (k_here; k_dflt (refine' pair_isnot ?q1 ?_ ?_; (case q1 => assumption)); all_goals (first | (intro e9; subst e9) | (intro y9 e9; subst e9)); all_goals (try k_fold))
  k_with "newTuple" => (k_here; k_dflt (refine' kup_newTuple ?F ?N ?_ ?z; (case F => k_asm); (case N => k_asm); (case z => kmk_size)); intro D' h' F' N' l1; (try k_lt l1); (try k_sweep))
  conv in (List.drop _ _) => whnf
  conv in (itemScope) => whnf
  conv in (itemScope) => whnf
  k_steps
  · exact ret _ _ _ _ _ _ _ (.net p dl b f) [] (by k_asm) (rot1 (by k_asm)) sub1 (BS.re (BS.more S (by omega) (by omega)) rfl (List.append_nil _)) (.tuple (.head _) (.cons (.str _ _) (.cons (.int _ _) (.cons (.str _ _) (.cons (.bool _) (.cons (Dp.mono sub1) (.cons (Dd.mono sub1) (.cons (.str _ _) (.cons (Da.mono sub1) (.cons .none (.cons (Df.mono sub1) .nil))))))))))) (by simp only [It.exp, List.append_nil])
  · rcases hk2 with hk2 | ⟨-, rfl⟩
    · first | (exfalso; omega) | (subst hk2; contradiction)
    · exact ret _ _ _ _ _ _ _ (.var p b f) [] (by k_asm) (rot1 (by k_asm)) sub1 (BS.re (BS.more S (by omega) (by omega)) rfl (List.append_nil _)) (.tuple (.head _) (.cons (.str _ _) (.cons (.int _ _) (.cons (.str _ _) (.cons (.bool _) (.cons (Dp.mono sub1) (.cons (.str _ _) (.cons (Da.mono sub1) (.cons (Df.mono sub1) .nil))))))))) (by simp only [It.exp, expO, List.append_nil])

theorem it7 {w : World} {mean : ExcName → Option Value} {mg mb : Str → Option Value}
    {dp un : Nat} {gd : Option (List Code)} {a : Addr} {ccd : Value} {outer : List Env}
    {A₀ : Around} {base h₀ : Heap} {L : Addr} {m : Str → Option Value} {s : Shared} {Q : Flow → Shared → Prop} {r d c : Addr} {o od oc : Obj} {n : Nat} {rest : Led} {due : List Dat} {k : Int} {tk : Tok} {vp vd vb va : Value} {p b : Option (Int × VN × Int × VN)} {dl : Option (Int × VN)}
    (B : Below A₀ base outer h₀) (F : Fr h₀ L s.heap (fun y => if y = Str.ofString "arrays" then some va else if y = Str.ofString "bounds" then some vb else if y = Str.ofString "delays" then some vd else if y = Str.ofString "pair" then some vp else if y = Str.ofString "kind" then some (.int k tk) else if y = Str.ofString "row" then some (.ref r) else if y = Str.ofString "due" then some (.ref d) else m y))
    (X : (hd.heap_39 w.params).In h₀) (N : News h₀ L s.heap ((r, o) :: (d, od) :: rest)) (T : TopM mean mg mb h₀) (S : BS w n r d c o od oc rest rest due) (hdp : dp < 870) (hsz : due.length + 1 ≤ 1000000)
    (hk2 : k = 2 ∨ (k = 3 ∧ dl = none)) (Dp : DatIn rest vp (pairD p)) (Dd : DatIn rest vd (delD dl)) (Da : DatIn rest va (arrD b))
    (ret : ∀ h' tk' m' o' od' rest' v it x, Fr h₀ L h' m' → News h₀ L h' ((r, o') :: (d, od') :: rest') → (∀ p ∈ rest, p ∈ rest') → BS w n r d c o' od' oc rest' rest' (due ++ x) → DatIn rest' v (It.dat it) → It.exp it = (expP p ++ expO dl ++ expP b) ++ x → Q (.ret v) { s with heap := h', toks := tk' }) :
    wpAny (model PySem.Challenge.rw_on0096_01.row.prog w) (ktrTop dp un gd (Str.ofString "_law_item") itemScope L a ccd [] outer) (execs (itemBody.drop 7) (envOf (Str.ofString "_law_item") itemScope L a ccd)) Q (fun _ _ => False) s := by
  w_top off
  k_with_none
  k_with "exec Assign" => k_fold
  k_with "exec If" => k_fold
  k_with "compareOp IsNot" => (k_here; k_dflt (refine' pair_isnot ?q1 ?_ ?_; (case q1 => assumption)); all_goals (first | (intro e9; subst e9) | (intro y9 e9; subst e9)); all_goals (try k_fold))
  k_with "call ref" => (k_here; (with_reducible show wpAny _ _ (call (Value.ref 149) _) _ _ _); k_dflt (refine' part_w ?k1 ?k2 ?k3 ?k4 ?k5 ?k6 ?k7 ?km ?k9 ?_; (case k7 => assumption); (case k4 => k_asm); (case k1 => k_asm); (case k2 => k_asm); (case k3 => k_asm); (case k5 => k_asm); (case k6 => first | exact rfl | assumption); (case km => decide); (case k9 => ((try dsimp only [ktrTop, Around.deeper]); omega))); k_whole; intro h' tk' o' k' t' F' N' S' hk0' hk1'; (try k_fold))
  k_with "call ref" => (k_here; (with_reducible show wpAny _ _ (call (Value.ref 170) _) _ _ _); k_dflt (refine' value_w ?k1 ?k2 ?k3 ?k4 ?k5 ?k6 ?k7 ?k8 ?k9 ?_; (case k7 => assumption); (case k4 => k_asm); (case k1 => k_asm); (case k2 => k_asm); (case k3 => k_asm); (case k5 => k_asm); (case k6 => first | exact rfl | assumption); (case k8 => ((try simp only [List.length_append]); omega)); (case k9 => ((try dsimp only [ktrTop, Around.deeper]); omega))); k_whole; intro h' tk' o' od' rest' v' sp' x' F' N' hs' S' D'; (have hl' := expV_len sp' x'); (try k_fold))
  k_with "execs cons" => (k_here; (with_reducible show wpAny _ _ (execs (Stmt.If _ _ _ _ :: Stmt.Return _ _ :: []) _) _ _ _); k_dflt (refine' wpAny_mono (it8 ?qB ?qF ?qX ?qN ?qT ?qS ?qd ?q2 ?d1 ?d2 ?d3 ?d4 ?_) (fun _ _ x => x) (fun _ _ x => x.elim); (case qF => k_asm); (case qN => k_asm); (case qB => k_asm); (case qX => k_asm); (case qT => k_asm); (case qS => assumption); (case qd => assumption); (case q2 => assumption); (case d1 => walk_at "dat"); (case d2 => walk_at "dat"); (case d3 => walk_at "dat"); (case d4 => walk_at "opt")); intro h' tk' m' o' od' rest' v' it' x' F' N' hs' S' D' e')
  k_with "dat" => first | assumption | exact dat_up (by assumption) (by assumption)
  k_with "subs" => first | assumption | exact sub_tr (by assumption) (by assumption)
  k_with "exps" => ((rename It.exp _ = _ => e9); rw [e9]; simp only [expO, expP, List.append_assoc, List.append_nil, List.nil_append])
  k_with "opt" => first | exact opt_none | exact opt_some (by assumption)
  conv in (List.drop _ _) => whnf
  conv in (itemScope) => whnf
  conv in (itemScope) => whnf
  k_steps
  all_goals exact ret _ _ _ _ _ _ _ _ _ (by k_asm) (by k_asm) (by walk_at "subs") (BS.re (by assumption) rfl (by first | rfl | exact (List.append_assoc _ _ _).symm)) (by assumption) (by walk_at "exps")

theorem it5 {w : World} {mean : ExcName → Option Value} {mg mb : Str → Option Value}
    {dp un : Nat} {gd : Option (List Code)} {a : Addr} {ccd : Value} {outer : List Env}
    {A₀ : Around} {base h₀ : Heap} {L : Addr} {m : Str → Option Value} {s : Shared} {Q : Flow → Shared → Prop} {r d c : Addr} {o od oc : Obj} {n : Nat} {rest : Led} {due : List Dat} {k : Int} {tk : Tok} {vp vd : Value} {p : Option (Int × VN × Int × VN)} {dl : Option (Int × VN)}
    (B : Below A₀ base outer h₀) (F : Fr h₀ L s.heap (fun y => if y = Str.ofString "delays" then some vd else if y = Str.ofString "pair" then some vp else if y = Str.ofString "kind" then some (.int k tk) else if y = Str.ofString "row" then some (.ref r) else if y = Str.ofString "due" then some (.ref d) else m y))
    (X : (hd.heap_39 w.params).In h₀) (N : News h₀ L s.heap ((r, o) :: (d, od) :: rest)) (T : TopM mean mg mb h₀) (S : BS w n r d c o od oc rest rest due) (hdp : dp < 870) (hsz : due.length + 3 ≤ 1000000)
    (hk2 : k = 2 ∨ (k = 3 ∧ dl = none)) (Dp : DatIn rest vp (pairD p)) (Dd : DatIn rest vd (delD dl))
    (ret : ∀ h' tk' m' o' od' rest' v it x, Fr h₀ L h' m' → News h₀ L h' ((r, o') :: (d, od') :: rest') → (∀ p ∈ rest, p ∈ rest') → BS w n r d c o' od' oc rest' rest' (due ++ x) → DatIn rest' v (It.dat it) → It.exp it = (expP p ++ expO dl) ++ x → Q (.ret v) { s with heap := h', toks := tk' }) :
    wpAny (model PySem.Challenge.rw_on0096_01.row.prog w) (ktrTop dp un gd (Str.ofString "_law_item") itemScope L a ccd [] outer) (execs (itemBody.drop 5) (envOf (Str.ofString "_law_item") itemScope L a ccd)) Q (fun _ _ => False) s := by
  w_top off
  k_with_none
  k_with "exec Assign" => k_fold
  k_with "exec If" => k_fold
  k_with "compareOp IsNot" => (k_here; k_dflt (refine' pair_isnot ?q1 ?_ ?_; (case q1 => assumption)); all_goals (first | (intro e9; subst e9) | (intro y9 e9; subst e9)); all_goals (try k_fold))
  k_with "call ref" => (k_here; (with_reducible show wpAny _ _ (call (Value.ref 182) _) _ _ _); k_dflt (refine' pair_w ?k1 ?k2 ?k3 ?k4 ?k5 ?k6 ?k7 ?k8 ?k9 ?_; (case k7 => assumption); (case k4 => k_asm); (case k1 => k_asm); (case k2 => k_asm); (case k3 => k_asm); (case k5 => k_asm); (case k6 => first | exact rfl | assumption); (case k8 => ((try simp only [List.length_append]); omega)); (case k9 => ((try dsimp only [ktrTop, Around.deeper]); omega))); k_whole; intro h' tk' o' od' rest' v' x' F' N' hs' S' D'; (have hl' := expP_len x'); (try k_fold))
  k_with "newTuple" => (k_here; k_dflt (refine' kup_newTuple ?F ?N ?_ ?z; (case F => k_asm); (case N => k_asm); (case z => kmk_size)); intro D' h' F' N' l1; (try k_lt l1); (try k_sweep))
  k_with "dat" => first | assumption | exact dat_up (by assumption) sub1 | exact dat_up (by assumption) (by assumption) | exact dat_up (by assumption) (sub_c (by assumption)) | exact dat_up (by assumption) (sub_c (sub_tr (by assumption) (by assumption)))
  k_with "bs" => first | exact BS.more (by assumption) (by omega) (by omega) | assumption
  k_with "subs" => first | assumption | exact sub_tr (sub_c (by assumption)) (by assumption) | exact sub_tr (by assumption) (by assumption) | exact sub_tr (sub_c (sub_tr (by assumption) (by assumption))) (by assumption)
  k_with "due" => first | rfl | exact (List.append_assoc _ _ _).symm
  k_with "exps" => ((rename It.exp _ = _ => e9); rw [e9]; simp only [expO, expP, List.append_assoc, List.append_nil, List.nil_append])
  k_with "news" => first | exact rot1 (by k_asm) | k_asm
  k_with "execs cons" => (k_here; (with_reducible show wpAny _ _ (execs (Stmt.Assign [PySem.Expr.Name (Str.ofString "first") _] _ _ :: _) _) _ _ _); k_dflt (refine' wpAny_mono (it7 ?qB ?qF ?qX ?qN ?qT ?qS ?qd ?qz ?q2 ?d1 ?d2 ?d3 ?_) (fun _ _ x => x) (fun _ _ x => x.elim); (case qF => k_asm); (case qN => walk_at "news"); (case qB => k_asm); (case qX => k_asm); (case qT => k_asm); (case qS => walk_at "bs"); (case qd => assumption); (case qz => ((try simp only [List.length_append]); omega)); (case q2 => assumption); (case d1 => walk_at "dat"); (case d2 => walk_at "dat"); (case d3 => walk_at "arr")); intro h' tk' m' o' od' rest' v' it' x' F' N' hs' S' D' e')
  k_with "arr" => first | (refine' arr_none ?ap; case ap => (refine' DatIn.tuple ?am ?an; (case am => exact .head _); (case an => exact .nil))) | (refine' @arr_some _ _ ?ax ?ay; case ay => (refine' DatIn.tuple ?am ?an; (case am => exact .head _); (case an => exact .cons (dat_up (by assumption) sub1) .nil)))
  conv in (List.drop _ _) => whnf
  conv in (itemScope) => whnf
  conv in (itemScope) => whnf
  k_steps
  all_goals exact ret _ _ _ _ _ _ _ _ _ (by k_asm) (by k_asm) (by walk_at "subs") (BS.re (by assumption) rfl (by walk_at "due")) (by assumption) (by walk_at "exps")

theorem item_spec {w : World} {mean : ExcName → Option Value} {mg mb : Str → Option Value}
    {dp un : Nat} {gd : Option (List Code)} {cn : Str} {cs : Scope} {a : Addr} {ccd : Value} {cl : List (Str × Addr)} {outer : List Env}
    {A₀ : Around} {base h₀ : Heap} {L : Addr} {m : Str → Option Value} {s : Shared} {Q E : Value → Shared → Prop}
    {r d c : Addr} {o od oc : Obj} {n : Nat} {rest : Led} {due : List Dat}
    (B : Below A₀ base outer h₀) (F : Fr h₀ L s.heap m) (X : (hd.heap_39 w.params).In h₀) (N : News h₀ L s.heap ((r, o) :: (d, od) :: rest)) (T : TopM mean mg mb h₀)
    (hk : cs.kind = .function) (S : BS w n r d c o od oc rest rest due) (hsz : due.length + 20 ≤ 1000000) (hdp : dp < 860)
    (ret : ∀ h' tk' o' od' rest' v it, Fr h₀ L h' m → News h₀ L h' ((r, o') :: (d, od') :: rest') → (∀ p ∈ rest, p ∈ rest') → BS w n r d c o' od' oc rest' rest' (due ++ It.exp it) → DatIn rest' v (It.dat it) → Q v { s with heap := h', toks := tk' }) :
    wpAny (model PySem.Challenge.rw_on0096_01.row.prog w) (ktrTop dp un gd cn cs L a ccd cl outer) (call (.ref 189) [.ref r, .ref d]) Q E s := by
  w_top off
  k_with_none
  k_with "exec Assign" => k_fold
  k_with "exec If" => k_fold
  k_with "call ref" => (k_here; (with_reducible show wpAny _ _ (call (Value.ref 149) _) _ _ _); k_dflt (refine' part_w ?k1 ?k2 ?k3 ?k4 ?k5 ?k6 ?k7 ?km ?k9 ?_; (case k7 => assumption); (case k4 => k_asm); (case k1 => k_asm); (case k2 => k_asm); (case k3 => k_asm); (case k5 => k_asm); (case k6 => first | exact rfl | assumption); (case km => decide); (case k9 => ((try dsimp only [ktrTop, Around.deeper]); omega))); k_whole; intro h' tk' o' k' t' F' N' S' hk0' hk1'; (try k_fold))
  k_with "call ref" => (k_here; (with_reducible show wpAny _ _ (call (Value.ref 170) _) _ _ _); k_dflt (refine' value_w ?k1 ?k2 ?k3 ?k4 ?k5 ?k6 ?k7 ?k8 ?k9 ?_; (case k7 => assumption); (case k4 => k_asm); (case k1 => k_asm); (case k2 => k_asm); (case k3 => k_asm); (case k5 => k_asm); (case k6 => first | exact rfl | assumption); (case k8 => ((try simp only [List.length_append]); omega)); (case k9 => ((try dsimp only [ktrTop, Around.deeper]); omega))); k_whole; intro h' tk' o' od' rest' v' sp' x' F' N' hs' S' D'; (have hl' := expV_len sp' x'); (try k_fold))
  k_with "call ref" => (k_here; (with_reducible show wpAny _ _ (call (Value.ref 182) _) _ _ _); k_dflt (refine' pair_w ?k1 ?k2 ?k3 ?k4 ?k5 ?k6 ?k7 ?k8 ?k9 ?_; (case k7 => assumption); (case k4 => k_asm); (case k1 => k_asm); (case k2 => k_asm); (case k3 => k_asm); (case k5 => k_asm); (case k6 => first | exact rfl | assumption); (case k8 => ((try simp only [List.length_append]); omega)); (case k9 => ((try dsimp only [ktrTop, Around.deeper]); omega))); k_whole; intro h' tk' o' od' rest' v' x' F' N' hs' S' D'; (have hl' := expP_len x'); (try k_fold))
  k_with "newTuple" => (k_here; k_dflt (refine' kup_newTuple ?F ?N ?_ ?z; (case F => k_asm); (case N => k_asm); (case z => kmk_size)); intro D' h' F' N' l1; (try k_lt l1); (try k_sweep))
  k_with "dat" => first | assumption | exact dat_up (by assumption) sub1 | exact dat_up (by assumption) (by assumption) | exact dat_up (by assumption) (sub_c (by assumption)) | exact dat_up (by assumption) (sub_c (sub_tr (by assumption) (by assumption)))
  k_with "bs" => first | exact BS.more (by assumption) (by omega) (by omega) | assumption
  k_with "subs" => first | assumption | exact sub_tr (sub_c (by assumption)) (by assumption) | exact sub_tr (by assumption) (by assumption) | exact sub_tr (sub_c (sub_tr (by assumption) (by assumption))) (by assumption)
  k_with "due" => first | rfl | exact (List.append_assoc _ _ _).symm
  k_with "exps" => ((rename It.exp _ = _ => e9); rw [e9]; simp only [expO, expP, List.append_assoc, List.append_nil, List.nil_append])
  k_with "news" => first | exact rot1 (by k_asm) | k_asm
  k_with "execs cons" => (k_here; (with_reducible show wpAny _ _ (execs (Stmt.Assign [PySem.Expr.Name (Str.ofString "bounds") _] _ _ :: _) _) _ _ _); k_dflt (refine' wpAny_mono (it5 ?qB (fr_5 ?qF ?qa ?qb) ?qX ?qN ?qT ?qS ?qd ?qz ?q2 ?d1 ?d2 ?_) (fun _ _ x => x) (fun _ _ x => x.elim); (case qF => k_asm); (case qN => walk_at "news"); (case qa => rfl); (case qb => rfl); (case qB => k_asm); (case qX => k_asm); (case qT => k_asm); (case qS => walk_at "bs"); (case qd => ((try dsimp only [ktrTop, Around.deeper]); omega)); (case qz => ((try simp only [List.length_append]); omega)); (case d2 => walk_at "del"); (case q2 => first | exact .inl (by assumption) | exact .inr ⟨by omega, rfl⟩ | exact .inl (by omega)); (case d1 => walk_at "dat")); intro h' tk' m' o' od' rest' v' it' x' F' N' hs' S' D' e')
  k_with "del" => first | exact del_none | (refine' @del_some _ _ ?as ?aw ?ay; case ay => (refine' DatIn.tuple ?am ?an; (case am => exact .head _); (case an => exact .cons (dat_up (by assumption) sub1) .nil)))
  refine wpAny_call ?_
  k_dflt ktr_enter
  k_steps
  · refine' ret _ _ _ _ _ _ (.param _ _ _) ?F ?N ?U ?S ?D
    case F => k_asm
    case N => exact rot1 (by k_asm)
    case D => exact .tuple (.head _) (.cons (.str _ _) (.cons (.int _ _) (.cons (.str _ _) (.cons (.bool _) (.cons (by walk_at "dat") (.cons (.str _ _) (.cons (by walk_at "dat") .nil)))))))
    case U => exact sub_c (sub_tr (by assumption) (by assumption))
    case S => exact BS.re (BS.more (by assumption) (by omega) (by omega)) rfl (by simp only [It.exp, List.append_assoc])
  · refine' ret _ _ _ _ _ _ (.port _) ?F ?N ?U ?S ?D
    case F => k_asm
    case N => exact rot1 (by k_asm)
    case D => exact .tuple (.head _) (.cons (.str _ _) (.cons (.int _ _) (.cons (.str _ _) (.cons (.bool _) (.cons (by walk_at "dat") (.cons (.str _ _) .nil))))))
    case U => exact sub_c (by assumption)
    case S => exact BS.re (BS.more (by assumption) (by omega) (by omega)) rfl (by simp only [It.exp])
  · exact ret _ _ _ _ _ _ it' (by k_asm) (by k_asm) (sub_tr (sub_c (sub_tr (by assumption) (by assumption))) hs') (BS.re S' rfl (by rw [e']; simp only [expO, List.append_assoc])) D'
  · exact ret _ _ _ _ _ _ it' (by k_asm) (by k_asm) (sub_tr (by assumption) hs') (BS.re S' rfl (by rw [e']; simp only [expO, List.append_assoc, List.nil_append])) D'
  · exact ret _ _ _ _ _ _ it' (by k_asm) (by k_asm) (sub_tr (by assumption) hs') (BS.re S' rfl (by rw [e']; simp only [expO, List.append_assoc, List.nil_append])) D'
end
end Mine
namespace Mine
theorem fillNow7 : (PySem.Challenge.rw_on0096_01.row.prog, hd.heap_39) = (PySem.Challenge.rw_on0096_01.row.prog, hd.heap_39) := by k_fill; rfl

/-- an entry of the two tables -/
abbrev entD (j : Nat) : Dat := .tuple [.str (kindOf j), .int j, moreOf j]
/-- the two tables, one within the other; ti: the inner one -/
inductive TabS (w : World) (T : Led) (ti : Addr) : Prop
  | mk (dti to dto bi bo : Addr) (obi obo : Obj) (t1 t2 t3 t4 : Tok) (a0 a1 a2 a3 a4 a5 a6 a7 a8 a9 : Addr)
    (m1 : (ti, instObj 59 dti) ∈ T) (m2 : (dti, W.dictOf [ent w (Str.ofString "parent") t1 (.ref to), ent w (Str.ofString "entries") t2 (.ref bi)] 2) ∈ T)
    (m3 : (to, instObj 59 dto) ∈ T) (m4 : (dto, W.dictOf [ent w (Str.ofString "parent") t3 .none, ent w (Str.ofString "entries") t4 (.ref bo)] 2) ∈ T)
    (m5 : (bi, obi) ∈ T) (m6 : (bo, obo) ∈ T) (l1 : (bi == sysModules) = false) (l2 : (bo == sysModules) = false)
    (D1 : Obj.IsDictOf (PySem.strKind PySem.Challenge.rw_on0096_01.row.prog w) obi [(Str.ofString "b", .ref a1), (Str.ofString "f", .ref a3), (Str.ofString "r", .ref a5), (Str.ofString "w", .ref a7), (Str.ofString "wo", .ref a9)])
    (D2 : Obj.IsDictOf (PySem.strKind PySem.Challenge.rw_on0096_01.row.prog w) obo [(Str.ofString "P", .ref a0), (Str.ofString "e", .ref a2), (Str.ofString "g", .ref a4), (Str.ofString "t", .ref a6), (Str.ofString "wi", .ref a8)])
    (e0 : DatIn T (.ref a0) (entD 0)) (e1 : DatIn T (.ref a1) (entD 1)) (e2 : DatIn T (.ref a2) (entD 2)) (e3 : DatIn T (.ref a3) (entD 3)) (e4 : DatIn T (.ref a4) (entD 4))
    (e5 : DatIn T (.ref a5) (entD 5)) (e6 : DatIn T (.ref a6) (entD 6)) (e7 : DatIn T (.ref a7) (entD 7)) (e8 : DatIn T (.ref a8) (entD 8)) (e9 : DatIn T (.ref a9) (entD 9)) : TabS w T ti

/-- the names of the inner table, of the outer one -/
def inI : Nat → Bool
  | 1 => true | 3 => true | 5 => true | 7 => true | 9 => true | _ => false
def inO : Nat → Bool
  | 0 => true | 2 => true | 4 => true | 6 => true | 8 => true | _ => false
theorem in_all : ∀ i : _root_.Fin 11, (inI i = true → i.val = 1 ∨ i.val = 3 ∨ i.val = 5 ∨ i.val = 7 ∨ i.val = 9) ∧ (inO i = true → i.val = 0 ∨ i.val = 2 ∨ i.val = 4 ∨ i.val = 6 ∨ i.val = 8) ∧ (inI i = false → inO i = false → i.val = 10) := by decide +kernel

section
variable {w : World} {A : Around} {E : Value → Shared → Prop} {s : Shared} {h₀ : Heap} {L bi : Addr} {obi : Obj} {news : Led} {j : Nat} {t0 : Tok} {Q : Value → Shared → Prop} {a1 a3 a5 a7 a9 : Addr}
theorem in_inner (N : News h₀ L s.heap news) (hm : (bi, obi) ∈ news) (lo : (bi == sysModules) = false) (D : Obj.IsDictOf (PySem.strKind PySem.Challenge.rw_on0096_01.row.prog w) obi [(Str.ofString "b", .ref a1), (Str.ofString "f", .ref a3), (Str.ofString "r", .ref a5), (Str.ofString "w", .ref a7), (Str.ofString "wo", .ref a9)]) (hj : j ≤ 10)
    (h1 : inI j = true → Q (.bool true) { s with toks := s.toks + 1 }) (h2 : inI j = false → Q (.bool false) { s with toks := s.toks + 1 }) : wpAny (model PySem.Challenge.rw_on0096_01.row.prog w) A (compareOp .In (.str (nameOf j) t0) (.ref bi)) Q E s := by
  rcases eleven hj with rfl | rfl | rfl | rfl | rfl | rfl | rfl | rfl | rfl | rfl | rfl <;> first
    | exact kda_in (knd := PySem.strKind _ _) N hm D lo (strKind_is _ _ _ _) true (by rfl) (h1 rfl)
    | exact kda_in (knd := PySem.strKind _ _) N hm D lo (strKind_is _ _ _ _) false (by rfl) (h2 rfl)
theorem in_outer (N : News h₀ L s.heap news) (hm : (bi, obi) ∈ news) (lo : (bi == sysModules) = false) (D : Obj.IsDictOf (PySem.strKind PySem.Challenge.rw_on0096_01.row.prog w) obi [(Str.ofString "P", .ref a1), (Str.ofString "e", .ref a3), (Str.ofString "g", .ref a5), (Str.ofString "t", .ref a7), (Str.ofString "wi", .ref a9)]) (hj : j ≤ 10)
    (h1 : inO j = true → Q (.bool true) { s with toks := s.toks + 1 }) (h2 : inO j = false → Q (.bool false) { s with toks := s.toks + 1 }) : wpAny (model PySem.Challenge.rw_on0096_01.row.prog w) A (compareOp .In (.str (nameOf j) t0) (.ref bi)) Q E s := by
  rcases eleven hj with rfl | rfl | rfl | rfl | rfl | rfl | rfl | rfl | rfl | rfl | rfl <;> first
    | exact kda_in (knd := PySem.strKind _ _) N hm D lo (strKind_is _ _ _ _) true (by rfl) (h1 rfl)
    | exact kda_in (knd := PySem.strKind _ _) N hm D lo (strKind_is _ _ _ _) false (by rfl) (h2 rfl)
theorem get_inner {value slice : PySem.Expr} (N : News h₀ L s.heap news) (hm : (bi, obi) ∈ news) (D : Obj.IsDictOf (PySem.strKind PySem.Challenge.rw_on0096_01.row.prog w) obi [(Str.ofString "b", .ref a1), (Str.ofString "f", .ref a3), (Str.ofString "r", .ref a5), (Str.ofString "w", .ref a7), (Str.ofString "wo", .ref a9)]) (hj : j ≤ 10) (hI : inI j = true)
    (e1 : DatIn news (.ref a1) (entD 1)) (e3 : DatIn news (.ref a3) (entD 3)) (e5 : DatIn news (.ref a5) (entD 5)) (e7 : DatIn news (.ref a7) (entD 7)) (e9 : DatIn news (.ref a9) (entD 9))
    (hs : subscripted slice false (.ref bi) (.str (nameOf j) t0) = operate [.ref bi, .str (nameOf j) t0] (getItem (.ref bi) (.str (nameOf j) t0))) (hg : ∀ r, letTemporaryGo value (.ref bi) r = pure ())
    (h : ∀ b, j ≤ 9 → DatIn news (.ref b) (entD j) → Q (.ref b) { s with toks := s.toks + 1 }) : wpAny (model PySem.Challenge.rw_on0096_01.row.prog w) A (subscriptTail value slice (.ref bi) (.str (nameOf j) t0)) Q E s := by
  rcases (in_all ⟨j, by omega⟩).1 hI with e | e | e | e | e <;> (have e : j = _ := e) <;> subst e <;> exact kda_item (knd := PySem.strKind _ _) N hm D (strKind_is _ _ _ _) (by rfl) (h _ (by decide) (by assumption)) hs hg
theorem get_outer {value slice : PySem.Expr} (N : News h₀ L s.heap news) (hm : (bi, obi) ∈ news) (D : Obj.IsDictOf (PySem.strKind PySem.Challenge.rw_on0096_01.row.prog w) obi [(Str.ofString "P", .ref a1), (Str.ofString "e", .ref a3), (Str.ofString "g", .ref a5), (Str.ofString "t", .ref a7), (Str.ofString "wi", .ref a9)]) (hj : j ≤ 10) (hI : inO j = true)
    (e1 : DatIn news (.ref a1) (entD 0)) (e3 : DatIn news (.ref a3) (entD 2)) (e5 : DatIn news (.ref a5) (entD 4)) (e7 : DatIn news (.ref a7) (entD 6)) (e9 : DatIn news (.ref a9) (entD 8))
    (hs : subscripted slice false (.ref bi) (.str (nameOf j) t0) = operate [.ref bi, .str (nameOf j) t0] (getItem (.ref bi) (.str (nameOf j) t0))) (hg : ∀ r, letTemporaryGo value (.ref bi) r = pure ())
    (h : ∀ b, j ≤ 9 → DatIn news (.ref b) (entD j) → Q (.ref b) { s with toks := s.toks + 1 }) : wpAny (model PySem.Challenge.rw_on0096_01.row.prog w) A (subscriptTail value slice (.ref bi) (.str (nameOf j) t0)) Q E s := by
  rcases (in_all ⟨j, by omega⟩).2.1 hI with e | e | e | e | e <;> (have e : j = _ := e) <;> subst e <;> exact kda_item (knd := PySem.strKind _ _) N hm D (strKind_is _ _ _ _) (by rfl) (h _ (by decide) (by assumption)) hs hg
end

section
local macro_rules | `(tactic| walk_at $s:str) => `(tactic| k_extra $s)
local macro_rules | `(tactic| k_all) => `(tactic| assumption)
local macro_rules | `(tactic| k_mem) => `(tactic| assumption)
theorem find_spec {w : World} {mean : ExcName → Option Value} {mg mb : Str → Option Value}
    {dp un : Nat} {gd : Option (List Code)} {cn : Str} {cs : Scope} {a : Addr} {ccd : Value} {cl : List (Str × Addr)} {outer : List Env}
    {A₀ : Around} {base h₀ : Heap} {L : Addr} {m : Str → Option Value} {s : Shared} {Q E : Value → Shared → Prop}
    {ti : Addr} {news : Led} {j : Nat} {t0 : Tok}
    (B : Below A₀ base outer h₀) (F : Fr h₀ L s.heap m) (X : (hd.heap_39 w.params).In h₀) (N : News h₀ L s.heap news) (T : TopM mean mg mb h₀)
    (hk : cs.kind = .function) (G : TabS w news ti) (hj : j ≤ 10) (hdp : dp < 880)
    (ret0 : j = 10 → ∀ h' tk', Fr h₀ L h' m → News h₀ L h' news → Q .none { s with heap := h', toks := tk' })
    (ret : ∀ b h' tk', j ≤ 9 → DatIn news (.ref b) (entD j) → Fr h₀ L h' m → News h₀ L h' news → Q (.ref b) { s with heap := h', toks := tk' }) :
    wpAny (model PySem.Challenge.rw_on0096_01.row.prog w) (ktrTop dp un gd cn cs L a ccd cl outer) (call (.ref 70) [.ref ti, .str (nameOf j) t0]) Q E s := by
  w_top off
  k_with_none
  k_with "exec Assign" => k_fold
  k_with "exec If" => k_fold
  k_with "exec Expr" => k_fold
  k_with "exec Return some" => k_fold
  k_with "exec While" => (k_here; k_dflt (refine whl_start 100 ?_))
  k_with "exec While Compare" => (k_here; k_dflt (refine whl_start 100 ?_))
  k_with "exec While Compare cons nil" => (k_here; k_dflt (refine whl_start 100 ?_))
  k_with "compareOp In str ref" => (k_here; k_dflt (first
    | (refine in_inner (by k_asm) (by assumption) (by assumption) (by assumption) (by assumption) ?_ ?_)
    | (refine in_outer (by k_asm) (by assumption) (by assumption) (by assumption) (by assumption) ?_ ?_)); all_goals (intro hb'; (try k_fold)))
  k_with "subscriptTail" => (k_here; (with_reducible show wpAny _ _ (subscriptTail _ _ (Value.ref _) (Value.str _ _)) _ _ _); k_dflt (first
    | (refine get_inner (by k_asm) (by assumption) (by assumption) (by assumption) (by assumption) (by assumption) (by assumption) (by assumption) (by assumption) (by assumption) (by with_unfolding_all rfl) (by intro _; with_unfolding_all rfl) ?_)
    | (refine get_outer (by k_asm) (by assumption) (by assumption) (by assumption) (by assumption) (by assumption) (by assumption) (by assumption) (by assumption) (by assumption) (by with_unfolding_all rfl) (by intro _; with_unfolding_all rfl) ?_)); intro b' h9' hD'; (try k_fold))
  obtain ⟨dti, to, dto, bi, bo, obi, obo, t1, t2, t3, t4, a0, a1, a2, a3, a4, a5, a6, a7, a8, a9, m1, m2, m3, m4, m5, m6, l1, l2, D1, D2, e0, e1, e2, e3, e4, e5, e6, e7, e8, e9⟩ := G
  refine wpAny_call ?_
  k_dflt ktr_enter
  k_steps
  · exact ret _ _ _ (by assumption) (by assumption) (by k_asm) (by k_asm)
  · exact ret _ _ _ (by assumption) (by assumption) (by k_asm) (by k_asm)
  · exact ret0 ((in_all ⟨j, by omega⟩).2.2 (by assumption) (by assumption)) _ _ (by k_asm) (by k_asm)
end
end Mine
namespace Mine
theorem fillNow7b : (PySem.Challenge.rw_on0096_01.row.prog, hd.heap_39) = (PySem.Challenge.rw_on0096_01.row.prog, hd.heap_39) := by k_fill; rfl

/-- the report: its dict; rw: its rows -/
def RepS (w : World) (T : Led) (q rw : Addr) : Prop :=
  ∃ (dq dn : Addr) (t1 t2 t3 t4 : Tok), (q, instObj 38 dq) ∈ T ∧
    (dq, W.dictOf [ent w (Str.ofString "names") t1 (.ref dn), ent w (Str.ofString "nettype") t2 (.str (Str.ofString "wire") t4), ent w (Str.ofString "rows") t3 (.ref rw)] 3) ∈ T
theorem RepS.mono {w : World} {T T' : Led} {q rw : Addr} (h : RepS w T q rw) (hs : ∀ p ∈ T, p ∈ T') : RepS w T' q rw :=
  let ⟨dq, dn, t1, t2, t3, t4, a, b⟩ := h; ⟨dq, dn, t1, t2, t3, t4, hs _ a, hs _ b⟩
theorem TabS.mono {w : World} {T T' : Led} {ti : Addr} (h : TabS w T ti) (hs : ∀ p ∈ T, p ∈ T') : TabS w T' ti := by
  cases h with
  | mk dti to dto bi bo obi obo t1 t2 t3 t4 a0 a1 a2 a3 a4 a5 a6 a7 a8 a9 m1 m2 m3 m4 m5 m6 l1 l2 D1 D2 e0 e1 e2 e3 e4 e5 e6 e7 e8 e9 =>
    exact .mk dti to dto bi bo obi obo t1 t2 t3 t4 a0 a1 a2 a3 a4 a5 a6 a7 a8 a9 (hs _ m1) (hs _ m2) (hs _ m3) (hs _ m4) (hs _ m5) (hs _ m6) l1 l2 D1 D2 (e0.mono hs) (e1.mono hs) (e2.mono hs) (e3.mono hs) (e4.mono hs) (e5.mono hs) (e6.mono hs) (e7.mono hs) (e8.mono hs) (e9.mono hs)

/-- the checkers' state: the report's rows stand ahead of all else; T: where the rows' data lie -/
structure CS (w : World) (q ti rw : Addr) (orw : Obj) (T rest : Led) (rows : List Dat) : Prop where
  rep : RepS w rest q rw
  tab : TabS w rest ti
  hrw : ∀ p ∈ rest, p.1 ≠ rw
  sub : ∀ p ∈ T, p ∈ rest
  rows : ListIs T orw rows
theorem CS.skip {w : World} {q ti rw : Addr} {orw : Obj} {T rest : Led} {rows : List Dat} {I : Addr} {it : Obj} (S : CS w q ti rw orw T rest rows) (h : @Ne Nat I rw) : CS w q ti rw orw T ((I, it) :: rest) rows :=
  ⟨S.rep.mono sub1, S.tab.mono sub1, List.forall_mem_cons.mpr ⟨h, S.hrw⟩, fun p hp => .tail _ (S.sub p hp), S.rows⟩
theorem CS.re {w : World} {q ti rw : Addr} {orw : Obj} {T T1 rest : Led} {rows rows' : List Dat} (S : CS w q ti rw orw T rest rows) (e : T1 = T) (h : rows' = rows) : CS w q ti rw orw T1 rest rows' := by rw [e, h]; exact S

theorem Grow.sub {TL rest rest2 : Led} (g : Grow TL rest rest2) : ∀ p ∈ rest, p ∈ rest2 := fun p hp => by rw [g.e]; exact sub_r p hp

def VN.no : VN → Nat
  | .zz => 10
  | .p => 0
  | .w => 7
theorem VN.name (x : VN) : x.str = nameOf x.no := by cases x <;> rfl
theorem VN.no_le (x : VN) : x.no ≤ 10 := by cases x <;> decide
theorem exp_zz {sp : Int} {x : VN} (h : x.no = 10) : expV sp x = [rowD (Str.ofString "undeclared") sp (nameOf x.no)] := by cases x <;> first | rfl | cases h
theorem exp_known {sp : Int} {x : VN} (h : x.no ≤ 9) : expV sp x = [] := by cases x <;> first | rfl | exact absurd h (by decide)

theorem rot11 {h₀ h : Heap} {L : Addr} {p a : Addr × Obj} {l : Led} (N : News h₀ L h (p :: a :: l)) : News h₀ L h (a :: p :: l) :=
  news_sub N fun x hx => by simp only [List.mem_cons] at hx ⊢; rcases hx with hx | hx | hx <;> simp [hx]

section
local macro_rules | `(tactic| walk_at $s:str) => `(tactic| k_extra $s)
local macro_rules | `(tactic| k_all) => `(tactic| assumption)
local macro_rules | `(tactic| k_mem) => `(tactic| assumption)
local macro_rules | `(tactic| news_mem) => `(tactic| (exact .tail _ (by assumption)))
theorem add_spec {w : World} {mean : ExcName → Option Value} {mg mb : Str → Option Value}
    {dp un : Nat} {gd : Option (List Code)} {cn : Str} {cs : Scope} {a : Addr} {ccd : Value} {cl : List (Str × Addr)} {outer : List Env}
    {A₀ : Around} {base h₀ : Heap} {L : Addr} {m : Str → Option Value} {s : Shared} {Q E : Value → Shared → Prop}
    {q ti rw : Addr} {orw : Obj} {T0 rest : Led} {rows : List Dat} {sp : Int} {kind nm : Str} {w1 w2 w3 : Tok}
    (B : Below A₀ base outer h₀) (F : Fr h₀ L s.heap m) (X : (hd.heap_39 w.params).In h₀) (N : News h₀ L s.heap ((rw, orw) :: rest)) (T : TopM mean mg mb h₀)
    (hk : cs.kind = .function) (S : CS w q ti rw orw T0 rest rows) (hsz : rows.length + 1 ≤ 2000000) (hdp : dp < 880)
    (ret : ∀ h' tk' orw' tl rest', Fr h₀ L h' m → News h₀ L h' ((rw, orw') :: rest') → Grow tl rest rest' → CS w q ti rw orw' (tl ++ T0) rest' (rows ++ [rowD kind sp nm]) → Q .none { s with heap := h', toks := tk' }) :
    wpAny (model PySem.Challenge.rw_on0096_01.row.prog w) (ktrTop dp un gd cn cs L a ccd cl outer) (call (.ref 35) [.ref q, .str kind w1, .int sp w2, .str nm w3]) Q E s := by
  w_top off
  k_with_none
  k_with "exec Assign" => k_fold
  k_with "exec If" => k_fold
  k_with "exec Expr" => k_fold
  k_with "exec Return some" => k_fold
  k_with "call builtin:list.append" => ((k_here; (with_reducible show wpAny _ _ (call (Value.builtin _) [Value.ref _, _]) _ _ _); k_dflt (refine' append_K ?k1 ?k2 ?k3 ?_ ?z; (case k1 => k_asm); (case k2 => k_asm); (case k3 => k_upd); (case z => (simp only [List.size_toArray]; rw [sizeLine_eq]; omega)); k_whole); intro h' F' N'))
  have hrw := S.hrw
  obtain ⟨dq, dn, t1, t2, t3, t4, q1, q2⟩ := S.rep
  obtain ⟨vs, kd, rfl, hvs⟩ := S.rows
  have hvl := hvs.length
  refine wpAny_call ?_
  k_dflt ktr_enter
  k_steps
  exact ret _ _ _ [_] _ (by k_asm) (rot11 (by k_asm)) (grow_one (by tbn_find))
    ⟨S.rep.mono sub1, S.tab.mono sub1, apart_cons hrw (by omega), sub_app (tl := [_]) S.sub, due_push hvs sub1 (dat3 (.head _))⟩
end

section
local macro_rules | `(tactic| walk_at $s:str) => `(tactic| k_extra $s)
local macro_rules | `(tactic| k_all) => `(tactic| assumption)
local macro_rules | `(tactic| k_mem) => `(tactic| assumption)
theorem expr_spec {w : World} {mean : ExcName → Option Value} {mg mb : Str → Option Value}
    {dp un : Nat} {gd : Option (List Code)} {cn : Str} {cs : Scope} {a : Addr} {ccd : Value} {cl : List (Str × Addr)} {outer : List Env}
    {A₀ : Around} {base h₀ : Heap} {L : Addr} {m : Str → Option Value} {s : Shared} {Q E : Value → Shared → Prop}
    {q ti rw : Addr} {orw : Obj} {T0 rest : Led} {rows : List Dat} {v : Value} {sp : Int} {x : VN}
    (B : Below A₀ base outer h₀) (F : Fr h₀ L s.heap m) (X : (hd.heap_39 w.params).In h₀) (N : News h₀ L s.heap ((rw, orw) :: rest)) (T : TopM mean mg mb h₀)
    (hk : cs.kind = .function) (S : CS w q ti rw orw T0 rest rows) (D : DatIn rest v (valD sp x)) (hsz : rows.length + 1 ≤ 2000000) (hdp : dp < 870)
    (ret : ∀ h' tk' orw' tl rest', Fr h₀ L h' m → News h₀ L h' ((rw, orw') :: rest') → Grow tl rest rest' → CS w q ti rw orw' (tl ++ T0) rest' (rows ++ expV sp x) → Q .none { s with heap := h', toks := tk' }) :
    wpAny (model PySem.Challenge.rw_on0096_01.row.prog w) (ktrTop dp un gd cn cs L a ccd cl outer) (call (.ref 84) [.ref q, .ref ti, v]) Q E s := by
  w_top off
  k_with_none
  k_with "exec Assign" => k_fold
  k_with "exec If" => k_fold
  k_with "exec Expr" => k_fold
  k_with "exec Return some" => k_fold
  k_with "call ref" => ((k_here; (with_reducible show wpAny _ _ (call (Value.ref 35) _) _ _ _); k_dflt (refine' add_spec ?k1 ?k2 ?k3 ?k4 ?k5 ?k6 ?k7 ?k8 ?k9 ?_; (case k1 => k_asm); (case k2 => k_asm); (case k3 => k_asm); (case k4 => k_asm); (case k5 => k_asm); (case k6 => first | exact rfl | assumption); (case k7 => assumption); (case k8 => ((try simp only [List.length_append]); omega)); (case k9 => (dsimp only [ktrTop, Around.deeper]; omega))); k_whole; intro h' tk' o' tl' rest' F' N' gR' S'; (try k_fold)))
  k_with "call ref" => ((k_here; (with_reducible show wpAny _ _ (call (Value.ref 70) _) _ _ _); k_dflt (refine' find_spec ?k1 ?k2 ?k3 ?k4 ?k5 ?k6 ?k7 ?k8 ?k9 ?_ ?_; (case k1 => k_asm); (case k2 => k_asm); (case k3 => k_asm); (case k4 => k_asm); (case k5 => k_asm); (case k6 => first | exact rfl | assumption); (case k7 => exact TabS.mono (by assumption) sub1); (case k8 => assumption); (case k9 => (dsimp only [ktrTop, Around.deeper]; omega))); all_goals (k_whole; first | ((with_reducible show (_ = 10) → _); intro hz' h' tk' F' N'; (try k_fold)) | (intro b' h' tk' hz' hD' F' N'; (try k_fold)))))
  obtain ⟨av, nv, u1, u2, u3, rfl, hmv⟩ := dat3_open D
  rw [VN.name] at hmv
  have hxn := x.no_le
  have hT := S.tab
  have hrw := S.hrw
  obtain ⟨dq, dn, t1, t2, t3, t4, q1, q2⟩ := S.rep
  refine wpAny_call ?_
  k_dflt ktr_enter
  k_steps
  · exact ret _ _ _ _ _ (by k_asm) (by k_asm) (by assumption) (by rw [exp_zz (by assumption)]; assumption)
  · exact ret _ _ _ [] _ (by k_asm) (by k_asm) grow_nil (by rw [exp_known (by assumption), List.append_nil]; exact S)
end
end Mine
namespace Mine
theorem fillNow7c : (PySem.Challenge.rw_on0096_01.row.prog, hd.heap_39) = (PySem.Challenge.rw_on0096_01.row.prog, hd.heap_39) := by k_fill; rfl

theorem sub_cons {x : Addr × Obj} {a b : Led} (h : ∀ p ∈ a, p ∈ b) : ∀ p ∈ a, p ∈ x :: b := fun p hp => .tail _ (h p hp)
theorem sub_grow {tl a b c : Led} (g : Grow tl b c) (h : ∀ p ∈ a, p ∈ b) : ∀ p ∈ a, p ∈ c := fun p hp => g.sub p (h p hp)
theorem mem_up {x : Addr × Obj} {a b : Led} (h : x ∈ a) (hs : ∀ p ∈ a, p ∈ b) : x ∈ b := hs x h
theorem sub_self {a : Led} : ∀ p ∈ a, p ∈ a := fun _ h => h
theorem ne_allLt {I : Addr} {R : Led} (h : AllLt I R) : ∀ p ∈ R, p.1 ≠ I := fun p hp => Nat.ne_of_lt (ktn_ltOf h p hp)

theorem turn_in {h₀ h : Heap} {L : Addr} {w : World} {q ti rw I : Addr} {it o : Obj} {T R : Led} {rows : List Dat} (N : News h₀ L h ((I, it) :: (rw, o) :: R)) (S : CS w q ti rw o T R rows) (hI : @LT.lt Nat _ rw I) :
    News h₀ L h ((rw, o) :: (I, it) :: R) ∧ CS w q ti rw o T ((I, it) :: R) rows := ⟨rot11 N, S.skip (Nat.ne_of_gt hI)⟩

theorem turn_end {w : World} {h₀ h' : Heap} {L : Addr} {s₁ : Shared} {I ax : Addr} {it lo o o0 : Obj} {rst : (Str → Option Value) → Led → Prop} {m' : Str → Option Value} {tk : Nat} {q ti rw : Addr} {T0 tl R rest' : Led} {rows rows0 : List Dat}
    (F : Fr h₀ L h' m') (N : News h₀ L h' ((rw, o) :: rest')) (g : Grow tl ((I, it) :: R) rest') (S : CS w q ti rw o (tl ++ T0) rest' rows) (hI : ∀ p ∈ R, p.1 ≠ I) (hrI : @LT.lt Nat _ rw I) (hk : (ax, lo) ∈ R) (S0 : CS w q ti rw o0 T0 R rows0)
    (h : ∀ R', Grow tl R R' → CS w q ti rw o (tl ++ T0) R' rows → (∀ p ∈ R', p.1 ≠ I) → (ax, lo) ∈ R' → rst m' ((rw, o) :: R')) :
    UnrEndW h₀ L s₁ [(I, it)] (fun m' n' => SubL [(ax, lo)] n' ∧ rst m' n') { s₁ with heap := h', toks := tk } := by
  obtain ⟨rfl, ab⟩ := g
  have hsub : ∀ p ∈ tl ++ R, p ∈ tl ++ (I, it) :: R := fun p hp => by
    rcases List.mem_append.mp hp with h | h
    · exact sub_l p h
    · exact sub_r p (.tail _ h)
  have hI' : ∀ p ∈ tl ++ R, p.1 ≠ I := fun p hp => by
    rcases List.mem_append.mp hp with h | h
    · exact Nat.ne_of_gt (ab p h _ (.head _))
    · exact hI p h
  refine ⟨h', tk, m', (rw, o) :: (tl ++ R), rfl, F, news_sub N fun p hp => ?_, fun p hp x hx => ?_, ⟨.tail _ (sub_r _ hk), trivial⟩,
    h (tl ++ R) ⟨rfl, fun p hp x hx => ab p hp x (.tail _ hx)⟩ ⟨S0.rep.mono sub_r, S0.tab.mono sub_r, fun p hp => S.hrw p (hsub p hp), sub_app S0.sub, S.rows⟩ hI' (sub_r _ hk)⟩
  · rcases List.mem_cons.mp hp with rfl | hp
    · exact .tail _ (sub_r _ (.head _))
    · rcases List.mem_cons.mp hp with rfl | hp
      · exact .head _
      · exact .tail _ (hsub p hp)
  · rw [List.mem_singleton.mp hx]
    rcases List.mem_cons.mp hp with rfl | hp
    · exact Nat.ne_of_lt hrI
    · exact hI' p hp

section
local macro_rules | `(tactic| walk_at $s:str) => `(tactic| k_extra $s)
local macro_rules | `(tactic| k_all) => `(tactic| assumption)
local macro_rules | `(tactic| k_mem) => `(tactic| assumption)
local macro_rules | `(tactic| news_mem) => `(tactic| (exact .tail _ (by assumption)))
local macro_rules | `(tactic| k_mem) => `(tactic| first | assumption | exact mem_up (by assumption) (by walk_at "sub here"))
-- a loop over a tuple of the ledger
theorem each1_spec {w : World} {mean : ExcName → Option Value} {mg mb : Str → Option Value}
    {dp un : Nat} {gd : Option (List Code)} {cn : Str} {cs : Scope} {a : Addr} {ccd : Value} {cl : List (Str × Addr)} {outer : List Env}
    {A₀ : Around} {base h₀ : Heap} {L : Addr} {m : Str → Option Value} {s : Shared} {Q E : Value → Shared → Prop}
    {q ti rw : Addr} {orw : Obj} {T0 rest : Led} {rows : List Dat} {v : Value} {s1 : Int} {v1 : VN}
    (B : Below A₀ base outer h₀) (F : Fr h₀ L s.heap m) (X : (hd.heap_39 w.params).In h₀) (N : News h₀ L s.heap ((rw, orw) :: rest)) (T : TopM mean mg mb h₀)
    (hk : cs.kind = .function) (S : CS w q ti rw orw T0 rest rows) (D : DatIn rest v (.tuple [valD s1 v1])) (hsz : rows.length + 1 ≤ 2000000) (hdp : dp < 860)
    (ret : ∀ h' tk' orw' tl rest', Fr h₀ L h' m → News h₀ L h' ((rw, orw') :: rest') → Grow tl rest rest' → CS w q ti rw orw' (tl ++ T0) rest' (rows ++ expV s1 v1) → Q .none { s with heap := h', toks := tk' }) :
    wpAny (model PySem.Challenge.rw_on0096_01.row.prog w) (ktrTop dp un gd cn cs L a ccd cl outer) (call (.ref 91) [.ref q, .ref ti, v]) Q E s := by
  w_top off
  k_with_none
  k_with "exec Assign" => k_fold
  k_with "exec If" => k_fold
  k_with "exec Expr" => k_fold
  k_with "exec Return some" => k_fold
  k_with "sub here" => (first | exact sub_self | (refine sub_cons ?_; walk_at "sub here") | (refine sub_grow (by assumption) ?_; walk_at "sub here"))
  k_with "dat here" => (first | assumption | exact dat_up (by assumption) (by walk_at "sub here"))
  k_with "mine for" => ((k_here; (rename Fr _ _ _ _ => lF'); (with_unfolding_all refine' For_turns lF' ?_; k_whole)))
  k_with "exec For Name Name cons nil" => (walk_at "mine for")
  k_with "pyIter ref" => ((k_here; (with_reducible show wpAny _ _ (pyIter (Value.ref _)) (fun it s₂ => TurnsAt _ _ _ _ _ _ _ _ _ it s₂) _ _); (with_unfolding_all refine' iter_tupTurns ?kh ?kF ?kN (List.mem_cons_of_mem _ ?km) ?kc ?kd ?_; (case kh => rfl); (case kF => k_asm); (case kN => k_asm); (case km => assumption); (case kc => rfl); (case kd => rfl)); intro i' l1; (try k_lt l1); (try dsimp only [List.map])))
  k_with "ItemsRest" => (first | ((with_unfolding_all refine ItemsRest.val (fun h' tk' F' => ?_)); (refine AllObj.cons (fun o' hc' => ?_)); (refine AllObj.nil (fun N' => ?_)); (try simp only [List.cons_append, List.nil_append] at N'); (obtain ⟨N', S'⟩ := turn_in N' (by assumption) (by omega))) | (with_unfolding_all refine ItemsRest.zero (fun h' tk' F' N' => ?_)))
  k_with "UnrEndW" => ((refine turn_end (by k_asm) (by k_asm) (by assumption) (by assumption) (by first | assumption | exact ne_allLt (by tbn_find)) (by omega) (by assumption) (by assumption) ?_; intro rest' gR' S' hI' hk'))
  k_with "call ref" => ((k_here; (with_reducible show wpAny _ _ (call (Value.ref 84) _) _ _ _); k_dflt (refine' expr_spec ?k1 ?k2 ?k3 ?k4 ?k5 ?k6 ?k7 ?kd ?k8 ?k9 ?_; (case k7 => assumption); (case k1 => k_asm); (case k2 => k_asm); (case k3 => k_asm); (case k4 => k_asm); (case k5 => k_asm); (case k6 => first | exact rfl | assumption); (case kd => walk_at "dat here"); (case k8 => ((try simp only [List.length_append]); omega)); (case k9 => (dsimp only [ktrTop, Around.deeper]; omega))); k_whole; intro h' tk' o' tl' rest' F' N' gR' S'; (try k_fold)))
  obtain ⟨ai, ni, x1, rfl, hm, D1⟩ := dat1_open D
  refine wpAny_call ?_
  k_dflt ktr_enter
  k_steps
  exact ret _ _ _ _ _ (by k_asm) (by k_asm) (by assumption) (by assumption)

theorem each2_spec {w : World} {mean : ExcName → Option Value} {mg mb : Str → Option Value}
    {dp un : Nat} {gd : Option (List Code)} {cn : Str} {cs : Scope} {a : Addr} {ccd : Value} {cl : List (Str × Addr)} {outer : List Env}
    {A₀ : Around} {base h₀ : Heap} {L : Addr} {m : Str → Option Value} {s : Shared} {Q E : Value → Shared → Prop}
    {q ti rw : Addr} {orw : Obj} {T0 rest : Led} {rows : List Dat} {v : Value} {s1 s2 : Int} {v1 v2 : VN}
    (B : Below A₀ base outer h₀) (F : Fr h₀ L s.heap m) (X : (hd.heap_39 w.params).In h₀) (N : News h₀ L s.heap ((rw, orw) :: rest)) (T : TopM mean mg mb h₀)
    (hk : cs.kind = .function) (S : CS w q ti rw orw T0 rest rows) (D : DatIn rest v (.tuple [valD s1 v1, valD s2 v2])) (hsz : rows.length + 2 ≤ 2000000) (hdp : dp < 860)
    (ret : ∀ h' tk' orw' tl rest', Fr h₀ L h' m → News h₀ L h' ((rw, orw') :: rest') → Grow tl rest rest' → CS w q ti rw orw' (tl ++ T0) rest' (rows ++ (expV s1 v1 ++ expV s2 v2)) → Q .none { s with heap := h', toks := tk' }) :
    wpAny (model PySem.Challenge.rw_on0096_01.row.prog w) (ktrTop dp un gd cn cs L a ccd cl outer) (call (.ref 91) [.ref q, .ref ti, v]) Q E s := by
  w_top off
  k_with_none
  k_with "exec Assign" => k_fold
  k_with "exec If" => k_fold
  k_with "exec Expr" => k_fold
  k_with "exec Return some" => k_fold
  k_with "sub here" => (first | exact sub_self | (refine sub_cons ?_; walk_at "sub here") | (refine sub_grow (by assumption) ?_; walk_at "sub here"))
  k_with "dat here" => (first | assumption | exact dat_up (by assumption) (by walk_at "sub here"))
  k_with "mine for" => ((k_here; (rename Fr _ _ _ _ => lF'); (with_unfolding_all refine' For_turns lF' ?_; k_whole)))
  k_with "exec For Name Name cons nil" => (walk_at "mine for")
  k_with "pyIter ref" => ((k_here; (with_reducible show wpAny _ _ (pyIter (Value.ref _)) (fun it s₂ => TurnsAt _ _ _ _ _ _ _ _ _ it s₂) _ _); (with_unfolding_all refine' iter_tupTurns ?kh ?kF ?kN (List.mem_cons_of_mem _ ?km) ?kc ?kd ?_; (case kh => rfl); (case kF => k_asm); (case kN => k_asm); (case km => assumption); (case kc => rfl); (case kd => rfl)); intro i' l1; (try k_lt l1); (try dsimp only [List.map])))
  k_with "ItemsRest" => (first | ((with_unfolding_all refine ItemsRest.val (fun h' tk' F' => ?_)); (refine AllObj.cons (fun o' hc' => ?_)); (refine AllObj.nil (fun N' => ?_)); (try simp only [List.cons_append, List.nil_append] at N'); (obtain ⟨N', S'⟩ := turn_in N' (by assumption) (by omega))) | (with_unfolding_all refine ItemsRest.zero (fun h' tk' F' N' => ?_)))
  k_with "UnrEndW" => ((refine turn_end (by k_asm) (by k_asm) (by assumption) (by assumption) (by first | assumption | exact ne_allLt (by tbn_find)) (by omega) (by assumption) (by assumption) ?_; intro rest' gR' S' hI' hk'))
  k_with "call ref" => ((k_here; (with_reducible show wpAny _ _ (call (Value.ref 84) _) _ _ _); k_dflt (refine' expr_spec ?k1 ?k2 ?k3 ?k4 ?k5 ?k6 ?k7 ?kd ?k8 ?k9 ?_; (case k7 => assumption); (case k1 => k_asm); (case k2 => k_asm); (case k3 => k_asm); (case k4 => k_asm); (case k5 => k_asm); (case k6 => first | exact rfl | assumption); (case kd => walk_at "dat here"); (case k8 => ((try simp only [List.length_append]); omega)); (case k9 => (dsimp only [ktrTop, Around.deeper]; omega))); k_whole; intro h' tk' o' tl' rest' F' N' gR' S'; (try k_fold)))
  obtain ⟨ai, ni, x1, x2, rfl, hm, D1, D2⟩ := dat2_open D
  have hl1 := expV_len s1 v1
  have hl2 := expV_len s2 v2
  refine wpAny_call ?_
  k_dflt ktr_enter
  k_steps
  exact ret _ _ _ _ _ (by k_asm) (by k_asm) (Grow.trans (by assumption) (by assumption)) (CS.re (by assumption) (List.append_assoc ..) (List.append_assoc ..).symm)

theorem optional_spec {w : World} {mean : ExcName → Option Value} {mg mb : Str → Option Value}
    {dp un : Nat} {gd : Option (List Code)} {cn : Str} {cs : Scope} {a : Addr} {ccd : Value} {cl : List (Str × Addr)} {outer : List Env}
    {A₀ : Around} {base h₀ : Heap} {L : Addr} {m : Str → Option Value} {s : Shared} {Q E : Value → Shared → Prop}
    {q ti rw : Addr} {orw : Obj} {T0 rest : Led} {rows : List Dat} {v : Value} {x : Option (Int × VN)}
    (B : Below A₀ base outer h₀) (F : Fr h₀ L s.heap m) (X : (hd.heap_39 w.params).In h₀) (N : News h₀ L s.heap ((rw, orw) :: rest)) (T : TopM mean mg mb h₀)
    (hk : cs.kind = .function) (S : CS w q ti rw orw T0 rest rows) (D : DatIn rest v (optD x)) (hsz : rows.length + 1 ≤ 2000000) (hdp : dp < 860)
    (ret : ∀ h' tk' orw' tl rest', Fr h₀ L h' m → News h₀ L h' ((rw, orw') :: rest') → Grow tl rest rest' → CS w q ti rw orw' (tl ++ T0) rest' (rows ++ expO x) → Q .none { s with heap := h', toks := tk' }) :
    wpAny (model PySem.Challenge.rw_on0096_01.row.prog w) (ktrTop dp un gd cn cs L a ccd cl outer) (call (.ref 98) [.ref q, .ref ti, v]) Q E s := by
  w_top off
  k_with_none
  k_with "exec Assign" => k_fold
  k_with "exec If" => k_fold
  k_with "exec Expr" => k_fold
  k_with "exec Return some" => k_fold
  k_with "sub here" => (first | exact sub_self | (refine sub_cons ?_; walk_at "sub here") | (refine sub_grow (by assumption) ?_; walk_at "sub here"))
  k_with "dat here" => (first | assumption | exact dat_up (by assumption) (by walk_at "sub here"))
  k_with "mine for" => ((k_here; (rename Fr _ _ _ _ => lF'); (with_unfolding_all refine' For_turns lF' ?_; k_whole)))
  k_with "exec For Name Name cons nil" => (walk_at "mine for")
  k_with "pyIter ref" => ((k_here; (with_reducible show wpAny _ _ (pyIter (Value.ref _)) (fun it s₂ => TurnsAt _ _ _ _ _ _ _ _ _ it s₂) _ _); (with_unfolding_all refine' iter_tupTurns ?kh ?kF ?kN (List.mem_cons_of_mem _ ?km) ?kc ?kd ?_; (case kh => rfl); (case kF => k_asm); (case kN => k_asm); (case km => assumption); (case kc => rfl); (case kd => rfl)); intro i' l1; (try k_lt l1); (try dsimp only [List.map])))
  k_with "ItemsRest" => (first | ((with_unfolding_all refine ItemsRest.val (fun h' tk' F' => ?_)); (refine AllObj.cons (fun o' hc' => ?_)); (refine AllObj.nil (fun N' => ?_)); (try simp only [List.cons_append, List.nil_append] at N'); (obtain ⟨N', S'⟩ := turn_in N' (by assumption) (by omega))) | (with_unfolding_all refine ItemsRest.zero (fun h' tk' F' N' => ?_)))
  k_with "UnrEndW" => ((refine turn_end (by k_asm) (by k_asm) (by assumption) (by assumption) (by first | assumption | exact ne_allLt (by tbn_find)) (by omega) (by assumption) (by assumption) ?_; intro rest' gR' S' hI' hk'))
  k_with "call ref" => ((k_here; (with_reducible show wpAny _ _ (call (Value.ref 84) _) _ _ _); k_dflt (refine' expr_spec ?k1 ?k2 ?k3 ?k4 ?k5 ?k6 ?k7 ?kd ?k8 ?k9 ?_; (case k7 => assumption); (case k1 => k_asm); (case k2 => k_asm); (case k3 => k_asm); (case k4 => k_asm); (case k5 => k_asm); (case k6 => first | exact rfl | assumption); (case kd => walk_at "dat here"); (case k8 => ((try simp only [List.length_append]); omega)); (case k9 => (dsimp only [ktrTop, Around.deeper]; omega))); k_whole; intro h' tk' o' tl' rest' F' N' gR' S'; (try k_fold)))
  rcases x with _ | ⟨s1, v1⟩
  · cases D
    refine wpAny_call ?_
    k_dflt ktr_enter
    k_steps
    exact ret _ _ _ [] _ (by k_asm) (by k_asm) grow_nil (CS.re (by assumption) rfl (List.append_nil _))
  · have D' : DatIn rest v (valD s1 v1) := D
    obtain ⟨av, nv, u1, u2, u3, rfl, hmv⟩ := dat3_open D'
    refine wpAny_call ?_
    k_dflt ktr_enter
    k_steps
    exact ret _ _ _ _ _ (by k_asm) (by k_asm) (by assumption) (by assumption)
end

section
local macro_rules | `(tactic| walk_at $s:str) => `(tactic| k_extra $s)
local macro_rules | `(tactic| k_all) => `(tactic| assumption)
local macro_rules | `(tactic| k_mem) => `(tactic| assumption)
theorem range_spec {w : World} {mean : ExcName → Option Value} {mg mb : Str → Option Value}
    {dp un : Nat} {gd : Option (List Code)} {cn : Str} {cs : Scope} {a : Addr} {ccd : Value} {cl : List (Str × Addr)} {outer : List Env}
    {A₀ : Around} {base h₀ : Heap} {L : Addr} {m : Str → Option Value} {s : Shared} {Q E : Value → Shared → Prop}
    {q ti rw : Addr} {orw : Obj} {T0 rest : Led} {rows : List Dat} {v : Value} {x : Option (Int × VN × Int × VN)}
    (B : Below A₀ base outer h₀) (F : Fr h₀ L s.heap m) (X : (hd.heap_39 w.params).In h₀) (N : News h₀ L s.heap ((rw, orw) :: rest)) (T : TopM mean mg mb h₀)
    (hk : cs.kind = .function) (S : CS w q ti rw orw T0 rest rows) (D : DatIn rest v (pairD x)) (hsz : rows.length + 2 ≤ 2000000) (hdp : dp < 850)
    (ret : ∀ h' tk' orw' tl rest', Fr h₀ L h' m → News h₀ L h' ((rw, orw') :: rest') → Grow tl rest rest' → CS w q ti rw orw' (tl ++ T0) rest' (rows ++ expP x) → Q .none { s with heap := h', toks := tk' }) :
    wpAny (model PySem.Challenge.rw_on0096_01.row.prog w) (ktrTop dp un gd cn cs L a ccd cl outer) (call (.ref 105) [.ref q, .ref ti, v]) Q E s := by
  w_top off
  k_with_none
  k_with "exec Assign" => k_fold
  k_with "exec If" => k_fold
  k_with "exec Expr" => k_fold
  k_with "exec Return some" => k_fold
  k_with "call ref" => ((k_here; (with_reducible show wpAny _ _ (call (Value.ref 91) _) _ _ _); k_dflt (refine' each2_spec ?k1 ?k2 ?k3 ?k4 ?k5 ?k6 ?k7 ?kd ?k8 ?k9 ?_; (case k7 => assumption); (case k1 => k_asm); (case k2 => k_asm); (case k3 => k_asm); (case k4 => k_asm); (case k5 => k_asm); (case k6 => first | exact rfl | assumption); (case kd => assumption); (case k8 => ((try simp only [List.length_append]); omega)); (case k9 => (dsimp only [ktrTop, Around.deeper]; omega))); k_whole; intro h' tk' o' tl' rest' F' N' gR' S'; (try k_fold)))
  rcases x with _ | ⟨s1, v1, s2, v2⟩
  · cases D
    refine wpAny_call ?_
    k_dflt ktr_enter
    k_steps
    exact ret _ _ _ [] _ (by k_asm) (by k_asm) grow_nil (CS.re (by assumption) rfl (List.append_nil _))
  · have D' : DatIn rest v (.tuple [valD s1 v1, valD s2 v2]) := D
    obtain ⟨ai, ni, x1, x2, rfl, hm, D1, D2⟩ := dat2_open D'
    refine wpAny_call ?_
    k_dflt ktr_enter
    k_steps
    exact ret _ _ _ _ _ (by k_asm) (by k_asm) (by assumption) (by assumption)
end
end Mine
namespace Mine
theorem fillNow7d : (PySem.Challenge.rw_on0096_01.row.prog, hd.heap_39) = (PySem.Challenge.rw_on0096_01.row.prog, hd.heap_39) := by k_fill; rfl

abbrev pathD (sp : Int) (x : Option (Int × VN)) : Dat := .tuple [.str (Str.ofString "path"), .int sp, .tuple [.tuple [.str (Str.ofString "u"), optD x], .tuple [.str (Str.ofString "zz"), .none]]]
inductive OpP (T : Led) (v : Value) (sp : Int) (x : Option (Int × VN)) : Prop
  | mk (a : Addr) (n : Nat) (t1 t2 : Tok) (b : Addr) (nb : Nat) (p1 p2 : Addr) (n1 n2 : Nat) (t3 : Tok) (vx : Value) (t4 : Tok) (ev : v = .ref a) (hm : (a, tupO [.str (Str.ofString "path") t1, .int sp t2, .ref b] n) ∈ T)
    (hb : (b, tupO [.ref p1, .ref p2] nb) ∈ T) (h1 : (p1, tupO [.str (Str.ofString "u") t3, vx] n1) ∈ T) (h2 : (p2, tupO [.str (Str.ofString "zz") t4, .none] n2) ∈ T) (hx : DatIn T vx (optD x)) : OpP T v sp x
theorem path_open {T : Led} {v : Value} {sp : Int} {x : Option (Int × VN)} (h : DatIn T v (pathD sp x)) : OpP T v sp x := by
  obtain ⟨a, b, n, nb, t1, t2, vs0, e, hm, hb, r0⟩ := list_open h
  obtain ⟨v1, vs1, rfl, k1, r1⟩ := all_cons r0
  obtain ⟨v2, vs2, rfl, k2, r2⟩ := all_cons r1
  obtain rfl := all_nil r2
  obtain ⟨p1, n1, t3, y2, rfl, hp1, g2⟩ := ent_open k1
  obtain ⟨p2, n2, t4, z2, rfl, hp2, f2⟩ := ent_open k2
  obtain rfl := none_open f2
  exact ⟨a, n, t1, t2, b, nb, p1, p2, n1, n2, t3, y2, t4, e, hm, hb, hp1, hp2, g2⟩
theorem expO_len (x) : (expO x).length ≤ 1 := by
  rcases x with _ | ⟨s1, v1⟩
  · exact Nat.zero_le _
  · exact expV_len s1 v1

section
local macro_rules | `(tactic| walk_at $s:str) => `(tactic| k_extra $s)
local macro_rules | `(tactic| k_all) => `(tactic| assumption)
local macro_rules | `(tactic| k_mem) => `(tactic| first | assumption | exact mem_up (by assumption) (by walk_at "sub here"))
local macro_rules | `(tactic| news_mem) => `(tactic| (exact .tail _ (by assumption)))
-- a loop over a tuple of the ledger
theorem path_spec {w : World} {mean : ExcName → Option Value} {mg mb : Str → Option Value}
    {dp un : Nat} {gd : Option (List Code)} {cn : Str} {cs : Scope} {a : Addr} {ccd : Value} {cl : List (Str × Addr)} {outer : List Env}
    {A₀ : Around} {base h₀ : Heap} {L : Addr} {m : Str → Option Value} {s : Shared} {Q E : Value → Shared → Prop}
    {q ti rw : Addr} {orw : Obj} {T0 rest : Led} {rows : List Dat} {v : Value} {sp : Int} {x : Option (Int × VN)}
    (B : Below A₀ base outer h₀) (F : Fr h₀ L s.heap m) (X : (hd.heap_39 w.params).In h₀) (N : News h₀ L s.heap ((rw, orw) :: rest)) (T : TopM mean mg mb h₀)
    (hk : cs.kind = .function) (S : CS w q ti rw orw T0 rest rows) (D : DatIn rest v (pathD sp x)) (hsz : rows.length + 1 ≤ 1900000) (hdp : dp < 850)
    (ret : ∀ h' tk' orw' tl rest', Fr h₀ L h' m → News h₀ L h' ((rw, orw') :: rest') → Grow tl rest rest' → CS w q ti rw orw' (tl ++ T0) rest' (rows ++ expO x) → Q .none { s with heap := h', toks := tk' }) :
    wpAny (model PySem.Challenge.rw_on0096_01.row.prog w) (ktrTop dp un gd cn cs L a ccd cl outer) (call (.ref 112) [.ref q, .ref ti, v]) Q E s := by
  w_top off
  k_with_none
  k_with "exec Assign" => k_fold
  k_with "exec If" => k_fold
  k_with "exec Expr" => k_fold
  k_with "exec Return some" => k_fold
  k_with "sub here" => (first | exact sub_self | (refine sub_cons ?_; walk_at "sub here") | (refine sub_grow (by assumption) ?_; walk_at "sub here"))
  k_with "dat here" => (first | assumption | exact dat_up (by assumption) (by walk_at "sub here"))
  k_with "mine for" => ((k_here; (rename Fr _ _ _ _ => lF'); (with_unfolding_all refine' For_turns lF' ?_; k_whole)))
  k_with "exec For Name Name cons nil" => (walk_at "mine for")
  k_with "exec For Tuple Subscript cons nil" => (walk_at "mine for")
  k_with "pyIter ref" => ((k_here; (with_reducible show wpAny _ _ (pyIter (Value.ref _)) (fun it s₂ => TurnsAt _ _ _ _ _ _ _ _ _ it s₂) _ _); (with_unfolding_all refine' iter_tupTurns ?kh ?kF ?kN (List.mem_cons_of_mem _ ?km) ?kc ?kd ?_; (case kh => rfl); (case kF => k_asm); (case kN => k_asm); (case km => assumption); (case kc => rfl); (case kd => rfl)); intro i' l1; (try k_lt l1); (try dsimp only [List.map])))
  k_with "ItemsRest" => (first | ((with_unfolding_all refine ItemsRest.val (fun h' tk' F' => ?_)); (refine AllObj.cons (fun o' hc' => ?_)); (refine AllObj.nil (fun N' => ?_)); (try simp only [List.cons_append, List.nil_append] at N'); (obtain ⟨N', S'⟩ := turn_in N' (by assumption) (by omega))) | (with_unfolding_all refine ItemsRest.zero (fun h' tk' F' N' => ?_)))
  k_with "UnrEndW" => ((refine turn_end (by k_asm) (by k_asm) (by assumption) (by assumption) (by first | assumption | exact ne_allLt (by tbn_find)) (by omega) (by assumption) (by assumption) ?_; intro rest' gR' S' hI' hk'))
  k_with "call ref" => ((k_here; (with_reducible show wpAny _ _ (call (Value.ref 98) _) _ _ _); k_dflt (refine' optional_spec ?k1 ?k2 ?k3 ?k4 ?k5 ?k6 ?k7 ?kd ?k8 ?k9 ?_; (case k7 => assumption); (case k1 => k_asm); (case k2 => k_asm); (case k3 => k_asm); (case k4 => k_asm); (case k5 => k_asm); (case k6 => first | exact rfl | assumption); (case kd => first | exact opt_none | walk_at "dat here"); (case k8 => ((try simp only [List.length_append]); omega)); (case k9 => (dsimp only [ktrTop, Around.deeper]; omega))); k_whole; intro h' tk' o' tl' rest' F' N' gR' S'; (try k_fold)))
  obtain ⟨ai, ni, u1, u2, b, nb, p1, p2, n1, n2, u3, vx, u4, rfl, hm, hb, hp1, hp2, D1⟩ := path_open D
  have hl1 := expO_len x
  refine wpAny_call ?_
  k_dflt ktr_enter
  k_steps
  exact ret _ _ _ _ _ (by k_asm) (by k_asm) (Grow.trans (by assumption) (by assumption)) (CS.re (by assumption) (List.append_assoc ..) (List.append_nil _).symm)
end
end Mine
namespace Mine
theorem fillNow7e : (PySem.Challenge.rw_on0096_01.row.prog, hd.heap_39) = (PySem.Challenge.rw_on0096_01.row.prog, hd.heap_39) := by k_fill; rfl

theorem entD_open {T : Led} {b : Addr} {j : Nat} (h : DatIn T (.ref b) (entD j)) : ∃ n t1 t2 v3, (b, tupO [.str (kindOf j) t1, .int (j : Int) t2, v3] n) ∈ T ∧ MoreIs T j v3 := by
  obtain ⟨a, n, v1, v2, v3, e, hm, h1, h2, h3⟩ := tup3_open h
  cases e
  obtain ⟨t1, rfl⟩ := str_open h1
  obtain ⟨t2, rfl⟩ := int_open h2
  exact ⟨n, t1, t2, v3, hm, more_of h3 fun _ h => h⟩

section
local macro_rules | `(tactic| walk_at $s:str) => `(tactic| k_extra $s)
local macro_rules | `(tactic| k_all) => `(tactic| assumption)
local macro_rules | `(tactic| k_mem) => `(tactic| assumption)

theorem name_spec {w : World} {mean : ExcName → Option Value} {mg mb : Str → Option Value}
    {dp un : Nat} {gd : Option (List Code)} {cn : Str} {cs : Scope} {a : Addr} {ccd : Value} {cl : List (Str × Addr)} {outer : List Env}
    {A₀ : Around} {base h₀ : Heap} {L : Addr} {m : Str → Option Value} {s : Shared} {Q E : Value → Shared → Prop}
    {q ti rw : Addr} {orw : Obj} {T0 rest : Led} {rows : List Dat} {sp : Int} {j : Nat} {w1 w2 : Tok} {pr : Bool}
    (B : Below A₀ base outer h₀) (F : Fr h₀ L s.heap m) (X : (hd.heap_39 w.params).In h₀) (N : News h₀ L s.heap ((rw, orw) :: rest)) (T : TopM mean mg mb h₀)
    (hk : cs.kind = .function) (S : CS w q ti rw orw T0 rest rows) (hj : j ≤ 10) (hsz : rows.length + 1 ≤ 2000000) (hdp : dp < 870)
    (ret : ∀ h' tk' orw' tl rest', Fr h₀ L h' m → News h₀ L h' ((rw, orw') :: rest') → Grow tl rest rest' → CS w q ti rw orw' (tl ++ T0) rest' (rows ++ Tg.exp pr (.id sp j)) → Q .none { s with heap := h', toks := tk' }) :
    wpAny (model PySem.Challenge.rw_on0096_01.row.prog w) (ktrTop dp un gd cn cs L a ccd cl outer) (call (.ref 142) [.ref q, .ref ti, .int sp w1, .str (nameOf j) w2, .bool pr, .bool false]) Q E s := by
  w_top off
  k_with_none
  k_with "exec Assign" => k_fold
  k_with "exec If" => k_fold
  k_with "exec Expr" => k_fold
  k_with "exec Return some" => k_fold
  k_with "call ref" => ((k_here; (with_reducible show wpAny _ _ (call (Value.ref 35) _) _ _ _); k_dflt (refine' add_spec ?k1 ?k2 ?k3 ?k4 ?k5 ?k6 ?k7 ?k8 ?k9 ?_; (case k1 => k_asm); (case k2 => k_asm); (case k3 => k_asm); (case k4 => k_asm); (case k5 => k_asm); (case k6 => first | exact rfl | assumption); (case k7 => assumption); (case k8 => ((try simp only [List.length_append]); omega)); (case k9 => (dsimp only [ktrTop, Around.deeper]; omega))); k_whole; intro h' tk' o' tl' rest' F' N' gR' S'; (try k_fold)))
  k_with "call ref" => (k_here; (with_reducible show wpAny _ _ (call (Value.ref 70) _) _ _ _); k_dflt (refine' find_spec ?k1 ?k2 ?k3 ?k4 ?k5 ?k6 ?k7 ?k8 ?k9 ?_ ?_; (case k1 => k_asm); (case k2 => k_asm); (case k3 => k_asm); (case k4 => k_asm); (case k5 => k_asm); (case k6 => first | exact rfl | assumption); (case k7 => exact TabS.mono (by assumption) sub1); (case k8 => assumption); (case k9 => (dsimp only [ktrTop, Around.deeper]; omega))); all_goals (k_whole; first | ((with_reducible show (_ = 10) → _); intro hz' h' tk' F' N'; (try k_fold)) | (intro b' h' tk' hz' hD' F' N'; (obtain ⟨n9, t9, u9, v9, hm9, hM9⟩ := entD_open hD'); (try k_fold))))
  k_with "mine enter" => ((refine' code_def ?k1 ?k2 ?k3 ?k4 ?k5 ?kA ?kF ?kK ?k6 ?k7 ?k8 ?k9 ?kB ?_ ?c2 ?c3 ?c4 ?c5; (case kA => exact rfl); (case kF => exact rfl); (case kK => assumption); (case k1 => k_asm); (case k2 => k_asm); (case k3 => k_asm); (case k4 => k_asm); (case k5 => k_asm); (case k6 => k_is); (case k7 => k_is); (case k8 => ktr_room); (case k9 => exact binds_K (by k_in) rfl (by k_is) rfl rfl rfl); (case c5 => decide); (case kB => exact locs rfl); (case c2 => exact rfl); (case c3 => exact rfl); (case c4 => exact rfl); k_whole; intro g' L' h' FG' F' N' B' X' T'; (try dsimp only); (try k_fold)))
  k_with "compareOp Eq str str" => (k_here; k_dflt (refine' str_eq2 ?_ ?_); all_goals (intro hk9; (try k_fold)))
  k_with "compareOp NotEq str str" => (k_here; k_dflt (refine' net_ne2 (by assumption) (by assumption) ?_ ?_); all_goals (first | (intro a9 n9 t9 b9 e9 hm9 hk9; subst e9; (try k_fold)) | (intro hk9; (try k_fold))))
  k_with "told" => first | exact told_none (by assumption) ((kind_none (by assumption)).mpr (by assumption)) | exact told_const (by assumption) (.inl (by assumption)) | exact told_const (by assumption) (.inr (by assumption)) | exact told_varT (by assumption) (by assumption) (by assumption) | exact told_varF (by assumption) (by assumption) (by assumption) | exact told_in (by assumption) (by assumption) (by assumption) | exact told_netT (by assumption) (by assumption) (by assumption) (by assumption) | exact told_netF (by assumption) (by assumption) (by assumption) (by assumption) | exact told_other (by assumption) (fun h => absurd ((kind_none (by assumption)).mp h) (by omega)) (by assumption) (by assumption) (by assumption) (by assumption)
  have hT := S.tab
  have hrw := S.hrw
  obtain ⟨dq, dn, t1, t2, t3, t4, q1, q2⟩ := S.rep
  refine wpAny_call ?_
  k_dflt (walk_at "mine enter")
  k_steps
  all_goals (first | exact ret _ _ _ _ _ (by k_asm) (by k_asm) (by assumption) (CS.re (by assumption) rfl (by simp only [Tg.exp]; rw [show toldOf pr j = some _ by walk_at "told"])) | exact ret _ _ _ [] _ (by k_asm) (by k_asm) grow_nil (CS.re (by assumption) rfl (by simp only [Tg.exp]; rw [show toldOf pr j = none by walk_at "told"]; exact List.append_nil _)))
end
end Mine
namespace Mine
theorem fillNow7f : (PySem.Challenge.rw_on0096_01.row.prog, hd.heap_39) = (PySem.Challenge.rw_on0096_01.row.prog, hd.heap_39) := by k_fill; rfl

theorem CS.more {w : World} {q ti rw : Addr} {orw : Obj} {T rest : Led} {rows : List Dat} {I : Addr} {it : Obj} (S : CS w q ti rw orw T rest rows) (h : @LT.lt Nat _ rw I) : CS w q ti rw orw ((I, it) :: T) ((I, it) :: rest) rows :=
  ⟨S.rep.mono sub1, S.tab.mono sub1, List.forall_mem_cons.mpr ⟨Nat.ne_of_gt h, S.hrw⟩, sub_app (tl := [_]) S.sub, S.rows.mono sub1⟩

/-- what a call of check_target does upon a target of at most lv levels -/
def CheckSpec (w : World) (lv : Nat) : Prop :=
  ∀ (mean : ExcName → Option Value) (mg mb : Str → Option Value)
    (dp un : Nat) (gd : Option (List Code)) (cn : Str) (cs : Scope) (a : Addr) (ccd : Value) (cl : List (Str × Addr)) (outer : List Env)
    (A₀ : Around) (base h₀ : Heap) (L : Addr) (m : Str → Option Value) (s : Shared) (Q E : Value → Shared → Prop)
    (q ti rw : Addr) (orw : Obj) (T0 rest : Led) (rows : List Dat) (v : Value) (t : Tg) (pr : Bool) (args : List Value) (hA : args = [.ref q, .ref ti, v, .bool pr, .bool false] ∨ args = [.ref q, .ref ti, v, .bool pr])
    (B : Below A₀ base outer h₀) (F : Fr h₀ L s.heap m) (X : (hd.heap_39 w.params).In h₀) (N : News h₀ L s.heap ((rw, orw) :: rest)) (T : TopM mean mg mb h₀)
    (hk : cs.kind = .function) (S : CS w q ti rw orw T0 rest rows) (D : DatIn rest v t.dat) (ok : t.Ok lv) (hsz : rows.length + 4 ^ (lv + 1) ≤ 1800000) (hdp : dp + lv < 840)
    (ret : ∀ h' tk' orw' tl rest', Fr h₀ L h' m → News h₀ L h' ((rw, orw') :: rest') → Grow tl rest rest' → CS w q ti rw orw' (tl ++ T0) rest' (rows ++ Tg.exp pr t) → Q .none { s with heap := h', toks := tk' }),
    wpAny (model PySem.Challenge.rw_on0096_01.row.prog w) (ktrTop dp un gd cn cs L a ccd cl outer) (call (.ref 134) args) Q E s
theorem check_use {w : World} {lv : Nat} {mean : ExcName → Option Value} {mg mb : Str → Option Value}
    {dp un : Nat} {gd : Option (List Code)} {cn : Str} {cs : Scope} {a : Addr} {ccd : Value} {cl : List (Str × Addr)} {outer : List Env}
    {A₀ : Around} {base h₀ : Heap} {L : Addr} {m : Str → Option Value} {s : Shared} {Q E : Value → Shared → Prop}
    {q ti rw : Addr} {orw : Obj} {T0 rest : Led} {rows : List Dat} {v : Value} {t : Tg} {pr : Bool} (C : CheckSpec w lv)
    (B : Below A₀ base outer h₀) (F : Fr h₀ L s.heap m) (X : (hd.heap_39 w.params).In h₀) (N : News h₀ L s.heap ((rw, orw) :: rest)) (T : TopM mean mg mb h₀)
    (hk : cs.kind = .function) (S : CS w q ti rw orw T0 rest rows) (D : DatIn rest v t.dat) (ok : t.Ok lv) (hsz : rows.length + 4 ^ (lv + 1) ≤ 1800000) (hdp : dp + lv < 840)
    (ret : ∀ h' tk' orw' tl rest', Fr h₀ L h' m → News h₀ L h' ((rw, orw') :: rest') → Grow tl rest rest' → CS w q ti rw orw' (tl ++ T0) rest' (rows ++ Tg.exp pr t) → (Tg.exp pr t).length ≤ 4 ^ (lv + 1) → Q .none { s with heap := h', toks := tk' }) :
    wpAny (model PySem.Challenge.rw_on0096_01.row.prog w) (ktrTop dp un gd cn cs L a ccd cl outer) (call (.ref 134) [.ref q, .ref ti, v, .bool pr, .bool false]) Q E s :=
  C _ _ _ _ _ _ _ _ _ _ _ _ _ _ _ _ _ _ _ _ _ _ _ _ _ _ _ _ _ _ _ (.inl rfl) B F X N T hk S D ok hsz hdp fun h' tk' o' tl rest' F' N' g S' => ret h' tk' o' tl rest' F' N' g S' (Tg.exp_len pr lv t ok)


/-- a tuple's places from the third on -/
theorem cut_tuple {prog : Program} {w : World} {A : Around} {E : Value → Shared → Prop} {s : Shared} {h₀ : Heap} {L : Addr} {m : Str → Option Value} {news : Led} {value slice : PySem.Expr} {t : Addr} {vs : List Value} {n : Nat} {u : Tok} {Q : Value → Shared → Prop}
    (F : Fr h₀ L s.heap m) (N : News h₀ L s.heap news) (hm : (t, tupO vs n) ∈ news) (ha : 3 ≤ vs.length) (hz : vs.length ≤ sizeLine)
    (h : ∀ D h', Fr h₀ L h' m → News h₀ L h' ((D, tupO (vs.drop 3) 0) :: news) → (∀ p ∈ news, p.1 < D) → Q (.ref D) { s with heap := h' })
    (hs : subscripted slice false (.ref t) (.ref s.heap.objs.size) = operate [.ref s.heap.objs.size, .ref t] (getItem (.ref t) (.ref s.heap.objs.size)))
    (hg : ∀ r, letTemporaryGo value (.ref t) r = pure ()) :
    wpAny (model prog w) A (subscriptTail value slice (.ref t) (.ref s.heap.objs.size)) Q E { s with heap := s.heap.push { cls := .type "slice", data := .fields #[.int 3 u, .none, .none] } } :=
  slice_tuple_from (a := 3) (items := vs.toArray) F N (News.isTup N hm) (by decide) (by simpa using ha) (fun h' F' N' => h _ h' F' N' fun p hp => Nat.lt_succ_of_lt (Heap.lt_size (N p hp).1)) hs hg (by simpa using hz)

theorem str_eqF {prog : Program} {w : World} {A : Around} {E : Value → Shared → Prop} {s : Shared} {x y : Str} {t u : Tok} {Q : Value → Shared → Prop} (h : x ≠ y) (k : Q (.bool false) s) :
    wpAny (model prog w) A (compareOp .Eq (.str x t) (.str y u)) Q E s := str_eq2 (fun e => absurd e h) fun _ => k
theorem sel_ne {x : Str} (h : selWord x) : x ≠ Str.ofString "cat" ∧ x ≠ Str.ofString "path" ∧ x ≠ Str.ofString "id" := by
  rcases h with rfl | rfl | rfl <;> exact ⟨by decide +kernel, by decide +kernel, by decide +kernel⟩
section
local macro_rules | `(tactic| walk_at $s:str) => `(tactic| k_extra $s)
local macro_rules | `(tactic| k_all) => `(tactic| assumption)
local macro_rules | `(tactic| k_mem) => `(tactic| first | assumption | exact mem_up (by assumption) (by walk_at "sub here"))
local macro_rules | `(tactic| news_mem) => `(tactic| (exact .tail _ (by assumption)))
-- a loop over a tuple of the ledger
-- the calls
theorem ck_id {w : World} {mean : ExcName → Option Value} {mg mb : Str → Option Value}
    {dp un : Nat} {gd : Option (List Code)} {cn : Str} {cs : Scope} {a : Addr} {ccd : Value} {cl : List (Str × Addr)} {outer : List Env}
    {A₀ : Around} {base h₀ : Heap} {L : Addr} {m : Str → Option Value} {s : Shared} {Q E : Value → Shared → Prop}
    {q ti rw : Addr} {orw : Obj} {T0 rest : Led} {rows : List Dat} {v : Value} {pr : Bool} {args : List Value} (hA : args = [.ref q, .ref ti, v, .bool pr, .bool false] ∨ args = [.ref q, .ref ti, v, .bool pr]) {sp : Int} {j : Nat}
    (B : Below A₀ base outer h₀) (F : Fr h₀ L s.heap m) (X : (hd.heap_39 w.params).In h₀) (N : News h₀ L s.heap ((rw, orw) :: rest)) (T : TopM mean mg mb h₀)
    (hk : cs.kind = .function) (S : CS w q ti rw orw T0 rest rows) (D : DatIn rest v (Tg.id sp j).dat) (hj : j ≤ 10) (hsz : rows.length + 1 ≤ 1800000) (hdp : dp < 850)
    (ret : ∀ h' tk' orw' tl rest', Fr h₀ L h' m → News h₀ L h' ((rw, orw') :: rest') → Grow tl rest rest' → CS w q ti rw orw' (tl ++ T0) rest' (rows ++ Tg.exp pr (.id sp j)) → Q .none { s with heap := h', toks := tk' }) :
    wpAny (model PySem.Challenge.rw_on0096_01.row.prog w) (ktrTop dp un gd cn cs L a ccd cl outer) (call (.ref 134) args) Q E s := by
  w_top off
  k_with_none
  k_with "exec Assign" => k_fold
  k_with "exec If" => k_fold
  k_with "exec Expr" => k_fold
  k_with "exec Return some" => k_fold
  k_with "sub here" => (first | exact sub_self | (refine sub_cons ?_; walk_at "sub here") | (refine sub_grow (by assumption) ?_; walk_at "sub here"))
  k_with "dat here" => (first | assumption | exact dat_up (by assumption) (by walk_at "sub here"))
  k_with "mine for" => ((k_here; (rename Fr _ _ _ _ => lF'); (with_unfolding_all refine' For_turns lF' ?_; k_whole)))
  k_with "exec For Name Subscript cons nil" => (walk_at "mine for")
  k_with "pyIter ref" => ((k_here; (with_reducible show wpAny _ _ (pyIter (Value.ref _)) (fun it s₂ => TurnsAt _ _ _ _ _ _ _ _ _ it s₂) _ _); (with_unfolding_all refine' iter_tupTurns ?kh ?kF ?kN (List.mem_cons_of_mem _ ?km) ?kc ?kd ?_; (case kh => rfl); (case kF => k_asm); (case kN => k_asm); (case km => assumption); (case kc => rfl); (case kd => rfl)); intro i' l1; (try k_lt l1); (try dsimp only [List.map])))
  k_with "ItemsRest" => (first | ((with_unfolding_all refine ItemsRest.val (fun h' tk' F' => ?_)); (refine AllObj.cons (fun o' hc' => ?_)); (refine AllObj.nil (fun N' => ?_)); (try simp only [List.cons_append, List.nil_append] at N'); (obtain ⟨N', S'⟩ := turn_in N' (by assumption) (by omega))) | (with_unfolding_all refine ItemsRest.zero (fun h' tk' F' N' => ?_)))
  k_with "UnrEndW" => ((refine turn_end (by k_asm) (by k_asm) (by assumption) (by assumption) (by first | assumption | exact ne_allLt (by tbn_find)) (by omega) (by assumption) (by assumption) ?_; intro rest' gR' S' hI' hk'))
  k_with "subscriptTail Name Slice ref ref" => ((k_here; (with_reducible show wpAny _ _ (subscriptTail _ (PySem.Expr.Slice _ _ none _) (Value.ref _) (Value.ref _)) _ _ _); k_dflt (refine' cut_tuple ?F ?N ?l ?a ?z ?_ ?s ?t; (case F => k_asm); (case N => k_asm); (case l => k_mem); (case a => exact Nat.le_of_ble_eq_true rfl); (case z => exact Nat.le_of_ble_eq_true rfl); (case s => with_unfolding_all rfl); (case t => (intro _; with_unfolding_all rfl))); intro D' h' F' N' l1; (try k_lt l1); (try dsimp only [List.drop] at N')))
  k_with "call ref" => ((k_here; (with_reducible show wpAny _ _ (call (Value.ref 142) _) _ _ _); k_dflt (refine' name_spec ?k1 ?k2 ?k3 ?k4 ?k5 ?k6 ?k7 ?kj ?k8 ?k9 ?_; (case k7 => assumption); (case k1 => k_asm); (case k2 => k_asm); (case k3 => k_asm); (case k4 => k_asm); (case k5 => k_asm); (case k6 => first | exact rfl | assumption); (case kj => assumption); (case k8 => ((try simp only [List.length_append]); omega)); (case k9 => (dsimp only [ktrTop, Around.deeper]; omega))); k_whole; intro h' tk' o' tl' rest' F' N' gR' S'; (try k_fold)))
  k_with "call ref" => ((k_here; (with_reducible show wpAny _ _ (call (Value.ref 112) _) _ _ _); k_dflt (refine' path_spec ?k1 ?k2 ?k3 ?k4 ?k5 ?k6 ?k7 ?kd ?k8 ?k9 ?_; (case k7 => assumption); (case k1 => k_asm); (case k2 => k_asm); (case k3 => k_asm); (case k4 => k_asm); (case k5 => k_asm); (case k6 => first | exact rfl | assumption); (case kd => assumption); (case k8 => ((try simp only [List.length_append]); omega)); (case k9 => (dsimp only [ktrTop, Around.deeper]; omega))); k_whole; intro h' tk' o' tl' rest' F' N' gR' S'; (try k_fold)))
  k_with "call ref" => ((k_here; (with_reducible show wpAny _ _ (call (Value.ref 91) _) _ _ _); k_dflt (refine' each1_spec ?k1 ?k2 ?k3 ?k4 ?k5 ?k6 ?k7 ?kd ?k8 ?k9 ?_; (case k4 => exact rot11 (by k_asm)); (case k7 => exact CS.more (by assumption) (by omega)); (case k1 => k_asm); (case k2 => k_asm); (case k3 => k_asm); (case k5 => k_asm); (case k6 => first | exact rfl | assumption); (case kd => exact DatIn.tuple (.head _) (.cons (by walk_at "dat here") .nil)); (case k8 => ((try simp only [List.length_append]); omega)); (case k9 => (dsimp only [ktrTop, Around.deeper]; omega))); k_whole; intro h' tk' o' tl' rest' F' N' gR' S'; (try k_fold)))
  k_with "call ref" => ((k_here; (with_reducible show wpAny _ _ (call (Value.ref 91) _) _ _ _); k_dflt (refine' each2_spec ?k1 ?k2 ?k3 ?k4 ?k5 ?k6 ?k7 ?kd ?k8 ?k9 ?_; (case k4 => exact rot11 (by k_asm)); (case k7 => exact CS.more (by assumption) (by omega)); (case k1 => k_asm); (case k2 => k_asm); (case k3 => k_asm); (case k5 => k_asm); (case k6 => first | exact rfl | assumption); (case kd => exact DatIn.tuple (.head _) (.cons (by walk_at "dat here") (.cons (by walk_at "dat here") .nil))); (case k8 => ((try simp only [List.length_append]); omega)); (case k9 => (dsimp only [ktrTop, Around.deeper]; omega))); k_whole; intro h' tk' o' tl' rest' F' N' gR' S'; (try k_fold)))
  k_with "call ref" => ((k_here; (with_reducible show wpAny _ _ (call (Value.ref 134) _) _ _ _); k_dflt (refine' check_use ?kC ?k1 ?k2 ?k3 ?k4 ?k5 ?k6 ?k7 ?kd ?ko ?k8 ?k9 ?_; (case kC => assumption); (case k7 => assumption); (case k1 => k_asm); (case k2 => k_asm); (case k3 => k_asm); (case k4 => k_asm); (case k5 => k_asm); (case k6 => first | exact rfl | assumption); (case kd => walk_at "dat here"); (case ko => assumption); (case k8 => ((try simp only [List.length_append]); omega)); (case k9 => (dsimp only [ktrTop, Around.deeper]; omega))); k_whole; intro h' tk' o' tl' rest' F' N' gR' S' hl'; (try k_fold)))
  k_with "compareOp Eq str str" => ((k_here; k_dflt (refine str_eqF (by assumption) ?_)))
  obtain ⟨av, nv, u1, u2, u3, rfl, hmv⟩ := dat3_open D
  refine wpAny_call ?_
  k_dflt ((refine' code_def (binds := [(Str.ofString "report", .ref q), (Str.ofString "table", .ref ti), (Str.ofString "lv", .ref av), (Str.ofString "procedural", .bool pr), (Str.ofString "inputs", .bool false)]) ?k1 ?k2 ?k3 ?k4 ?k5 ?kA ?kF ?kK ?k6 ?k7 ?k8 ?k9 ?kB ?_ ?c2 ?c3 ?c4 ?c5; (case kA => exact rfl); (case kF => exact rfl); (case kK => assumption); (case k1 => k_asm); (case k2 => k_asm); (case k3 => k_asm); (case k4 => k_asm); (case k5 => k_asm); (case k6 => k_is); (case k7 => k_is); (case k8 => (dsimp only [ktrTop, recursionLimit]; omega)); (case k9 => (rcases hA with rfl | rfl <;> exact binds_K (by k_in) rfl (by k_is) rfl rfl rfl)); (case c5 => decide); (case kB => exact locs rfl); (case c2 => exact rfl); (case c3 => exact rfl); (case c4 => exact rfl); k_whole; intro g' L' h' FG' F' N' B' X' T'; (try dsimp only); (try k_fold)))
  k_steps
  exact ret _ _ _ _ _ (by k_asm) (by k_asm) (by assumption) (by assumption)
theorem ck_path {w : World} {mean : ExcName → Option Value} {mg mb : Str → Option Value}
    {dp un : Nat} {gd : Option (List Code)} {cn : Str} {cs : Scope} {a : Addr} {ccd : Value} {cl : List (Str × Addr)} {outer : List Env}
    {A₀ : Around} {base h₀ : Heap} {L : Addr} {m : Str → Option Value} {s : Shared} {Q E : Value → Shared → Prop}
    {q ti rw : Addr} {orw : Obj} {T0 rest : Led} {rows : List Dat} {v : Value} {pr : Bool} {args : List Value} (hA : args = [.ref q, .ref ti, v, .bool pr, .bool false] ∨ args = [.ref q, .ref ti, v, .bool pr]) {sp : Int} {x : Option (Int × VN)} {t : Tg}
    (B : Below A₀ base outer h₀) (F : Fr h₀ L s.heap m) (X : (hd.heap_39 w.params).In h₀) (N : News h₀ L s.heap ((rw, orw) :: rest)) (T : TopM mean mg mb h₀)
    (hk : cs.kind = .function) (S : CS w q ti rw orw T0 rest rows) (D : DatIn rest v (pathD sp x)) (e : Tg.exp pr t = expO x) (hsz : rows.length + 1 ≤ 1800000) (hdp : dp < 840)
    (ret : ∀ h' tk' orw' tl rest', Fr h₀ L h' m → News h₀ L h' ((rw, orw') :: rest') → Grow tl rest rest' → CS w q ti rw orw' (tl ++ T0) rest' (rows ++ Tg.exp pr t) → Q .none { s with heap := h', toks := tk' }) :
    wpAny (model PySem.Challenge.rw_on0096_01.row.prog w) (ktrTop dp un gd cn cs L a ccd cl outer) (call (.ref 134) args) Q E s := by
  w_top off
  k_with_none
  k_with "exec Assign" => k_fold
  k_with "exec If" => k_fold
  k_with "exec Expr" => k_fold
  k_with "exec Return some" => k_fold
  k_with "sub here" => (first | exact sub_self | (refine sub_cons ?_; walk_at "sub here") | (refine sub_grow (by assumption) ?_; walk_at "sub here"))
  k_with "dat here" => (first | assumption | exact dat_up (by assumption) (by walk_at "sub here"))
  k_with "mine for" => ((k_here; (rename Fr _ _ _ _ => lF'); (with_unfolding_all refine' For_turns lF' ?_; k_whole)))
  k_with "exec For Name Subscript cons nil" => (walk_at "mine for")
  k_with "pyIter ref" => ((k_here; (with_reducible show wpAny _ _ (pyIter (Value.ref _)) (fun it s₂ => TurnsAt _ _ _ _ _ _ _ _ _ it s₂) _ _); (with_unfolding_all refine' iter_tupTurns ?kh ?kF ?kN (List.mem_cons_of_mem _ ?km) ?kc ?kd ?_; (case kh => rfl); (case kF => k_asm); (case kN => k_asm); (case km => assumption); (case kc => rfl); (case kd => rfl)); intro i' l1; (try k_lt l1); (try dsimp only [List.map])))
  k_with "ItemsRest" => (first | ((with_unfolding_all refine ItemsRest.val (fun h' tk' F' => ?_)); (refine AllObj.cons (fun o' hc' => ?_)); (refine AllObj.nil (fun N' => ?_)); (try simp only [List.cons_append, List.nil_append] at N'); (obtain ⟨N', S'⟩ := turn_in N' (by assumption) (by omega))) | (with_unfolding_all refine ItemsRest.zero (fun h' tk' F' N' => ?_)))
  k_with "UnrEndW" => ((refine turn_end (by k_asm) (by k_asm) (by assumption) (by assumption) (by first | assumption | exact ne_allLt (by tbn_find)) (by omega) (by assumption) (by assumption) ?_; intro rest' gR' S' hI' hk'))
  k_with "subscriptTail Name Slice ref ref" => ((k_here; (with_reducible show wpAny _ _ (subscriptTail _ (PySem.Expr.Slice _ _ none _) (Value.ref _) (Value.ref _)) _ _ _); k_dflt (refine' cut_tuple ?F ?N ?l ?a ?z ?_ ?s ?t; (case F => k_asm); (case N => k_asm); (case l => k_mem); (case a => exact Nat.le_of_ble_eq_true rfl); (case z => exact Nat.le_of_ble_eq_true rfl); (case s => with_unfolding_all rfl); (case t => (intro _; with_unfolding_all rfl))); intro D' h' F' N' l1; (try k_lt l1); (try dsimp only [List.drop] at N')))
  k_with "call ref" => ((k_here; (with_reducible show wpAny _ _ (call (Value.ref 142) _) _ _ _); k_dflt (refine' name_spec ?k1 ?k2 ?k3 ?k4 ?k5 ?k6 ?k7 ?kj ?k8 ?k9 ?_; (case k7 => assumption); (case k1 => k_asm); (case k2 => k_asm); (case k3 => k_asm); (case k4 => k_asm); (case k5 => k_asm); (case k6 => first | exact rfl | assumption); (case kj => assumption); (case k8 => ((try simp only [List.length_append]); omega)); (case k9 => (dsimp only [ktrTop, Around.deeper]; omega))); k_whole; intro h' tk' o' tl' rest' F' N' gR' S'; (try k_fold)))
  k_with "call ref" => ((k_here; (with_reducible show wpAny _ _ (call (Value.ref 112) _) _ _ _); k_dflt (refine' path_spec ?k1 ?k2 ?k3 ?k4 ?k5 ?k6 ?k7 ?kd ?k8 ?k9 ?_; (case k7 => assumption); (case k1 => k_asm); (case k2 => k_asm); (case k3 => k_asm); (case k4 => k_asm); (case k5 => k_asm); (case k6 => first | exact rfl | assumption); (case kd => assumption); (case k8 => ((try simp only [List.length_append]); omega)); (case k9 => (dsimp only [ktrTop, Around.deeper]; omega))); k_whole; intro h' tk' o' tl' rest' F' N' gR' S'; (try k_fold)))
  k_with "call ref" => ((k_here; (with_reducible show wpAny _ _ (call (Value.ref 91) _) _ _ _); k_dflt (refine' each1_spec ?k1 ?k2 ?k3 ?k4 ?k5 ?k6 ?k7 ?kd ?k8 ?k9 ?_; (case k4 => exact rot11 (by k_asm)); (case k7 => exact CS.more (by assumption) (by omega)); (case k1 => k_asm); (case k2 => k_asm); (case k3 => k_asm); (case k5 => k_asm); (case k6 => first | exact rfl | assumption); (case kd => exact DatIn.tuple (.head _) (.cons (by walk_at "dat here") .nil)); (case k8 => ((try simp only [List.length_append]); omega)); (case k9 => (dsimp only [ktrTop, Around.deeper]; omega))); k_whole; intro h' tk' o' tl' rest' F' N' gR' S'; (try k_fold)))
  k_with "call ref" => ((k_here; (with_reducible show wpAny _ _ (call (Value.ref 91) _) _ _ _); k_dflt (refine' each2_spec ?k1 ?k2 ?k3 ?k4 ?k5 ?k6 ?k7 ?kd ?k8 ?k9 ?_; (case k4 => exact rot11 (by k_asm)); (case k7 => exact CS.more (by assumption) (by omega)); (case k1 => k_asm); (case k2 => k_asm); (case k3 => k_asm); (case k5 => k_asm); (case k6 => first | exact rfl | assumption); (case kd => exact DatIn.tuple (.head _) (.cons (by walk_at "dat here") (.cons (by walk_at "dat here") .nil))); (case k8 => ((try simp only [List.length_append]); omega)); (case k9 => (dsimp only [ktrTop, Around.deeper]; omega))); k_whole; intro h' tk' o' tl' rest' F' N' gR' S'; (try k_fold)))
  k_with "call ref" => ((k_here; (with_reducible show wpAny _ _ (call (Value.ref 134) _) _ _ _); k_dflt (refine' check_use ?kC ?k1 ?k2 ?k3 ?k4 ?k5 ?k6 ?k7 ?kd ?ko ?k8 ?k9 ?_; (case kC => assumption); (case k7 => assumption); (case k1 => k_asm); (case k2 => k_asm); (case k3 => k_asm); (case k4 => k_asm); (case k5 => k_asm); (case k6 => first | exact rfl | assumption); (case kd => walk_at "dat here"); (case ko => assumption); (case k8 => ((try simp only [List.length_append]); omega)); (case k9 => (dsimp only [ktrTop, Around.deeper]; omega))); k_whole; intro h' tk' o' tl' rest' F' N' gR' S' hl'; (try k_fold)))
  k_with "compareOp Eq str str" => ((k_here; k_dflt (refine str_eqF (by assumption) ?_)))
  obtain ⟨av, ni, u1, u2, b, nb, p1, p2, n1, n2, u3, vx, u4, rfl, hm, hb, hp1, hp2, D1⟩ := path_open D
  rw [e] at ret
  refine wpAny_call ?_
  k_dflt ((refine' code_def (binds := [(Str.ofString "report", .ref q), (Str.ofString "table", .ref ti), (Str.ofString "lv", .ref av), (Str.ofString "procedural", .bool pr), (Str.ofString "inputs", .bool false)]) ?k1 ?k2 ?k3 ?k4 ?k5 ?kA ?kF ?kK ?k6 ?k7 ?k8 ?k9 ?kB ?_ ?c2 ?c3 ?c4 ?c5; (case kA => exact rfl); (case kF => exact rfl); (case kK => assumption); (case k1 => k_asm); (case k2 => k_asm); (case k3 => k_asm); (case k4 => k_asm); (case k5 => k_asm); (case k6 => k_is); (case k7 => k_is); (case k8 => (dsimp only [ktrTop, recursionLimit]; omega)); (case k9 => (rcases hA with rfl | rfl <;> exact binds_K (by k_in) rfl (by k_is) rfl rfl rfl)); (case c5 => decide); (case kB => exact locs rfl); (case c2 => exact rfl); (case c3 => exact rfl); (case c4 => exact rfl); k_whole; intro g' L' h' FG' F' N' B' X' T'; (try dsimp only); (try k_fold)))
  k_steps
  exact ret _ _ _ _ _ (by k_asm) (by k_asm) (by assumption) (by assumption)
theorem ck_index {w : World} {mean : ExcName → Option Value} {mg mb : Str → Option Value}
    {dp un : Nat} {gd : Option (List Code)} {cn : Str} {cs : Scope} {a : Addr} {ccd : Value} {cl : List (Str × Addr)} {outer : List Env}
    {A₀ : Around} {base h₀ : Heap} {L : Addr} {m : Str → Option Value} {s : Shared} {Q E : Value → Shared → Prop}
    {q ti rw : Addr} {orw : Obj} {T0 rest : Led} {rows : List Dat} {v : Value} {pr : Bool} {args : List Value} (hA : args = [.ref q, .ref ti, v, .bool pr, .bool false] ∨ args = [.ref q, .ref ti, v, .bool pr]) {sp s1 : Int} {v1 : VN} {t : Tg} {l : Nat} (IH : CheckSpec w l)
    (B : Below A₀ base outer h₀) (F : Fr h₀ L s.heap m) (X : (hd.heap_39 w.params).In h₀) (N : News h₀ L s.heap ((rw, orw) :: rest)) (T : TopM mean mg mb h₀)
    (hk : cs.kind = .function) (S : CS w q ti rw orw T0 rest rows) (D : DatIn rest v (Tg.index sp t s1 v1).dat) (ok : t.Ok l) (hsz : rows.length + 4 ^ (l + 1 + 1) ≤ 1800000) (hdp : dp + l < 839)
    (ret : ∀ h' tk' orw' tl rest', Fr h₀ L h' m → News h₀ L h' ((rw, orw') :: rest') → Grow tl rest rest' → CS w q ti rw orw' (tl ++ T0) rest' (rows ++ Tg.exp pr (.index sp t s1 v1)) → Q .none { s with heap := h', toks := tk' }) :
    wpAny (model PySem.Challenge.rw_on0096_01.row.prog w) (ktrTop dp un gd cn cs L a ccd cl outer) (call (.ref 134) args) Q E s := by
  w_top off
  k_with_none
  k_with "exec Assign" => k_fold
  k_with "exec If" => k_fold
  k_with "exec Expr" => k_fold
  k_with "exec Return some" => k_fold
  k_with "sub here" => (first | exact sub_self | (refine sub_cons ?_; walk_at "sub here") | (refine sub_grow (by assumption) ?_; walk_at "sub here"))
  k_with "dat here" => (first | assumption | exact dat_up (by assumption) (by walk_at "sub here"))
  k_with "mine for" => ((k_here; (rename Fr _ _ _ _ => lF'); (with_unfolding_all refine' For_turns lF' ?_; k_whole)))
  k_with "exec For Name Subscript cons nil" => (walk_at "mine for")
  k_with "pyIter ref" => ((k_here; (with_reducible show wpAny _ _ (pyIter (Value.ref _)) (fun it s₂ => TurnsAt _ _ _ _ _ _ _ _ _ it s₂) _ _); (with_unfolding_all refine' iter_tupTurns ?kh ?kF ?kN (List.mem_cons_of_mem _ ?km) ?kc ?kd ?_; (case kh => rfl); (case kF => k_asm); (case kN => k_asm); (case km => assumption); (case kc => rfl); (case kd => rfl)); intro i' l1; (try k_lt l1); (try dsimp only [List.map])))
  k_with "ItemsRest" => (first | ((with_unfolding_all refine ItemsRest.val (fun h' tk' F' => ?_)); (refine AllObj.cons (fun o' hc' => ?_)); (refine AllObj.nil (fun N' => ?_)); (try simp only [List.cons_append, List.nil_append] at N'); (obtain ⟨N', S'⟩ := turn_in N' (by assumption) (by omega))) | (with_unfolding_all refine ItemsRest.zero (fun h' tk' F' N' => ?_)))
  k_with "UnrEndW" => ((refine turn_end (by k_asm) (by k_asm) (by assumption) (by assumption) (by first | assumption | exact ne_allLt (by tbn_find)) (by omega) (by assumption) (by assumption) ?_; intro rest' gR' S' hI' hk'))
  k_with "subscriptTail Name Slice ref ref" => ((k_here; (with_reducible show wpAny _ _ (subscriptTail _ (PySem.Expr.Slice _ _ none _) (Value.ref _) (Value.ref _)) _ _ _); k_dflt (refine' cut_tuple ?F ?N ?l ?a ?z ?_ ?s ?t; (case F => k_asm); (case N => k_asm); (case l => k_mem); (case a => exact Nat.le_of_ble_eq_true rfl); (case z => exact Nat.le_of_ble_eq_true rfl); (case s => with_unfolding_all rfl); (case t => (intro _; with_unfolding_all rfl))); intro D' h' F' N' l1; (try k_lt l1); (try dsimp only [List.drop] at N')))
  k_with "call ref" => ((k_here; (with_reducible show wpAny _ _ (call (Value.ref 142) _) _ _ _); k_dflt (refine' name_spec ?k1 ?k2 ?k3 ?k4 ?k5 ?k6 ?k7 ?kj ?k8 ?k9 ?_; (case k7 => assumption); (case k1 => k_asm); (case k2 => k_asm); (case k3 => k_asm); (case k4 => k_asm); (case k5 => k_asm); (case k6 => first | exact rfl | assumption); (case kj => assumption); (case k8 => ((try simp only [List.length_append]); omega)); (case k9 => (dsimp only [ktrTop, Around.deeper]; omega))); k_whole; intro h' tk' o' tl' rest' F' N' gR' S'; (try k_fold)))
  k_with "call ref" => ((k_here; (with_reducible show wpAny _ _ (call (Value.ref 112) _) _ _ _); k_dflt (refine' path_spec ?k1 ?k2 ?k3 ?k4 ?k5 ?k6 ?k7 ?kd ?k8 ?k9 ?_; (case k7 => assumption); (case k1 => k_asm); (case k2 => k_asm); (case k3 => k_asm); (case k4 => k_asm); (case k5 => k_asm); (case k6 => first | exact rfl | assumption); (case kd => assumption); (case k8 => ((try simp only [List.length_append]); omega)); (case k9 => (dsimp only [ktrTop, Around.deeper]; omega))); k_whole; intro h' tk' o' tl' rest' F' N' gR' S'; (try k_fold)))
  k_with "call ref" => ((k_here; (with_reducible show wpAny _ _ (call (Value.ref 91) _) _ _ _); k_dflt (refine' each1_spec ?k1 ?k2 ?k3 ?k4 ?k5 ?k6 ?k7 ?kd ?k8 ?k9 ?_; (case k4 => exact rot11 (by k_asm)); (case k7 => exact CS.more (by assumption) (by omega)); (case k1 => k_asm); (case k2 => k_asm); (case k3 => k_asm); (case k5 => k_asm); (case k6 => first | exact rfl | assumption); (case kd => exact DatIn.tuple (.head _) (.cons (by walk_at "dat here") .nil)); (case k8 => ((try simp only [List.length_append]); omega)); (case k9 => (dsimp only [ktrTop, Around.deeper]; omega))); k_whole; intro h' tk' o' tl' rest' F' N' gR' S'; (try k_fold)))
  k_with "call ref" => ((k_here; (with_reducible show wpAny _ _ (call (Value.ref 91) _) _ _ _); k_dflt (refine' each2_spec ?k1 ?k2 ?k3 ?k4 ?k5 ?k6 ?k7 ?kd ?k8 ?k9 ?_; (case k4 => exact rot11 (by k_asm)); (case k7 => exact CS.more (by assumption) (by omega)); (case k1 => k_asm); (case k2 => k_asm); (case k3 => k_asm); (case k5 => k_asm); (case k6 => first | exact rfl | assumption); (case kd => exact DatIn.tuple (.head _) (.cons (by walk_at "dat here") (.cons (by walk_at "dat here") .nil))); (case k8 => ((try simp only [List.length_append]); omega)); (case k9 => (dsimp only [ktrTop, Around.deeper]; omega))); k_whole; intro h' tk' o' tl' rest' F' N' gR' S'; (try k_fold)))
  k_with "call ref" => ((k_here; (with_reducible show wpAny _ _ (call (Value.ref 134) _) _ _ _); k_dflt (refine' check_use ?kC ?k1 ?k2 ?k3 ?k4 ?k5 ?k6 ?k7 ?kd ?ko ?k8 ?k9 ?_; (case kC => assumption); (case k7 => assumption); (case k1 => k_asm); (case k2 => k_asm); (case k3 => k_asm); (case k4 => k_asm); (case k5 => k_asm); (case k6 => first | exact rfl | assumption); (case kd => walk_at "dat here"); (case ko => assumption); (case k8 => ((try simp only [List.length_append]); omega)); (case k9 => (dsimp only [ktrTop, Around.deeper]; omega))); k_whole; intro h' tk' o' tl' rest' F' N' gR' S' hl'; (try k_fold)))
  k_with "compareOp Eq str str" => ((k_here; k_dflt (refine str_eqF (by assumption) ?_)))
  obtain ⟨av, nv, u1, u2, w3, w4, rfl, hm, D3, D4⟩ := tup4_open D
  have hp4 : 4 ^ (l + 1 + 1) = 4 * 4 ^ (l + 1) := by rw [Nat.pow_succ]; omega
  have hp1 : 1 ≤ 4 ^ (l + 1) := Nat.pow_pos (by decide)
  refine wpAny_call ?_
  k_dflt ((refine' code_def (binds := [(Str.ofString "report", .ref q), (Str.ofString "table", .ref ti), (Str.ofString "lv", .ref av), (Str.ofString "procedural", .bool pr), (Str.ofString "inputs", .bool false)]) ?k1 ?k2 ?k3 ?k4 ?k5 ?kA ?kF ?kK ?k6 ?k7 ?k8 ?k9 ?kB ?_ ?c2 ?c3 ?c4 ?c5; (case kA => exact rfl); (case kF => exact rfl); (case kK => assumption); (case k1 => k_asm); (case k2 => k_asm); (case k3 => k_asm); (case k4 => k_asm); (case k5 => k_asm); (case k6 => k_is); (case k7 => k_is); (case k8 => (dsimp only [ktrTop, recursionLimit]; omega)); (case k9 => (rcases hA with rfl | rfl <;> exact binds_K (by k_in) rfl (by k_is) rfl rfl rfl)); (case c5 => decide); (case kB => exact locs rfl); (case c2 => exact rfl); (case c3 => exact rfl); (case c4 => exact rfl); k_whole; intro g' L' h' FG' F' N' B' X' T'; (try dsimp only); (try k_fold)))
  k_steps
  exact ret _ _ _ _ _ (by k_asm) (by k_asm) (Grow.trans (by assumption) (Grow.trans (grow_one (by tbn_find)) (by assumption))) (CS.re (by assumption) (by simp only [List.append_assoc, List.cons_append, List.nil_append]) (by simp only [Tg.exp, List.append_assoc]))
theorem ck_sel {w : World} {mean : ExcName → Option Value} {mg mb : Str → Option Value}
    {dp un : Nat} {gd : Option (List Code)} {cn : Str} {cs : Scope} {a : Addr} {ccd : Value} {cl : List (Str × Addr)} {outer : List Env}
    {A₀ : Around} {base h₀ : Heap} {L : Addr} {m : Str → Option Value} {s : Shared} {Q E : Value → Shared → Prop}
    {q ti rw : Addr} {orw : Obj} {T0 rest : Led} {rows : List Dat} {v : Value} {pr : Bool} {args : List Value} (hA : args = [.ref q, .ref ti, v, .bool pr, .bool false] ∨ args = [.ref q, .ref ti, v, .bool pr]) {sp s1 s2 : Int} {v1 v2 : VN} {t : Tg} {l : Nat} {x : Str} (hx : selWord x) (IH : CheckSpec w l)
    (B : Below A₀ base outer h₀) (F : Fr h₀ L s.heap m) (X : (hd.heap_39 w.params).In h₀) (N : News h₀ L s.heap ((rw, orw) :: rest)) (T : TopM mean mg mb h₀)
    (hk : cs.kind = .function) (S : CS w q ti rw orw T0 rest rows) (D : DatIn rest v (Tg.sel x sp t s1 v1 s2 v2).dat) (ok : t.Ok l) (hsz : rows.length + 4 ^ (l + 1 + 1) ≤ 1800000) (hdp : dp + l < 839)
    (ret : ∀ h' tk' orw' tl rest', Fr h₀ L h' m → News h₀ L h' ((rw, orw') :: rest') → Grow tl rest rest' → CS w q ti rw orw' (tl ++ T0) rest' (rows ++ Tg.exp pr (.sel x sp t s1 v1 s2 v2)) → Q .none { s with heap := h', toks := tk' }) :
    wpAny (model PySem.Challenge.rw_on0096_01.row.prog w) (ktrTop dp un gd cn cs L a ccd cl outer) (call (.ref 134) args) Q E s := by
  w_top off
  k_with_none
  k_with "exec Assign" => k_fold
  k_with "exec If" => k_fold
  k_with "exec Expr" => k_fold
  k_with "exec Return some" => k_fold
  k_with "sub here" => (first | exact sub_self | (refine sub_cons ?_; walk_at "sub here") | (refine sub_grow (by assumption) ?_; walk_at "sub here"))
  k_with "dat here" => (first | assumption | exact dat_up (by assumption) (by walk_at "sub here"))
  k_with "mine for" => ((k_here; (rename Fr _ _ _ _ => lF'); (with_unfolding_all refine' For_turns lF' ?_; k_whole)))
  k_with "exec For Name Subscript cons nil" => (walk_at "mine for")
  k_with "pyIter ref" => ((k_here; (with_reducible show wpAny _ _ (pyIter (Value.ref _)) (fun it s₂ => TurnsAt _ _ _ _ _ _ _ _ _ it s₂) _ _); (with_unfolding_all refine' iter_tupTurns ?kh ?kF ?kN (List.mem_cons_of_mem _ ?km) ?kc ?kd ?_; (case kh => rfl); (case kF => k_asm); (case kN => k_asm); (case km => assumption); (case kc => rfl); (case kd => rfl)); intro i' l1; (try k_lt l1); (try dsimp only [List.map])))
  k_with "ItemsRest" => (first | ((with_unfolding_all refine ItemsRest.val (fun h' tk' F' => ?_)); (refine AllObj.cons (fun o' hc' => ?_)); (refine AllObj.nil (fun N' => ?_)); (try simp only [List.cons_append, List.nil_append] at N'); (obtain ⟨N', S'⟩ := turn_in N' (by assumption) (by omega))) | (with_unfolding_all refine ItemsRest.zero (fun h' tk' F' N' => ?_)))
  k_with "UnrEndW" => ((refine turn_end (by k_asm) (by k_asm) (by assumption) (by assumption) (by first | assumption | exact ne_allLt (by tbn_find)) (by omega) (by assumption) (by assumption) ?_; intro rest' gR' S' hI' hk'))
  k_with "subscriptTail Name Slice ref ref" => ((k_here; (with_reducible show wpAny _ _ (subscriptTail _ (PySem.Expr.Slice _ _ none _) (Value.ref _) (Value.ref _)) _ _ _); k_dflt (refine' cut_tuple ?F ?N ?l ?a ?z ?_ ?s ?t; (case F => k_asm); (case N => k_asm); (case l => k_mem); (case a => exact Nat.le_of_ble_eq_true rfl); (case z => exact Nat.le_of_ble_eq_true rfl); (case s => with_unfolding_all rfl); (case t => (intro _; with_unfolding_all rfl))); intro D' h' F' N' l1; (try k_lt l1); (try dsimp only [List.drop] at N')))
  k_with "call ref" => ((k_here; (with_reducible show wpAny _ _ (call (Value.ref 142) _) _ _ _); k_dflt (refine' name_spec ?k1 ?k2 ?k3 ?k4 ?k5 ?k6 ?k7 ?kj ?k8 ?k9 ?_; (case k7 => assumption); (case k1 => k_asm); (case k2 => k_asm); (case k3 => k_asm); (case k4 => k_asm); (case k5 => k_asm); (case k6 => first | exact rfl | assumption); (case kj => assumption); (case k8 => ((try simp only [List.length_append]); omega)); (case k9 => (dsimp only [ktrTop, Around.deeper]; omega))); k_whole; intro h' tk' o' tl' rest' F' N' gR' S'; (try k_fold)))
  k_with "call ref" => ((k_here; (with_reducible show wpAny _ _ (call (Value.ref 112) _) _ _ _); k_dflt (refine' path_spec ?k1 ?k2 ?k3 ?k4 ?k5 ?k6 ?k7 ?kd ?k8 ?k9 ?_; (case k7 => assumption); (case k1 => k_asm); (case k2 => k_asm); (case k3 => k_asm); (case k4 => k_asm); (case k5 => k_asm); (case k6 => first | exact rfl | assumption); (case kd => assumption); (case k8 => ((try simp only [List.length_append]); omega)); (case k9 => (dsimp only [ktrTop, Around.deeper]; omega))); k_whole; intro h' tk' o' tl' rest' F' N' gR' S'; (try k_fold)))
  k_with "call ref" => ((k_here; (with_reducible show wpAny _ _ (call (Value.ref 91) _) _ _ _); k_dflt (refine' each1_spec ?k1 ?k2 ?k3 ?k4 ?k5 ?k6 ?k7 ?kd ?k8 ?k9 ?_; (case k4 => exact rot11 (by k_asm)); (case k7 => exact CS.more (by assumption) (by omega)); (case k1 => k_asm); (case k2 => k_asm); (case k3 => k_asm); (case k5 => k_asm); (case k6 => first | exact rfl | assumption); (case kd => exact DatIn.tuple (.head _) (.cons (by walk_at "dat here") .nil)); (case k8 => ((try simp only [List.length_append]); omega)); (case k9 => (dsimp only [ktrTop, Around.deeper]; omega))); k_whole; intro h' tk' o' tl' rest' F' N' gR' S'; (try k_fold)))
  k_with "call ref" => ((k_here; (with_reducible show wpAny _ _ (call (Value.ref 91) _) _ _ _); k_dflt (refine' each2_spec ?k1 ?k2 ?k3 ?k4 ?k5 ?k6 ?k7 ?kd ?k8 ?k9 ?_; (case k4 => exact rot11 (by k_asm)); (case k7 => exact CS.more (by assumption) (by omega)); (case k1 => k_asm); (case k2 => k_asm); (case k3 => k_asm); (case k5 => k_asm); (case k6 => first | exact rfl | assumption); (case kd => exact DatIn.tuple (.head _) (.cons (by walk_at "dat here") (.cons (by walk_at "dat here") .nil))); (case k8 => ((try simp only [List.length_append]); omega)); (case k9 => (dsimp only [ktrTop, Around.deeper]; omega))); k_whole; intro h' tk' o' tl' rest' F' N' gR' S'; (try k_fold)))
  k_with "call ref" => ((k_here; (with_reducible show wpAny _ _ (call (Value.ref 134) _) _ _ _); k_dflt (refine' check_use ?kC ?k1 ?k2 ?k3 ?k4 ?k5 ?k6 ?k7 ?kd ?ko ?k8 ?k9 ?_; (case kC => assumption); (case k7 => assumption); (case k1 => k_asm); (case k2 => k_asm); (case k3 => k_asm); (case k4 => k_asm); (case k5 => k_asm); (case k6 => first | exact rfl | assumption); (case kd => walk_at "dat here"); (case ko => assumption); (case k8 => ((try simp only [List.length_append]); omega)); (case k9 => (dsimp only [ktrTop, Around.deeper]; omega))); k_whole; intro h' tk' o' tl' rest' F' N' gR' S' hl'; (try k_fold)))
  k_with "compareOp Eq str str" => ((k_here; k_dflt (refine str_eqF (by assumption) ?_)))
  obtain ⟨av, nv, u1, u2, w3, w4, w5, rfl, hm, D3, D4, D5⟩ := tup5_open D
  have hp4 : 4 ^ (l + 1 + 1) = 4 * 4 ^ (l + 1) := by rw [Nat.pow_succ]; omega
  have hp1 : 1 ≤ 4 ^ (l + 1) := Nat.pow_pos (by decide)
  have hp2 : 4 ≤ 4 ^ (l + 1) := by rw [Nat.pow_succ]; have := Nat.pow_pos (n := l) (show 0 < 4 by decide); omega
  obtain ⟨x1, x2, x3⟩ := sel_ne hx
  refine wpAny_call ?_
  k_dflt ((refine' code_def (binds := [(Str.ofString "report", .ref q), (Str.ofString "table", .ref ti), (Str.ofString "lv", .ref av), (Str.ofString "procedural", .bool pr), (Str.ofString "inputs", .bool false)]) ?k1 ?k2 ?k3 ?k4 ?k5 ?kA ?kF ?kK ?k6 ?k7 ?k8 ?k9 ?kB ?_ ?c2 ?c3 ?c4 ?c5; (case kA => exact rfl); (case kF => exact rfl); (case kK => assumption); (case k1 => k_asm); (case k2 => k_asm); (case k3 => k_asm); (case k4 => k_asm); (case k5 => k_asm); (case k6 => k_is); (case k7 => k_is); (case k8 => (dsimp only [ktrTop, recursionLimit]; omega)); (case k9 => (rcases hA with rfl | rfl <;> exact binds_K (by k_in) rfl (by k_is) rfl rfl rfl)); (case c5 => decide); (case kB => exact locs rfl); (case c2 => exact rfl); (case c3 => exact rfl); (case c4 => exact rfl); k_whole; intro g' L' h' FG' F' N' B' X' T'; (try dsimp only); (try k_fold)))
  k_steps
  exact ret _ _ _ _ _ (by k_asm) (by k_asm) (Grow.trans (by assumption) (Grow.trans (grow_one (by tbn_find)) (by assumption))) (CS.re (by assumption) (by simp only [List.append_assoc, List.cons_append, List.nil_append]) (by simp only [Tg.exp, List.append_assoc]))
theorem ck_cat1 {w : World} {mean : ExcName → Option Value} {mg mb : Str → Option Value}
    {dp un : Nat} {gd : Option (List Code)} {cn : Str} {cs : Scope} {a : Addr} {ccd : Value} {cl : List (Str × Addr)} {outer : List Env}
    {A₀ : Around} {base h₀ : Heap} {L : Addr} {m : Str → Option Value} {s : Shared} {Q E : Value → Shared → Prop}
    {q ti rw : Addr} {orw : Obj} {T0 rest : Led} {rows : List Dat} {v : Value} {pr : Bool} {args : List Value} (hA : args = [.ref q, .ref ti, v, .bool pr, .bool false] ∨ args = [.ref q, .ref ti, v, .bool pr]) {sp : Int} {t : Tg} {l : Nat} (IH : CheckSpec w l)
    (B : Below A₀ base outer h₀) (F : Fr h₀ L s.heap m) (X : (hd.heap_39 w.params).In h₀) (N : News h₀ L s.heap ((rw, orw) :: rest)) (T : TopM mean mg mb h₀)
    (hk : cs.kind = .function) (S : CS w q ti rw orw T0 rest rows) (D : DatIn rest v (Tg.cat1 sp t).dat) (ok1 : t.Ok l) (hsz : rows.length + 4 ^ (l + 1 + 1) ≤ 1800000) (hdp : dp + l < 839)
    (ret : ∀ h' tk' orw' tl rest', Fr h₀ L h' m → News h₀ L h' ((rw, orw') :: rest') → Grow tl rest rest' → CS w q ti rw orw' (tl ++ T0) rest' (rows ++ Tg.exp pr (.cat1 sp t)) → Q .none { s with heap := h', toks := tk' }) :
    wpAny (model PySem.Challenge.rw_on0096_01.row.prog w) (ktrTop dp un gd cn cs L a ccd cl outer) (call (.ref 134) args) Q E s := by
  w_top off
  k_with_none
  k_with "exec Assign" => k_fold
  k_with "exec If" => k_fold
  k_with "exec Expr" => k_fold
  k_with "exec Return some" => k_fold
  k_with "sub here" => (first | exact sub_self | (refine sub_cons ?_; walk_at "sub here") | (refine sub_grow (by assumption) ?_; walk_at "sub here"))
  k_with "dat here" => (first | assumption | exact dat_up (by assumption) (by walk_at "sub here"))
  k_with "mine for" => ((k_here; (rename Fr _ _ _ _ => lF'); (with_unfolding_all refine' For_turns lF' ?_; k_whole)))
  k_with "exec For Name Subscript cons nil" => (walk_at "mine for")
  k_with "pyIter ref" => ((k_here; (with_reducible show wpAny _ _ (pyIter (Value.ref _)) (fun it s₂ => TurnsAt _ _ _ _ _ _ _ _ _ it s₂) _ _); (with_unfolding_all refine' iter_tupTurns ?kh ?kF ?kN (List.mem_cons_of_mem _ ?km) ?kc ?kd ?_; (case kh => rfl); (case kF => k_asm); (case kN => k_asm); (case km => assumption); (case kc => rfl); (case kd => rfl)); intro i' l1; (try k_lt l1); (try dsimp only [List.map])))
  k_with "ItemsRest" => (first | ((with_unfolding_all refine ItemsRest.val (fun h' tk' F' => ?_)); (refine AllObj.cons (fun o' hc' => ?_)); (refine AllObj.nil (fun N' => ?_)); (try simp only [List.cons_append, List.nil_append] at N'); (obtain ⟨N', S'⟩ := turn_in N' (by assumption) (by omega))) | (with_unfolding_all refine ItemsRest.zero (fun h' tk' F' N' => ?_)))
  k_with "UnrEndW" => ((refine turn_end (by k_asm) (by k_asm) (by assumption) (by assumption) (by first | assumption | exact ne_allLt (by tbn_find)) (by omega) (by assumption) (by assumption) ?_; intro rest' gR' S' hI' hk'))
  k_with "subscriptTail Name Slice ref ref" => ((k_here; (with_reducible show wpAny _ _ (subscriptTail _ (PySem.Expr.Slice _ _ none _) (Value.ref _) (Value.ref _)) _ _ _); k_dflt (refine' cut_tuple ?F ?N ?l ?a ?z ?_ ?s ?t; (case F => k_asm); (case N => k_asm); (case l => k_mem); (case a => exact Nat.le_of_ble_eq_true rfl); (case z => exact Nat.le_of_ble_eq_true rfl); (case s => with_unfolding_all rfl); (case t => (intro _; with_unfolding_all rfl))); intro D' h' F' N' l1; (try k_lt l1); (try dsimp only [List.drop] at N')))
  k_with "call ref" => ((k_here; (with_reducible show wpAny _ _ (call (Value.ref 142) _) _ _ _); k_dflt (refine' name_spec ?k1 ?k2 ?k3 ?k4 ?k5 ?k6 ?k7 ?kj ?k8 ?k9 ?_; (case k7 => assumption); (case k1 => k_asm); (case k2 => k_asm); (case k3 => k_asm); (case k4 => k_asm); (case k5 => k_asm); (case k6 => first | exact rfl | assumption); (case kj => assumption); (case k8 => ((try simp only [List.length_append]); omega)); (case k9 => (dsimp only [ktrTop, Around.deeper]; omega))); k_whole; intro h' tk' o' tl' rest' F' N' gR' S'; (try k_fold)))
  k_with "call ref" => ((k_here; (with_reducible show wpAny _ _ (call (Value.ref 112) _) _ _ _); k_dflt (refine' path_spec ?k1 ?k2 ?k3 ?k4 ?k5 ?k6 ?k7 ?kd ?k8 ?k9 ?_; (case k7 => assumption); (case k1 => k_asm); (case k2 => k_asm); (case k3 => k_asm); (case k4 => k_asm); (case k5 => k_asm); (case k6 => first | exact rfl | assumption); (case kd => assumption); (case k8 => ((try simp only [List.length_append]); omega)); (case k9 => (dsimp only [ktrTop, Around.deeper]; omega))); k_whole; intro h' tk' o' tl' rest' F' N' gR' S'; (try k_fold)))
  k_with "call ref" => ((k_here; (with_reducible show wpAny _ _ (call (Value.ref 91) _) _ _ _); k_dflt (refine' each1_spec ?k1 ?k2 ?k3 ?k4 ?k5 ?k6 ?k7 ?kd ?k8 ?k9 ?_; (case k4 => exact rot11 (by k_asm)); (case k7 => exact CS.more (by assumption) (by omega)); (case k1 => k_asm); (case k2 => k_asm); (case k3 => k_asm); (case k5 => k_asm); (case k6 => first | exact rfl | assumption); (case kd => exact DatIn.tuple (.head _) (.cons (by walk_at "dat here") .nil)); (case k8 => ((try simp only [List.length_append]); omega)); (case k9 => (dsimp only [ktrTop, Around.deeper]; omega))); k_whole; intro h' tk' o' tl' rest' F' N' gR' S'; (try k_fold)))
  k_with "call ref" => ((k_here; (with_reducible show wpAny _ _ (call (Value.ref 91) _) _ _ _); k_dflt (refine' each2_spec ?k1 ?k2 ?k3 ?k4 ?k5 ?k6 ?k7 ?kd ?k8 ?k9 ?_; (case k4 => exact rot11 (by k_asm)); (case k7 => exact CS.more (by assumption) (by omega)); (case k1 => k_asm); (case k2 => k_asm); (case k3 => k_asm); (case k5 => k_asm); (case k6 => first | exact rfl | assumption); (case kd => exact DatIn.tuple (.head _) (.cons (by walk_at "dat here") (.cons (by walk_at "dat here") .nil))); (case k8 => ((try simp only [List.length_append]); omega)); (case k9 => (dsimp only [ktrTop, Around.deeper]; omega))); k_whole; intro h' tk' o' tl' rest' F' N' gR' S'; (try k_fold)))
  k_with "call ref" => ((k_here; (with_reducible show wpAny _ _ (call (Value.ref 134) _) _ _ _); k_dflt (refine' check_use ?kC ?k1 ?k2 ?k3 ?k4 ?k5 ?k6 ?k7 ?kd ?ko ?k8 ?k9 ?_; (case kC => assumption); (case k7 => assumption); (case k1 => k_asm); (case k2 => k_asm); (case k3 => k_asm); (case k4 => k_asm); (case k5 => k_asm); (case k6 => first | exact rfl | assumption); (case kd => walk_at "dat here"); (case ko => assumption); (case k8 => ((try simp only [List.length_append]); omega)); (case k9 => (dsimp only [ktrTop, Around.deeper]; omega))); k_whole; intro h' tk' o' tl' rest' F' N' gR' S' hl'; (try k_fold)))
  k_with "compareOp Eq str str" => ((k_here; k_dflt (refine str_eqF (by assumption) ?_)))
  obtain ⟨av, bv, nv, nb, u1, u2, vs0, rfl, hm, hb, R0⟩ := list_open D
  obtain ⟨x1, vs1, rfl, E1, R1⟩ := all_cons R0
  obtain rfl := all_nil R1
  have hp4 : 4 ^ (l + 1 + 1) = 4 * 4 ^ (l + 1) := by rw [Nat.pow_succ]; omega
  have hp1 : 1 ≤ 4 ^ (l + 1) := Nat.pow_pos (by decide)
  refine wpAny_call ?_
  k_dflt ((refine' code_def (binds := [(Str.ofString "report", .ref q), (Str.ofString "table", .ref ti), (Str.ofString "lv", .ref av), (Str.ofString "procedural", .bool pr), (Str.ofString "inputs", .bool false)]) ?k1 ?k2 ?k3 ?k4 ?k5 ?kA ?kF ?kK ?k6 ?k7 ?k8 ?k9 ?kB ?_ ?c2 ?c3 ?c4 ?c5; (case kA => exact rfl); (case kF => exact rfl); (case kK => assumption); (case k1 => k_asm); (case k2 => k_asm); (case k3 => k_asm); (case k4 => k_asm); (case k5 => k_asm); (case k6 => k_is); (case k7 => k_is); (case k8 => (dsimp only [ktrTop, recursionLimit]; omega)); (case k9 => (rcases hA with rfl | rfl <;> exact binds_K (by k_in) rfl (by k_is) rfl rfl rfl)); (case c5 => decide); (case kB => exact locs rfl); (case c2 => exact rfl); (case c3 => exact rfl); (case c4 => exact rfl); k_whole; intro g' L' h' FG' F' N' B' X' T'; (try dsimp only); (try k_fold)))
  k_steps
  exact ret _ _ _ _ _ (by k_asm) (by k_asm) (by assumption) (CS.re (by assumption) (by simp only [List.append_assoc]) (by simp only [Tg.exp, List.append_assoc]))
theorem ck_cat2 {w : World} {mean : ExcName → Option Value} {mg mb : Str → Option Value}
    {dp un : Nat} {gd : Option (List Code)} {cn : Str} {cs : Scope} {a : Addr} {ccd : Value} {cl : List (Str × Addr)} {outer : List Env}
    {A₀ : Around} {base h₀ : Heap} {L : Addr} {m : Str → Option Value} {s : Shared} {Q E : Value → Shared → Prop}
    {q ti rw : Addr} {orw : Obj} {T0 rest : Led} {rows : List Dat} {v : Value} {pr : Bool} {args : List Value} (hA : args = [.ref q, .ref ti, v, .bool pr, .bool false] ∨ args = [.ref q, .ref ti, v, .bool pr]) {sp : Int} {t t2 : Tg} {l : Nat} (IH : CheckSpec w l)
    (B : Below A₀ base outer h₀) (F : Fr h₀ L s.heap m) (X : (hd.heap_39 w.params).In h₀) (N : News h₀ L s.heap ((rw, orw) :: rest)) (T : TopM mean mg mb h₀)
    (hk : cs.kind = .function) (S : CS w q ti rw orw T0 rest rows) (D : DatIn rest v (Tg.cat2 sp t t2).dat) (ok1 : t.Ok l) (ok2 : t2.Ok l) (hsz : rows.length + 4 ^ (l + 1 + 1) ≤ 1800000) (hdp : dp + l < 839)
    (ret : ∀ h' tk' orw' tl rest', Fr h₀ L h' m → News h₀ L h' ((rw, orw') :: rest') → Grow tl rest rest' → CS w q ti rw orw' (tl ++ T0) rest' (rows ++ Tg.exp pr (.cat2 sp t t2)) → Q .none { s with heap := h', toks := tk' }) :
    wpAny (model PySem.Challenge.rw_on0096_01.row.prog w) (ktrTop dp un gd cn cs L a ccd cl outer) (call (.ref 134) args) Q E s := by
  w_top off
  k_with_none
  k_with "exec Assign" => k_fold
  k_with "exec If" => k_fold
  k_with "exec Expr" => k_fold
  k_with "exec Return some" => k_fold
  k_with "sub here" => (first | exact sub_self | (refine sub_cons ?_; walk_at "sub here") | (refine sub_grow (by assumption) ?_; walk_at "sub here"))
  k_with "dat here" => (first | assumption | exact dat_up (by assumption) (by walk_at "sub here"))
  k_with "mine for" => ((k_here; (rename Fr _ _ _ _ => lF'); (with_unfolding_all refine' For_turns lF' ?_; k_whole)))
  k_with "exec For Name Subscript cons nil" => (walk_at "mine for")
  k_with "pyIter ref" => ((k_here; (with_reducible show wpAny _ _ (pyIter (Value.ref _)) (fun it s₂ => TurnsAt _ _ _ _ _ _ _ _ _ it s₂) _ _); (with_unfolding_all refine' iter_tupTurns ?kh ?kF ?kN (List.mem_cons_of_mem _ ?km) ?kc ?kd ?_; (case kh => rfl); (case kF => k_asm); (case kN => k_asm); (case km => assumption); (case kc => rfl); (case kd => rfl)); intro i' l1; (try k_lt l1); (try dsimp only [List.map])))
  k_with "ItemsRest" => (first | ((with_unfolding_all refine ItemsRest.val (fun h' tk' F' => ?_)); (refine AllObj.cons (fun o' hc' => ?_)); (refine AllObj.nil (fun N' => ?_)); (try simp only [List.cons_append, List.nil_append] at N'); (obtain ⟨N', S'⟩ := turn_in N' (by assumption) (by omega))) | (with_unfolding_all refine ItemsRest.zero (fun h' tk' F' N' => ?_)))
  k_with "UnrEndW" => ((refine turn_end (by k_asm) (by k_asm) (by assumption) (by assumption) (by first | assumption | exact ne_allLt (by tbn_find)) (by omega) (by assumption) (by assumption) ?_; intro rest' gR' S' hI' hk'))
  k_with "subscriptTail Name Slice ref ref" => ((k_here; (with_reducible show wpAny _ _ (subscriptTail _ (PySem.Expr.Slice _ _ none _) (Value.ref _) (Value.ref _)) _ _ _); k_dflt (refine' cut_tuple ?F ?N ?l ?a ?z ?_ ?s ?t; (case F => k_asm); (case N => k_asm); (case l => k_mem); (case a => exact Nat.le_of_ble_eq_true rfl); (case z => exact Nat.le_of_ble_eq_true rfl); (case s => with_unfolding_all rfl); (case t => (intro _; with_unfolding_all rfl))); intro D' h' F' N' l1; (try k_lt l1); (try dsimp only [List.drop] at N')))
  k_with "call ref" => ((k_here; (with_reducible show wpAny _ _ (call (Value.ref 142) _) _ _ _); k_dflt (refine' name_spec ?k1 ?k2 ?k3 ?k4 ?k5 ?k6 ?k7 ?kj ?k8 ?k9 ?_; (case k7 => assumption); (case k1 => k_asm); (case k2 => k_asm); (case k3 => k_asm); (case k4 => k_asm); (case k5 => k_asm); (case k6 => first | exact rfl | assumption); (case kj => assumption); (case k8 => ((try simp only [List.length_append]); omega)); (case k9 => (dsimp only [ktrTop, Around.deeper]; omega))); k_whole; intro h' tk' o' tl' rest' F' N' gR' S'; (try k_fold)))
  k_with "call ref" => ((k_here; (with_reducible show wpAny _ _ (call (Value.ref 112) _) _ _ _); k_dflt (refine' path_spec ?k1 ?k2 ?k3 ?k4 ?k5 ?k6 ?k7 ?kd ?k8 ?k9 ?_; (case k7 => assumption); (case k1 => k_asm); (case k2 => k_asm); (case k3 => k_asm); (case k4 => k_asm); (case k5 => k_asm); (case k6 => first | exact rfl | assumption); (case kd => assumption); (case k8 => ((try simp only [List.length_append]); omega)); (case k9 => (dsimp only [ktrTop, Around.deeper]; omega))); k_whole; intro h' tk' o' tl' rest' F' N' gR' S'; (try k_fold)))
  k_with "call ref" => ((k_here; (with_reducible show wpAny _ _ (call (Value.ref 91) _) _ _ _); k_dflt (refine' each1_spec ?k1 ?k2 ?k3 ?k4 ?k5 ?k6 ?k7 ?kd ?k8 ?k9 ?_; (case k4 => exact rot11 (by k_asm)); (case k7 => exact CS.more (by assumption) (by omega)); (case k1 => k_asm); (case k2 => k_asm); (case k3 => k_asm); (case k5 => k_asm); (case k6 => first | exact rfl | assumption); (case kd => exact DatIn.tuple (.head _) (.cons (by walk_at "dat here") .nil)); (case k8 => ((try simp only [List.length_append]); omega)); (case k9 => (dsimp only [ktrTop, Around.deeper]; omega))); k_whole; intro h' tk' o' tl' rest' F' N' gR' S'; (try k_fold)))
  k_with "call ref" => ((k_here; (with_reducible show wpAny _ _ (call (Value.ref 91) _) _ _ _); k_dflt (refine' each2_spec ?k1 ?k2 ?k3 ?k4 ?k5 ?k6 ?k7 ?kd ?k8 ?k9 ?_; (case k4 => exact rot11 (by k_asm)); (case k7 => exact CS.more (by assumption) (by omega)); (case k1 => k_asm); (case k2 => k_asm); (case k3 => k_asm); (case k5 => k_asm); (case k6 => first | exact rfl | assumption); (case kd => exact DatIn.tuple (.head _) (.cons (by walk_at "dat here") (.cons (by walk_at "dat here") .nil))); (case k8 => ((try simp only [List.length_append]); omega)); (case k9 => (dsimp only [ktrTop, Around.deeper]; omega))); k_whole; intro h' tk' o' tl' rest' F' N' gR' S'; (try k_fold)))
  k_with "call ref" => ((k_here; (with_reducible show wpAny _ _ (call (Value.ref 134) _) _ _ _); k_dflt (refine' check_use ?kC ?k1 ?k2 ?k3 ?k4 ?k5 ?k6 ?k7 ?kd ?ko ?k8 ?k9 ?_; (case kC => assumption); (case k7 => assumption); (case k1 => k_asm); (case k2 => k_asm); (case k3 => k_asm); (case k4 => k_asm); (case k5 => k_asm); (case k6 => first | exact rfl | assumption); (case kd => walk_at "dat here"); (case ko => assumption); (case k8 => ((try simp only [List.length_append]); omega)); (case k9 => (dsimp only [ktrTop, Around.deeper]; omega))); k_whole; intro h' tk' o' tl' rest' F' N' gR' S' hl'; (try k_fold)))
  k_with "compareOp Eq str str" => ((k_here; k_dflt (refine str_eqF (by assumption) ?_)))
  obtain ⟨av, bv, nv, nb, u1, u2, vs0, rfl, hm, hb, R0⟩ := list_open D
  obtain ⟨x1, vs1, rfl, E1, R1⟩ := all_cons R0
  obtain ⟨x2, vs2, rfl, E2, R2⟩ := all_cons R1
  obtain rfl := all_nil R2
  have hp4 : 4 ^ (l + 1 + 1) = 4 * 4 ^ (l + 1) := by rw [Nat.pow_succ]; omega
  have hp1 : 1 ≤ 4 ^ (l + 1) := Nat.pow_pos (by decide)
  refine wpAny_call ?_
  k_dflt ((refine' code_def (binds := [(Str.ofString "report", .ref q), (Str.ofString "table", .ref ti), (Str.ofString "lv", .ref av), (Str.ofString "procedural", .bool pr), (Str.ofString "inputs", .bool false)]) ?k1 ?k2 ?k3 ?k4 ?k5 ?kA ?kF ?kK ?k6 ?k7 ?k8 ?k9 ?kB ?_ ?c2 ?c3 ?c4 ?c5; (case kA => exact rfl); (case kF => exact rfl); (case kK => assumption); (case k1 => k_asm); (case k2 => k_asm); (case k3 => k_asm); (case k4 => k_asm); (case k5 => k_asm); (case k6 => k_is); (case k7 => k_is); (case k8 => (dsimp only [ktrTop, recursionLimit]; omega)); (case k9 => (rcases hA with rfl | rfl <;> exact binds_K (by k_in) rfl (by k_is) rfl rfl rfl)); (case c5 => decide); (case kB => exact locs rfl); (case c2 => exact rfl); (case c3 => exact rfl); (case c4 => exact rfl); k_whole; intro g' L' h' FG' F' N' B' X' T'; (try dsimp only); (try k_fold)))
  k_steps
  exact ret _ _ _ _ _ (by k_asm) (by k_asm) (Grow.trans (by assumption) (by assumption)) (CS.re (by assumption) (by simp only [List.append_assoc]) (by simp only [Tg.exp, List.append_assoc]))
theorem ck_cat3 {w : World} {mean : ExcName → Option Value} {mg mb : Str → Option Value}
    {dp un : Nat} {gd : Option (List Code)} {cn : Str} {cs : Scope} {a : Addr} {ccd : Value} {cl : List (Str × Addr)} {outer : List Env}
    {A₀ : Around} {base h₀ : Heap} {L : Addr} {m : Str → Option Value} {s : Shared} {Q E : Value → Shared → Prop}
    {q ti rw : Addr} {orw : Obj} {T0 rest : Led} {rows : List Dat} {v : Value} {pr : Bool} {args : List Value} (hA : args = [.ref q, .ref ti, v, .bool pr, .bool false] ∨ args = [.ref q, .ref ti, v, .bool pr]) {sp : Int} {t t2 t3 : Tg} {l : Nat} (IH : CheckSpec w l)
    (B : Below A₀ base outer h₀) (F : Fr h₀ L s.heap m) (X : (hd.heap_39 w.params).In h₀) (N : News h₀ L s.heap ((rw, orw) :: rest)) (T : TopM mean mg mb h₀)
    (hk : cs.kind = .function) (S : CS w q ti rw orw T0 rest rows) (D : DatIn rest v (Tg.cat3 sp t t2 t3).dat) (ok1 : t.Ok l) (ok2 : t2.Ok l) (ok3 : t3.Ok l) (hsz : rows.length + 4 ^ (l + 1 + 1) ≤ 1800000) (hdp : dp + l < 839)
    (ret : ∀ h' tk' orw' tl rest', Fr h₀ L h' m → News h₀ L h' ((rw, orw') :: rest') → Grow tl rest rest' → CS w q ti rw orw' (tl ++ T0) rest' (rows ++ Tg.exp pr (.cat3 sp t t2 t3)) → Q .none { s with heap := h', toks := tk' }) :
    wpAny (model PySem.Challenge.rw_on0096_01.row.prog w) (ktrTop dp un gd cn cs L a ccd cl outer) (call (.ref 134) args) Q E s := by
  w_top off
  k_with_none
  k_with "exec Assign" => k_fold
  k_with "exec If" => k_fold
  k_with "exec Expr" => k_fold
  k_with "exec Return some" => k_fold
  k_with "sub here" => (first | exact sub_self | (refine sub_cons ?_; walk_at "sub here") | (refine sub_grow (by assumption) ?_; walk_at "sub here"))
  k_with "dat here" => (first | assumption | exact dat_up (by assumption) (by walk_at "sub here"))
  k_with "mine for" => ((k_here; (rename Fr _ _ _ _ => lF'); (with_unfolding_all refine' For_turns lF' ?_; k_whole)))
  k_with "exec For Name Subscript cons nil" => (walk_at "mine for")
  k_with "pyIter ref" => ((k_here; (with_reducible show wpAny _ _ (pyIter (Value.ref _)) (fun it s₂ => TurnsAt _ _ _ _ _ _ _ _ _ it s₂) _ _); (with_unfolding_all refine' iter_tupTurns ?kh ?kF ?kN (List.mem_cons_of_mem _ ?km) ?kc ?kd ?_; (case kh => rfl); (case kF => k_asm); (case kN => k_asm); (case km => assumption); (case kc => rfl); (case kd => rfl)); intro i' l1; (try k_lt l1); (try dsimp only [List.map])))
  k_with "ItemsRest" => (first | ((with_unfolding_all refine ItemsRest.val (fun h' tk' F' => ?_)); (refine AllObj.cons (fun o' hc' => ?_)); (refine AllObj.nil (fun N' => ?_)); (try simp only [List.cons_append, List.nil_append] at N'); (obtain ⟨N', S'⟩ := turn_in N' (by assumption) (by omega))) | (with_unfolding_all refine ItemsRest.zero (fun h' tk' F' N' => ?_)))
  k_with "UnrEndW" => ((refine turn_end (by k_asm) (by k_asm) (by assumption) (by assumption) (by first | assumption | exact ne_allLt (by tbn_find)) (by omega) (by assumption) (by assumption) ?_; intro rest' gR' S' hI' hk'))
  k_with "subscriptTail Name Slice ref ref" => ((k_here; (with_reducible show wpAny _ _ (subscriptTail _ (PySem.Expr.Slice _ _ none _) (Value.ref _) (Value.ref _)) _ _ _); k_dflt (refine' cut_tuple ?F ?N ?l ?a ?z ?_ ?s ?t; (case F => k_asm); (case N => k_asm); (case l => k_mem); (case a => exact Nat.le_of_ble_eq_true rfl); (case z => exact Nat.le_of_ble_eq_true rfl); (case s => with_unfolding_all rfl); (case t => (intro _; with_unfolding_all rfl))); intro D' h' F' N' l1; (try k_lt l1); (try dsimp only [List.drop] at N')))
  k_with "call ref" => ((k_here; (with_reducible show wpAny _ _ (call (Value.ref 142) _) _ _ _); k_dflt (refine' name_spec ?k1 ?k2 ?k3 ?k4 ?k5 ?k6 ?k7 ?kj ?k8 ?k9 ?_; (case k7 => assumption); (case k1 => k_asm); (case k2 => k_asm); (case k3 => k_asm); (case k4 => k_asm); (case k5 => k_asm); (case k6 => first | exact rfl | assumption); (case kj => assumption); (case k8 => ((try simp only [List.length_append]); omega)); (case k9 => (dsimp only [ktrTop, Around.deeper]; omega))); k_whole; intro h' tk' o' tl' rest' F' N' gR' S'; (try k_fold)))
  k_with "call ref" => ((k_here; (with_reducible show wpAny _ _ (call (Value.ref 112) _) _ _ _); k_dflt (refine' path_spec ?k1 ?k2 ?k3 ?k4 ?k5 ?k6 ?k7 ?kd ?k8 ?k9 ?_; (case k7 => assumption); (case k1 => k_asm); (case k2 => k_asm); (case k3 => k_asm); (case k4 => k_asm); (case k5 => k_asm); (case k6 => first | exact rfl | assumption); (case kd => assumption); (case k8 => ((try simp only [List.length_append]); omega)); (case k9 => (dsimp only [ktrTop, Around.deeper]; omega))); k_whole; intro h' tk' o' tl' rest' F' N' gR' S'; (try k_fold)))
  k_with "call ref" => ((k_here; (with_reducible show wpAny _ _ (call (Value.ref 91) _) _ _ _); k_dflt (refine' each1_spec ?k1 ?k2 ?k3 ?k4 ?k5 ?k6 ?k7 ?kd ?k8 ?k9 ?_; (case k4 => exact rot11 (by k_asm)); (case k7 => exact CS.more (by assumption) (by omega)); (case k1 => k_asm); (case k2 => k_asm); (case k3 => k_asm); (case k5 => k_asm); (case k6 => first | exact rfl | assumption); (case kd => exact DatIn.tuple (.head _) (.cons (by walk_at "dat here") .nil)); (case k8 => ((try simp only [List.length_append]); omega)); (case k9 => (dsimp only [ktrTop, Around.deeper]; omega))); k_whole; intro h' tk' o' tl' rest' F' N' gR' S'; (try k_fold)))
  k_with "call ref" => ((k_here; (with_reducible show wpAny _ _ (call (Value.ref 91) _) _ _ _); k_dflt (refine' each2_spec ?k1 ?k2 ?k3 ?k4 ?k5 ?k6 ?k7 ?kd ?k8 ?k9 ?_; (case k4 => exact rot11 (by k_asm)); (case k7 => exact CS.more (by assumption) (by omega)); (case k1 => k_asm); (case k2 => k_asm); (case k3 => k_asm); (case k5 => k_asm); (case k6 => first | exact rfl | assumption); (case kd => exact DatIn.tuple (.head _) (.cons (by walk_at "dat here") (.cons (by walk_at "dat here") .nil))); (case k8 => ((try simp only [List.length_append]); omega)); (case k9 => (dsimp only [ktrTop, Around.deeper]; omega))); k_whole; intro h' tk' o' tl' rest' F' N' gR' S'; (try k_fold)))
  k_with "call ref" => ((k_here; (with_reducible show wpAny _ _ (call (Value.ref 134) _) _ _ _); k_dflt (refine' check_use ?kC ?k1 ?k2 ?k3 ?k4 ?k5 ?k6 ?k7 ?kd ?ko ?k8 ?k9 ?_; (case kC => assumption); (case k7 => assumption); (case k1 => k_asm); (case k2 => k_asm); (case k3 => k_asm); (case k4 => k_asm); (case k5 => k_asm); (case k6 => first | exact rfl | assumption); (case kd => walk_at "dat here"); (case ko => assumption); (case k8 => ((try simp only [List.length_append]); omega)); (case k9 => (dsimp only [ktrTop, Around.deeper]; omega))); k_whole; intro h' tk' o' tl' rest' F' N' gR' S' hl'; (try k_fold)))
  k_with "compareOp Eq str str" => ((k_here; k_dflt (refine str_eqF (by assumption) ?_)))
  obtain ⟨av, bv, nv, nb, u1, u2, vs0, rfl, hm, hb, R0⟩ := list_open D
  obtain ⟨x1, vs1, rfl, E1, R1⟩ := all_cons R0
  obtain ⟨x2, vs2, rfl, E2, R2⟩ := all_cons R1
  obtain ⟨x3, vs3, rfl, E3, R3⟩ := all_cons R2
  obtain rfl := all_nil R3
  have hp4 : 4 ^ (l + 1 + 1) = 4 * 4 ^ (l + 1) := by rw [Nat.pow_succ]; omega
  have hp1 : 1 ≤ 4 ^ (l + 1) := Nat.pow_pos (by decide)
  refine wpAny_call ?_
  k_dflt ((refine' code_def (binds := [(Str.ofString "report", .ref q), (Str.ofString "table", .ref ti), (Str.ofString "lv", .ref av), (Str.ofString "procedural", .bool pr), (Str.ofString "inputs", .bool false)]) ?k1 ?k2 ?k3 ?k4 ?k5 ?kA ?kF ?kK ?k6 ?k7 ?k8 ?k9 ?kB ?_ ?c2 ?c3 ?c4 ?c5; (case kA => exact rfl); (case kF => exact rfl); (case kK => assumption); (case k1 => k_asm); (case k2 => k_asm); (case k3 => k_asm); (case k4 => k_asm); (case k5 => k_asm); (case k6 => k_is); (case k7 => k_is); (case k8 => (dsimp only [ktrTop, recursionLimit]; omega)); (case k9 => (rcases hA with rfl | rfl <;> exact binds_K (by k_in) rfl (by k_is) rfl rfl rfl)); (case c5 => decide); (case kB => exact locs rfl); (case c2 => exact rfl); (case c3 => exact rfl); (case c4 => exact rfl); k_whole; intro g' L' h' FG' F' N' B' X' T'; (try dsimp only); (try k_fold)))
  k_steps
  exact ret _ _ _ _ _ (by k_asm) (by k_asm) (Grow.trans (by assumption) (Grow.trans (by assumption) (by assumption))) (CS.re (by assumption) (by simp only [List.append_assoc]) (by simp only [Tg.exp, List.append_assoc]))
end
end Mine
namespace Mine
theorem check_all (w : World) : ∀ lv, CheckSpec w lv := by
  intro lv
  induction lv with
  | zero =>
    unfold CheckSpec
    intro mean mg mb dp un gd cn cs a ccd cl outer A₀ base h₀ L m s Q E q ti rw orw T0 rest rows v t pr args hA B F X N T hk S D ok hsz hdp ret
    cases t with
    | id sp k => exact ck_id hA B F X N T hk S D ok (by omega) (by omega) ret
    | _ => exact absurd ok (by simp [Tg.Ok])
  | succ l ih =>
    unfold CheckSpec
    intro mean mg mb dp un gd cn cs a ccd cl outer A₀ base h₀ L m s Q E q ti rw orw T0 rest rows v t pr args hA B F X N T hk S D ok hsz hdp ret
    have hp1 : 1 ≤ 4 ^ (l + 1 + 1) := Nat.pow_pos (by decide)
    cases t with
    | id sp k => exact ck_id hA B F X N T hk S D ok (by omega) (by omega) ret
    | index sp t s1 v1 => exact ck_index hA ih B F X N T hk S D ok hsz (by omega) ret
    | cat1 sp t => exact ck_cat1 hA ih B F X N T hk S D ok hsz (by omega) ret
    | cat2 sp t u => exact ck_cat2 hA ih B F X N T hk S D ok.1 ok.2 hsz (by omega) ret
    | cat3 sp t u v => exact ck_cat3 hA ih B F X N T hk S D ok.1 ok.2.1 ok.2.2 hsz (by omega) ret
    | sel kind sp t s1 v1 s2 v2 => exact ck_sel (hA := hA) ok.1 ih B F X N T hk S D ok.2 hsz (by omega) ret
    | path sp => exact ck_path (x := none) hA B F X N T hk S D rfl (by omega) (by omega) ret
    | pathv sp s1 v1 => exact ck_path (x := some (s1, v1)) hA B F X N T hk S D rfl (by omega) (by omega) ret
theorem check_use4 {w : World} {lv : Nat} {mean : ExcName → Option Value} {mg mb : Str → Option Value}
    {dp un : Nat} {gd : Option (List Code)} {cn : Str} {cs : Scope} {a : Addr} {ccd : Value} {cl : List (Str × Addr)} {outer : List Env}
    {A₀ : Around} {base h₀ : Heap} {L : Addr} {m : Str → Option Value} {s : Shared} {Q E : Value → Shared → Prop}
    {q ti rw : Addr} {orw : Obj} {T0 rest : Led} {rows : List Dat} {v : Value} {t : Tg} {pr : Bool}
    (B : Below A₀ base outer h₀) (F : Fr h₀ L s.heap m) (X : (hd.heap_39 w.params).In h₀) (N : News h₀ L s.heap ((rw, orw) :: rest)) (T : TopM mean mg mb h₀)
    (hk : cs.kind = .function) (S : CS w q ti rw orw T0 rest rows) (D : DatIn rest v t.dat) (ok : t.Ok lv) (hsz : rows.length + 4 ^ (lv + 1) ≤ 1800000) (hdp : dp + lv < 840)
    (ret : ∀ h' tk' orw' tl rest', Fr h₀ L h' m → News h₀ L h' ((rw, orw') :: rest') → Grow tl rest rest' → CS w q ti rw orw' (tl ++ T0) rest' (rows ++ Tg.exp pr t) → Q .none { s with heap := h', toks := tk' }) :
    wpAny (model PySem.Challenge.rw_on0096_01.row.prog w) (ktrTop dp un gd cn cs L a ccd cl outer) (call (.ref 134) [.ref q, .ref ti, v, .bool pr]) Q E s :=
  check_all w lv _ _ _ _ _ _ _ _ _ _ _ _ _ _ _ _ _ _ _ _ _ _ _ _ _ _ _ _ _ _ _ (.inr rfl) B F X N T hk S D ok hsz hdp ret
end Mine
namespace Mine
theorem fillNow7h : (PySem.Challenge.rw_on0096_01.row.prog, hd.heap_39) = (PySem.Challenge.rw_on0096_01.row.prog, hd.heap_39) := by k_fill; rfl


section
local macro_rules | `(tactic| walk_at $s:str) => `(tactic| k_extra $s)
local macro_rules | `(tactic| k_all) => `(tactic| assumption)
local macro_rules | `(tactic| k_mem) => `(tactic| first | assumption | exact mem_up (by assumption) (by walk_at "sub here"))
local macro_rules | `(tactic| news_mem) => `(tactic| (exact .tail _ (by assumption)))
-- a loop over a tuple of the ledger
theorem dc_param {w : World} {mean : ExcName → Option Value} {mg mb : Str → Option Value}
    {dp un : Nat} {gd : Option (List Code)} {cn : Str} {cs : Scope} {a : Addr} {ccd : Value} {cl : List (Str × Addr)} {outer : List Env}
    {A₀ : Around} {base h₀ : Heap} {L : Addr} {m : Str → Option Value} {s : Shared} {Q E : Value → Shared → Prop}
    {q ti rw : Addr} {orw : Obj} {T0 rest : Led} {rows : List Dat} {v : Value} {p : Option (Int × VN × Int × VN)} {s1 : Int} {v1 : VN}
    (B : Below A₀ base outer h₀) (F : Fr h₀ L s.heap m) (X : (hd.heap_39 w.params).In h₀) (N : News h₀ L s.heap ((rw, orw) :: rest)) (T : TopM mean mg mb h₀)
    (hk : cs.kind = .function) (S : CS w q ti rw orw T0 rest rows) (D : DatIn rest v (It.dat (.param p s1 v1))) (hsz : rows.length + 20 ≤ 1800000) (hdp : dp < 840)
    (ret : ∀ h' tk' orw' tl rest', Fr h₀ L h' m → News h₀ L h' ((rw, orw') :: rest') → Grow tl rest rest' → CS w q ti rw orw' (tl ++ T0) rest' (rows ++ It.exp (.param p s1 v1)) → Q .none { s with heap := h', toks := tk' }) :
    wpAny (model PySem.Challenge.rw_on0096_01.row.prog w) (ktrTop dp un gd cn cs L a ccd cl outer) (call (.ref 126) [.ref q, .ref ti, v]) Q E s := by
  w_top off
  k_with_none
  k_with "exec Assign" => k_fold
  k_with "exec If" => k_fold
  k_with "exec Expr" => k_fold
  k_with "exec Return some" => k_fold
  k_with "sub here" => (first | exact sub_self | (refine sub_cons ?_; walk_at "sub here") | (refine sub_grow (by assumption) ?_; walk_at "sub here"))
  k_with "dat here" => (first | assumption | exact dat_up (by assumption) (by walk_at "sub here"))
  k_with "mine for" => ((k_here; (rename Fr _ _ _ _ => lF'); (with_unfolding_all refine' For_turns lF' ?_; k_whole)))
  k_with "exec For Name Subscript cons nil" => (walk_at "mine for")
  k_with "pyIter ref" => ((k_here; (with_reducible show wpAny _ _ (pyIter (Value.ref _)) (fun it s₂ => TurnsAt _ _ _ _ _ _ _ _ _ it s₂) _ _); (with_unfolding_all refine' iter_tupTurns ?kh ?kF ?kN (List.mem_cons_of_mem _ ?km) ?kc ?kd ?_; (case kh => rfl); (case kF => k_asm); (case kN => k_asm); (case km => k_mem); (case kc => rfl); (case kd => rfl)); intro i' l1; (try k_lt l1); (try dsimp only [List.map])))
  k_with "ItemsRest" => (first | ((with_unfolding_all refine ItemsRest.val (fun h' tk' F' => ?_)); (refine AllObj.cons (fun o' hc' => ?_)); (refine AllObj.nil (fun N' => ?_)); (try simp only [List.cons_append, List.nil_append] at N'); (obtain ⟨N', S'⟩ := turn_in N' (by assumption) (by omega))) | (with_unfolding_all refine ItemsRest.zero (fun h' tk' F' N' => ?_)))
  k_with "UnrEndW" => ((refine turn_end (by k_asm) (by k_asm) (by assumption) (by assumption) (by first | assumption | exact ne_allLt (by tbn_find)) (by omega) (by k_mem) (by assumption) ?_; intro rest' gR' S' hI' hk'))
  k_with "subscriptTail Name Slice ref ref" => ((k_here; (with_reducible show wpAny _ _ (subscriptTail _ (PySem.Expr.Slice _ _ none _) (Value.ref _) (Value.ref _)) _ _ _); k_dflt (refine' cut_tuple ?F ?N ?l ?a ?z ?_ ?s ?t; (case F => k_asm); (case N => k_asm); (case l => k_mem); (case a => exact Nat.le_of_ble_eq_true rfl); (case z => exact Nat.le_of_ble_eq_true rfl); (case s => with_unfolding_all rfl); (case t => (intro _; with_unfolding_all rfl))); intro D' h' F' N' l1; (try k_lt l1); (try dsimp only [List.drop] at N')))
  k_with "call ref" => ((k_here; (with_reducible show wpAny _ _ (call (Value.ref 84) _) _ _ _); k_dflt (refine' expr_spec ?k1 ?k2 ?k3 ?k4 ?k5 ?k6 ?k7 ?kd ?k8 ?k9 ?_; (case k7 => assumption); (case k1 => k_asm); (case k2 => k_asm); (case k3 => k_asm); (case k4 => k_asm); (case k5 => k_asm); (case k6 => first | exact rfl | assumption); (case kd => walk_at "dat here"); (case k8 => ((try simp only [List.length_append]); omega)); (case k9 => (dsimp only [ktrTop, Around.deeper]; omega))); k_whole; intro h' tk' o' tl' rest' F' N' gR' S'; (try k_fold)))
  k_with "call ref" => ((k_here; (with_reducible show wpAny _ _ (call (Value.ref 91) _) _ _ _); k_dflt (refine' each1_spec ?k1 ?k2 ?k3 ?k4 ?k5 ?k6 ?k7 ?kd ?k8 ?k9 ?_; (case k7 => assumption); (case k1 => k_asm); (case k2 => k_asm); (case k3 => k_asm); (case k4 => k_asm); (case k5 => k_asm); (case k6 => first | exact rfl | assumption); (case kd => walk_at "dat here"); (case k8 => ((try simp only [List.length_append]); omega)); (case k9 => (dsimp only [ktrTop, Around.deeper]; omega))); k_whole; intro h' tk' o' tl' rest' F' N' gR' S'; (try k_fold)))
  k_with "call ref" => ((k_here; (with_reducible show wpAny _ _ (call (Value.ref 98) _) _ _ _); k_dflt (refine' optional_spec ?k1 ?k2 ?k3 ?k4 ?k5 ?k6 ?k7 ?kd ?k8 ?k9 ?_; (case k7 => assumption); (case k1 => k_asm); (case k2 => k_asm); (case k3 => k_asm); (case k4 => k_asm); (case k5 => k_asm); (case k6 => first | exact rfl | assumption); (case kd => walk_at "dat here"); (case k8 => ((try simp only [List.length_append]); omega)); (case k9 => (dsimp only [ktrTop, Around.deeper]; omega))); k_whole; intro h' tk' o' tl' rest' F' N' gR' S'; (try k_fold)))
  k_with "call ref" => ((k_here; (with_reducible show wpAny _ _ (call (Value.ref 105) _) _ _ _); k_dflt (refine' range_spec ?k1 ?k2 ?k3 ?k4 ?k5 ?k6 ?k7 ?kd ?k8 ?k9 ?_; (case k7 => assumption); (case k1 => k_asm); (case k2 => k_asm); (case k3 => k_asm); (case k4 => k_asm); (case k5 => k_asm); (case k6 => first | exact rfl | assumption); (case kd => walk_at "dat here"); (case k8 => ((try simp only [List.length_append]); omega)); (case k9 => (dsimp only [ktrTop, Around.deeper]; omega))); k_whole; intro h' tk' o' tl' rest' F' N' gR' S'; (try k_fold)))
  k_with "grow here" => (first | assumption | exact Grow.trans (by assumption) (by walk_at "grow here"))
  obtain ⟨av, nv, vs, rfl, hm, R0⟩ := tup_open D
  obtain ⟨y0, zs0, rfl, D0, R1⟩ := all_cons R0
  obtain ⟨u0, rfl⟩ := str_open D0
  obtain ⟨y1, zs1, rfl, D1, R2⟩ := all_cons R1
  obtain ⟨u1, rfl⟩ := int_open D1
  obtain ⟨y2, zs2, rfl, D2, R3⟩ := all_cons R2
  obtain ⟨u2, rfl⟩ := str_open D2
  obtain ⟨y3, zs3, rfl, D3, R4⟩ := all_cons R3
  obtain rfl := bool_open D3
  obtain ⟨y4, zs4, rfl, D4, R5⟩ := all_cons R4
  obtain ⟨y5, zs5, rfl, D5, R6⟩ := all_cons R5
  obtain ⟨u5, rfl⟩ := str_open D5
  obtain ⟨y6, zs6, rfl, D6, R7⟩ := all_cons R6
  obtain rfl := all_nil R7
  have := expP_len p
  have := expV_len s1 v1
  refine wpAny_call ?_
  k_dflt ktr_enter
  k_steps
  exact ret _ _ _ _ _ (by k_asm) (by k_asm) (by walk_at "grow here") (CS.re (by assumption) (by simp only [List.append_assoc]) (by simp only [It.exp, expO, expP, List.append_assoc, List.append_nil, List.nil_append]))

theorem dc_port {w : World} {mean : ExcName → Option Value} {mg mb : Str → Option Value}
    {dp un : Nat} {gd : Option (List Code)} {cn : Str} {cs : Scope} {a : Addr} {ccd : Value} {cl : List (Str × Addr)} {outer : List Env}
    {A₀ : Around} {base h₀ : Heap} {L : Addr} {m : Str → Option Value} {s : Shared} {Q E : Value → Shared → Prop}
    {q ti rw : Addr} {orw : Obj} {T0 rest : Led} {rows : List Dat} {v : Value} {p : Option (Int × VN × Int × VN)}
    (B : Below A₀ base outer h₀) (F : Fr h₀ L s.heap m) (X : (hd.heap_39 w.params).In h₀) (N : News h₀ L s.heap ((rw, orw) :: rest)) (T : TopM mean mg mb h₀)
    (hk : cs.kind = .function) (S : CS w q ti rw orw T0 rest rows) (D : DatIn rest v (It.dat (.port p))) (hsz : rows.length + 20 ≤ 1800000) (hdp : dp < 840)
    (ret : ∀ h' tk' orw' tl rest', Fr h₀ L h' m → News h₀ L h' ((rw, orw') :: rest') → Grow tl rest rest' → CS w q ti rw orw' (tl ++ T0) rest' (rows ++ It.exp (.port p)) → Q .none { s with heap := h', toks := tk' }) :
    wpAny (model PySem.Challenge.rw_on0096_01.row.prog w) (ktrTop dp un gd cn cs L a ccd cl outer) (call (.ref 126) [.ref q, .ref ti, v]) Q E s := by
  w_top off
  k_with_none
  k_with "exec Assign" => k_fold
  k_with "exec If" => k_fold
  k_with "exec Expr" => k_fold
  k_with "exec Return some" => k_fold
  k_with "sub here" => (first | exact sub_self | (refine sub_cons ?_; walk_at "sub here") | (refine sub_grow (by assumption) ?_; walk_at "sub here"))
  k_with "dat here" => (first | assumption | exact dat_up (by assumption) (by walk_at "sub here"))
  k_with "mine for" => ((k_here; (rename Fr _ _ _ _ => lF'); (with_unfolding_all refine' For_turns lF' ?_; k_whole)))
  k_with "exec For Name Subscript cons nil" => (walk_at "mine for")
  k_with "pyIter ref" => ((k_here; (with_reducible show wpAny _ _ (pyIter (Value.ref _)) (fun it s₂ => TurnsAt _ _ _ _ _ _ _ _ _ it s₂) _ _); (with_unfolding_all refine' iter_tupTurns ?kh ?kF ?kN (List.mem_cons_of_mem _ ?km) ?kc ?kd ?_; (case kh => rfl); (case kF => k_asm); (case kN => k_asm); (case km => k_mem); (case kc => rfl); (case kd => rfl)); intro i' l1; (try k_lt l1); (try dsimp only [List.map])))
  k_with "ItemsRest" => (first | ((with_unfolding_all refine ItemsRest.val (fun h' tk' F' => ?_)); (refine AllObj.cons (fun o' hc' => ?_)); (refine AllObj.nil (fun N' => ?_)); (try simp only [List.cons_append, List.nil_append] at N'); (obtain ⟨N', S'⟩ := turn_in N' (by assumption) (by omega))) | (with_unfolding_all refine ItemsRest.zero (fun h' tk' F' N' => ?_)))
  k_with "UnrEndW" => ((refine turn_end (by k_asm) (by k_asm) (by assumption) (by assumption) (by first | assumption | exact ne_allLt (by tbn_find)) (by omega) (by k_mem) (by assumption) ?_; intro rest' gR' S' hI' hk'))
  k_with "subscriptTail Name Slice ref ref" => ((k_here; (with_reducible show wpAny _ _ (subscriptTail _ (PySem.Expr.Slice _ _ none _) (Value.ref _) (Value.ref _)) _ _ _); k_dflt (refine' cut_tuple ?F ?N ?l ?a ?z ?_ ?s ?t; (case F => k_asm); (case N => k_asm); (case l => k_mem); (case a => exact Nat.le_of_ble_eq_true rfl); (case z => exact Nat.le_of_ble_eq_true rfl); (case s => with_unfolding_all rfl); (case t => (intro _; with_unfolding_all rfl))); intro D' h' F' N' l1; (try k_lt l1); (try dsimp only [List.drop] at N')))
  k_with "call ref" => ((k_here; (with_reducible show wpAny _ _ (call (Value.ref 84) _) _ _ _); k_dflt (refine' expr_spec ?k1 ?k2 ?k3 ?k4 ?k5 ?k6 ?k7 ?kd ?k8 ?k9 ?_; (case k7 => assumption); (case k1 => k_asm); (case k2 => k_asm); (case k3 => k_asm); (case k4 => k_asm); (case k5 => k_asm); (case k6 => first | exact rfl | assumption); (case kd => walk_at "dat here"); (case k8 => ((try simp only [List.length_append]); omega)); (case k9 => (dsimp only [ktrTop, Around.deeper]; omega))); k_whole; intro h' tk' o' tl' rest' F' N' gR' S'; (try k_fold)))
  k_with "call ref" => ((k_here; (with_reducible show wpAny _ _ (call (Value.ref 91) _) _ _ _); k_dflt (refine' each1_spec ?k1 ?k2 ?k3 ?k4 ?k5 ?k6 ?k7 ?kd ?k8 ?k9 ?_; (case k7 => assumption); (case k1 => k_asm); (case k2 => k_asm); (case k3 => k_asm); (case k4 => k_asm); (case k5 => k_asm); (case k6 => first | exact rfl | assumption); (case kd => walk_at "dat here"); (case k8 => ((try simp only [List.length_append]); omega)); (case k9 => (dsimp only [ktrTop, Around.deeper]; omega))); k_whole; intro h' tk' o' tl' rest' F' N' gR' S'; (try k_fold)))
  k_with "call ref" => ((k_here; (with_reducible show wpAny _ _ (call (Value.ref 98) _) _ _ _); k_dflt (refine' optional_spec ?k1 ?k2 ?k3 ?k4 ?k5 ?k6 ?k7 ?kd ?k8 ?k9 ?_; (case k7 => assumption); (case k1 => k_asm); (case k2 => k_asm); (case k3 => k_asm); (case k4 => k_asm); (case k5 => k_asm); (case k6 => first | exact rfl | assumption); (case kd => walk_at "dat here"); (case k8 => ((try simp only [List.length_append]); omega)); (case k9 => (dsimp only [ktrTop, Around.deeper]; omega))); k_whole; intro h' tk' o' tl' rest' F' N' gR' S'; (try k_fold)))
  k_with "call ref" => ((k_here; (with_reducible show wpAny _ _ (call (Value.ref 105) _) _ _ _); k_dflt (refine' range_spec ?k1 ?k2 ?k3 ?k4 ?k5 ?k6 ?k7 ?kd ?k8 ?k9 ?_; (case k7 => assumption); (case k1 => k_asm); (case k2 => k_asm); (case k3 => k_asm); (case k4 => k_asm); (case k5 => k_asm); (case k6 => first | exact rfl | assumption); (case kd => walk_at "dat here"); (case k8 => ((try simp only [List.length_append]); omega)); (case k9 => (dsimp only [ktrTop, Around.deeper]; omega))); k_whole; intro h' tk' o' tl' rest' F' N' gR' S'; (try k_fold)))
  k_with "grow here" => (first | assumption | exact Grow.trans (by assumption) (by walk_at "grow here"))
  obtain ⟨av, nv, vs, rfl, hm, R0⟩ := tup_open D
  obtain ⟨y0, zs0, rfl, D0, R1⟩ := all_cons R0
  obtain ⟨u0, rfl⟩ := str_open D0
  obtain ⟨y1, zs1, rfl, D1, R2⟩ := all_cons R1
  obtain ⟨u1, rfl⟩ := int_open D1
  obtain ⟨y2, zs2, rfl, D2, R3⟩ := all_cons R2
  obtain ⟨u2, rfl⟩ := str_open D2
  obtain ⟨y3, zs3, rfl, D3, R4⟩ := all_cons R3
  obtain rfl := bool_open D3
  obtain ⟨y4, zs4, rfl, D4, R5⟩ := all_cons R4
  obtain ⟨y5, zs5, rfl, D5, R6⟩ := all_cons R5
  obtain ⟨u5, rfl⟩ := str_open D5
  obtain rfl := all_nil R6
  have := expP_len p
  refine wpAny_call ?_
  k_dflt ktr_enter
  k_steps
  exact ret _ _ _ _ _ (by k_asm) (by k_asm) (by walk_at "grow here") (CS.re (by assumption) (by simp only [List.append_assoc]) (by simp only [It.exp, expO, expP, List.append_assoc, List.append_nil, List.nil_append]))

theorem dc_net00 {w : World} {mean : ExcName → Option Value} {mg mb : Str → Option Value}
    {dp un : Nat} {gd : Option (List Code)} {cn : Str} {cs : Scope} {a : Addr} {ccd : Value} {cl : List (Str × Addr)} {outer : List Env}
    {A₀ : Around} {base h₀ : Heap} {L : Addr} {m : Str → Option Value} {s : Shared} {Q E : Value → Shared → Prop}
    {q ti rw : Addr} {orw : Obj} {T0 rest : Led} {rows : List Dat} {v : Value} {p : Option (Int × VN × Int × VN)} {f : Option (Int × VN)}
    (B : Below A₀ base outer h₀) (F : Fr h₀ L s.heap m) (X : (hd.heap_39 w.params).In h₀) (N : News h₀ L s.heap ((rw, orw) :: rest)) (T : TopM mean mg mb h₀)
    (hk : cs.kind = .function) (S : CS w q ti rw orw T0 rest rows) (D : DatIn rest v (It.dat (.net p none none f))) (hsz : rows.length + 20 ≤ 1800000) (hdp : dp < 840)
    (ret : ∀ h' tk' orw' tl rest', Fr h₀ L h' m → News h₀ L h' ((rw, orw') :: rest') → Grow tl rest rest' → CS w q ti rw orw' (tl ++ T0) rest' (rows ++ It.exp (.net p none none f)) → Q .none { s with heap := h', toks := tk' }) :
    wpAny (model PySem.Challenge.rw_on0096_01.row.prog w) (ktrTop dp un gd cn cs L a ccd cl outer) (call (.ref 126) [.ref q, .ref ti, v]) Q E s := by
  w_top off
  k_with_none
  k_with "exec Assign" => k_fold
  k_with "exec If" => k_fold
  k_with "exec Expr" => k_fold
  k_with "exec Return some" => k_fold
  k_with "sub here" => (first | exact sub_self | (refine sub_cons ?_; walk_at "sub here") | (refine sub_grow (by assumption) ?_; walk_at "sub here"))
  k_with "dat here" => (first | assumption | exact dat_up (by assumption) (by walk_at "sub here"))
  k_with "mine for" => ((k_here; (rename Fr _ _ _ _ => lF'); (with_unfolding_all refine' For_turns lF' ?_; k_whole)))
  k_with "exec For Name Subscript cons nil" => (walk_at "mine for")
  k_with "pyIter ref" => ((k_here; (with_reducible show wpAny _ _ (pyIter (Value.ref _)) (fun it s₂ => TurnsAt _ _ _ _ _ _ _ _ _ it s₂) _ _); (with_unfolding_all refine' iter_tupTurns ?kh ?kF ?kN (List.mem_cons_of_mem _ ?km) ?kc ?kd ?_; (case kh => rfl); (case kF => k_asm); (case kN => k_asm); (case km => k_mem); (case kc => rfl); (case kd => rfl)); intro i' l1; (try k_lt l1); (try dsimp only [List.map])))
  k_with "ItemsRest" => (first | ((with_unfolding_all refine ItemsRest.val (fun h' tk' F' => ?_)); (refine AllObj.cons (fun o' hc' => ?_)); (refine AllObj.nil (fun N' => ?_)); (try simp only [List.cons_append, List.nil_append] at N'); (obtain ⟨N', S'⟩ := turn_in N' (by assumption) (by omega))) | (with_unfolding_all refine ItemsRest.zero (fun h' tk' F' N' => ?_)))
  k_with "UnrEndW" => ((refine turn_end (by k_asm) (by k_asm) (by assumption) (by assumption) (by first | assumption | exact ne_allLt (by tbn_find)) (by omega) (by k_mem) (by assumption) ?_; intro rest' gR' S' hI' hk'))
  k_with "subscriptTail Name Slice ref ref" => ((k_here; (with_reducible show wpAny _ _ (subscriptTail _ (PySem.Expr.Slice _ _ none _) (Value.ref _) (Value.ref _)) _ _ _); k_dflt (refine' cut_tuple ?F ?N ?l ?a ?z ?_ ?s ?t; (case F => k_asm); (case N => k_asm); (case l => k_mem); (case a => exact Nat.le_of_ble_eq_true rfl); (case z => exact Nat.le_of_ble_eq_true rfl); (case s => with_unfolding_all rfl); (case t => (intro _; with_unfolding_all rfl))); intro D' h' F' N' l1; (try k_lt l1); (try dsimp only [List.drop] at N')))
  k_with "call ref" => ((k_here; (with_reducible show wpAny _ _ (call (Value.ref 84) _) _ _ _); k_dflt (refine' expr_spec ?k1 ?k2 ?k3 ?k4 ?k5 ?k6 ?k7 ?kd ?k8 ?k9 ?_; (case k7 => assumption); (case k1 => k_asm); (case k2 => k_asm); (case k3 => k_asm); (case k4 => k_asm); (case k5 => k_asm); (case k6 => first | exact rfl | assumption); (case kd => walk_at "dat here"); (case k8 => ((try simp only [List.length_append]); omega)); (case k9 => (dsimp only [ktrTop, Around.deeper]; omega))); k_whole; intro h' tk' o' tl' rest' F' N' gR' S'; (try k_fold)))
  k_with "call ref" => ((k_here; (with_reducible show wpAny _ _ (call (Value.ref 91) _) _ _ _); k_dflt (refine' each1_spec ?k1 ?k2 ?k3 ?k4 ?k5 ?k6 ?k7 ?kd ?k8 ?k9 ?_; (case k7 => assumption); (case k1 => k_asm); (case k2 => k_asm); (case k3 => k_asm); (case k4 => k_asm); (case k5 => k_asm); (case k6 => first | exact rfl | assumption); (case kd => walk_at "dat here"); (case k8 => ((try simp only [List.length_append]); omega)); (case k9 => (dsimp only [ktrTop, Around.deeper]; omega))); k_whole; intro h' tk' o' tl' rest' F' N' gR' S'; (try k_fold)))
  k_with "call ref" => ((k_here; (with_reducible show wpAny _ _ (call (Value.ref 98) _) _ _ _); k_dflt (refine' optional_spec ?k1 ?k2 ?k3 ?k4 ?k5 ?k6 ?k7 ?kd ?k8 ?k9 ?_; (case k7 => assumption); (case k1 => k_asm); (case k2 => k_asm); (case k3 => k_asm); (case k4 => k_asm); (case k5 => k_asm); (case k6 => first | exact rfl | assumption); (case kd => walk_at "dat here"); (case k8 => ((try simp only [List.length_append]); omega)); (case k9 => (dsimp only [ktrTop, Around.deeper]; omega))); k_whole; intro h' tk' o' tl' rest' F' N' gR' S'; (try k_fold)))
  k_with "call ref" => ((k_here; (with_reducible show wpAny _ _ (call (Value.ref 105) _) _ _ _); k_dflt (refine' range_spec ?k1 ?k2 ?k3 ?k4 ?k5 ?k6 ?k7 ?kd ?k8 ?k9 ?_; (case k7 => assumption); (case k1 => k_asm); (case k2 => k_asm); (case k3 => k_asm); (case k4 => k_asm); (case k5 => k_asm); (case k6 => first | exact rfl | assumption); (case kd => walk_at "dat here"); (case k8 => ((try simp only [List.length_append]); omega)); (case k9 => (dsimp only [ktrTop, Around.deeper]; omega))); k_whole; intro h' tk' o' tl' rest' F' N' gR' S'; (try k_fold)))
  k_with "grow here" => (first | assumption | exact Grow.trans (by assumption) (by walk_at "grow here"))
  obtain ⟨av, nv, vs, rfl, hm, R0⟩ := tup_open D
  obtain ⟨y0, zs0, rfl, D0, R1⟩ := all_cons R0
  obtain ⟨u0, rfl⟩ := str_open D0
  obtain ⟨y1, zs1, rfl, D1, R2⟩ := all_cons R1
  obtain ⟨u1, rfl⟩ := int_open D1
  obtain ⟨y2, zs2, rfl, D2, R3⟩ := all_cons R2
  obtain ⟨u2, rfl⟩ := str_open D2
  obtain ⟨y3, zs3, rfl, D3, R4⟩ := all_cons R3
  obtain rfl := bool_open D3
  obtain ⟨y4, zs4, rfl, D4, R5⟩ := all_cons R4
  obtain ⟨y5, zs5, rfl, D5, R6⟩ := all_cons R5
  obtain rfl := none_open D5
  obtain ⟨y6, zs6, rfl, D6, R7⟩ := all_cons R6
  obtain ⟨u6, rfl⟩ := str_open D6
  obtain ⟨y7, zs7, rfl, D7, R8⟩ := all_cons R7
  obtain ⟨b7, m7, es7, rfl, hm7, K7⟩ := tup_open D7
  obtain rfl := all_nil K7
  obtain ⟨y8, zs8, rfl, D8, R9⟩ := all_cons R8
  obtain rfl := none_open D8
  obtain ⟨y9, zs9, rfl, D9, R10⟩ := all_cons R9
  obtain rfl := all_nil R10
  have := expP_len p
  have := expO_len f
  refine wpAny_call ?_
  k_dflt ktr_enter
  k_steps
  exact ret _ _ _ _ _ (by k_asm) (by k_asm) (by walk_at "grow here") (CS.re (by assumption) (by simp only [List.append_assoc]) (by simp only [It.exp, expO, expP, List.append_assoc, List.append_nil, List.nil_append]))

theorem dc_net01 {w : World} {mean : ExcName → Option Value} {mg mb : Str → Option Value}
    {dp un : Nat} {gd : Option (List Code)} {cn : Str} {cs : Scope} {a : Addr} {ccd : Value} {cl : List (Str × Addr)} {outer : List Env}
    {A₀ : Around} {base h₀ : Heap} {L : Addr} {m : Str → Option Value} {s : Shared} {Q E : Value → Shared → Prop}
    {q ti rw : Addr} {orw : Obj} {T0 rest : Led} {rows : List Dat} {v : Value} {p : Option (Int × VN × Int × VN)} {b : Int × VN × Int × VN} {f : Option (Int × VN)}
    (B : Below A₀ base outer h₀) (F : Fr h₀ L s.heap m) (X : (hd.heap_39 w.params).In h₀) (N : News h₀ L s.heap ((rw, orw) :: rest)) (T : TopM mean mg mb h₀)
    (hk : cs.kind = .function) (S : CS w q ti rw orw T0 rest rows) (D : DatIn rest v (It.dat (.net p none (some b) f))) (hsz : rows.length + 20 ≤ 1800000) (hdp : dp < 840)
    (ret : ∀ h' tk' orw' tl rest', Fr h₀ L h' m → News h₀ L h' ((rw, orw') :: rest') → Grow tl rest rest' → CS w q ti rw orw' (tl ++ T0) rest' (rows ++ It.exp (.net p none (some b) f)) → Q .none { s with heap := h', toks := tk' }) :
    wpAny (model PySem.Challenge.rw_on0096_01.row.prog w) (ktrTop dp un gd cn cs L a ccd cl outer) (call (.ref 126) [.ref q, .ref ti, v]) Q E s := by
  w_top off
  k_with_none
  k_with "exec Assign" => k_fold
  k_with "exec If" => k_fold
  k_with "exec Expr" => k_fold
  k_with "exec Return some" => k_fold
  k_with "sub here" => (first | exact sub_self | (refine sub_cons ?_; walk_at "sub here") | (refine sub_grow (by assumption) ?_; walk_at "sub here"))
  k_with "dat here" => (first | assumption | exact dat_up (by assumption) (by walk_at "sub here"))
  k_with "mine for" => ((k_here; (rename Fr _ _ _ _ => lF'); (with_unfolding_all refine' For_turns lF' ?_; k_whole)))
  k_with "exec For Name Subscript cons nil" => (walk_at "mine for")
  k_with "pyIter ref" => ((k_here; (with_reducible show wpAny _ _ (pyIter (Value.ref _)) (fun it s₂ => TurnsAt _ _ _ _ _ _ _ _ _ it s₂) _ _); (with_unfolding_all refine' iter_tupTurns ?kh ?kF ?kN (List.mem_cons_of_mem _ ?km) ?kc ?kd ?_; (case kh => rfl); (case kF => k_asm); (case kN => k_asm); (case km => k_mem); (case kc => rfl); (case kd => rfl)); intro i' l1; (try k_lt l1); (try dsimp only [List.map])))
  k_with "ItemsRest" => (first | ((with_unfolding_all refine ItemsRest.val (fun h' tk' F' => ?_)); (refine AllObj.cons (fun o' hc' => ?_)); (refine AllObj.nil (fun N' => ?_)); (try simp only [List.cons_append, List.nil_append] at N'); (obtain ⟨N', S'⟩ := turn_in N' (by assumption) (by omega))) | (with_unfolding_all refine ItemsRest.zero (fun h' tk' F' N' => ?_)))
  k_with "UnrEndW" => ((refine turn_end (by k_asm) (by k_asm) (by assumption) (by assumption) (by first | assumption | exact ne_allLt (by tbn_find)) (by omega) (by k_mem) (by assumption) ?_; intro rest' gR' S' hI' hk'))
  k_with "subscriptTail Name Slice ref ref" => ((k_here; (with_reducible show wpAny _ _ (subscriptTail _ (PySem.Expr.Slice _ _ none _) (Value.ref _) (Value.ref _)) _ _ _); k_dflt (refine' cut_tuple ?F ?N ?l ?a ?z ?_ ?s ?t; (case F => k_asm); (case N => k_asm); (case l => k_mem); (case a => exact Nat.le_of_ble_eq_true rfl); (case z => exact Nat.le_of_ble_eq_true rfl); (case s => with_unfolding_all rfl); (case t => (intro _; with_unfolding_all rfl))); intro D' h' F' N' l1; (try k_lt l1); (try dsimp only [List.drop] at N')))
  k_with "call ref" => ((k_here; (with_reducible show wpAny _ _ (call (Value.ref 84) _) _ _ _); k_dflt (refine' expr_spec ?k1 ?k2 ?k3 ?k4 ?k5 ?k6 ?k7 ?kd ?k8 ?k9 ?_; (case k7 => assumption); (case k1 => k_asm); (case k2 => k_asm); (case k3 => k_asm); (case k4 => k_asm); (case k5 => k_asm); (case k6 => first | exact rfl | assumption); (case kd => walk_at "dat here"); (case k8 => ((try simp only [List.length_append]); omega)); (case k9 => (dsimp only [ktrTop, Around.deeper]; omega))); k_whole; intro h' tk' o' tl' rest' F' N' gR' S'; (try k_fold)))
  k_with "call ref" => ((k_here; (with_reducible show wpAny _ _ (call (Value.ref 91) _) _ _ _); k_dflt (refine' each1_spec ?k1 ?k2 ?k3 ?k4 ?k5 ?k6 ?k7 ?kd ?k8 ?k9 ?_; (case k7 => assumption); (case k1 => k_asm); (case k2 => k_asm); (case k3 => k_asm); (case k4 => k_asm); (case k5 => k_asm); (case k6 => first | exact rfl | assumption); (case kd => walk_at "dat here"); (case k8 => ((try simp only [List.length_append]); omega)); (case k9 => (dsimp only [ktrTop, Around.deeper]; omega))); k_whole; intro h' tk' o' tl' rest' F' N' gR' S'; (try k_fold)))
  k_with "call ref" => ((k_here; (with_reducible show wpAny _ _ (call (Value.ref 98) _) _ _ _); k_dflt (refine' optional_spec ?k1 ?k2 ?k3 ?k4 ?k5 ?k6 ?k7 ?kd ?k8 ?k9 ?_; (case k7 => assumption); (case k1 => k_asm); (case k2 => k_asm); (case k3 => k_asm); (case k4 => k_asm); (case k5 => k_asm); (case k6 => first | exact rfl | assumption); (case kd => walk_at "dat here"); (case k8 => ((try simp only [List.length_append]); omega)); (case k9 => (dsimp only [ktrTop, Around.deeper]; omega))); k_whole; intro h' tk' o' tl' rest' F' N' gR' S'; (try k_fold)))
  k_with "call ref" => ((k_here; (with_reducible show wpAny _ _ (call (Value.ref 105) _) _ _ _); k_dflt (refine' range_spec ?k1 ?k2 ?k3 ?k4 ?k5 ?k6 ?k7 ?kd ?k8 ?k9 ?_; (case k7 => assumption); (case k1 => k_asm); (case k2 => k_asm); (case k3 => k_asm); (case k4 => k_asm); (case k5 => k_asm); (case k6 => first | exact rfl | assumption); (case kd => walk_at "dat here"); (case k8 => ((try simp only [List.length_append]); omega)); (case k9 => (dsimp only [ktrTop, Around.deeper]; omega))); k_whole; intro h' tk' o' tl' rest' F' N' gR' S'; (try k_fold)))
  k_with "grow here" => (first | assumption | exact Grow.trans (by assumption) (by walk_at "grow here"))
  obtain ⟨av, nv, vs, rfl, hm, R0⟩ := tup_open D
  obtain ⟨y0, zs0, rfl, D0, R1⟩ := all_cons R0
  obtain ⟨u0, rfl⟩ := str_open D0
  obtain ⟨y1, zs1, rfl, D1, R2⟩ := all_cons R1
  obtain ⟨u1, rfl⟩ := int_open D1
  obtain ⟨y2, zs2, rfl, D2, R3⟩ := all_cons R2
  obtain ⟨u2, rfl⟩ := str_open D2
  obtain ⟨y3, zs3, rfl, D3, R4⟩ := all_cons R3
  obtain rfl := bool_open D3
  obtain ⟨y4, zs4, rfl, D4, R5⟩ := all_cons R4
  obtain ⟨y5, zs5, rfl, D5, R6⟩ := all_cons R5
  obtain rfl := none_open D5
  obtain ⟨y6, zs6, rfl, D6, R7⟩ := all_cons R6
  obtain ⟨u6, rfl⟩ := str_open D6
  obtain ⟨y7, zs7, rfl, D7, R8⟩ := all_cons R7
  obtain ⟨b7, m7, e7, rfl, hm7, K7⟩ := dat1_open (d := pairD (some b)) D7
  obtain ⟨y8, zs8, rfl, D8, R9⟩ := all_cons R8
  obtain rfl := none_open D8
  obtain ⟨y9, zs9, rfl, D9, R10⟩ := all_cons R9
  obtain rfl := all_nil R10
  have := expP_len p
  have := expO_len f
  have := expP_len (some b)
  refine wpAny_call ?_
  k_dflt ktr_enter
  k_steps
  exact ret _ _ _ _ _ (by k_asm) (by k_asm) (by walk_at "grow here") (CS.re (by assumption) (by simp only [List.append_assoc]) (by simp only [It.exp, expO, expP, List.append_assoc, List.append_nil, List.nil_append]))

theorem dc_net10 {w : World} {mean : ExcName → Option Value} {mg mb : Str → Option Value}
    {dp un : Nat} {gd : Option (List Code)} {cn : Str} {cs : Scope} {a : Addr} {ccd : Value} {cl : List (Str × Addr)} {outer : List Env}
    {A₀ : Around} {base h₀ : Heap} {L : Addr} {m : Str → Option Value} {s : Shared} {Q E : Value → Shared → Prop}
    {q ti rw : Addr} {orw : Obj} {T0 rest : Led} {rows : List Dat} {v : Value} {p : Option (Int × VN × Int × VN)} {s1 : Int} {v1 : VN} {f : Option (Int × VN)}
    (B : Below A₀ base outer h₀) (F : Fr h₀ L s.heap m) (X : (hd.heap_39 w.params).In h₀) (N : News h₀ L s.heap ((rw, orw) :: rest)) (T : TopM mean mg mb h₀)
    (hk : cs.kind = .function) (S : CS w q ti rw orw T0 rest rows) (D : DatIn rest v (It.dat (.net p (some (s1, v1)) none f))) (hsz : rows.length + 20 ≤ 1800000) (hdp : dp < 840)
    (ret : ∀ h' tk' orw' tl rest', Fr h₀ L h' m → News h₀ L h' ((rw, orw') :: rest') → Grow tl rest rest' → CS w q ti rw orw' (tl ++ T0) rest' (rows ++ It.exp (.net p (some (s1, v1)) none f)) → Q .none { s with heap := h', toks := tk' }) :
    wpAny (model PySem.Challenge.rw_on0096_01.row.prog w) (ktrTop dp un gd cn cs L a ccd cl outer) (call (.ref 126) [.ref q, .ref ti, v]) Q E s := by
  w_top off
  k_with_none
  k_with "exec Assign" => k_fold
  k_with "exec If" => k_fold
  k_with "exec Expr" => k_fold
  k_with "exec Return some" => k_fold
  k_with "sub here" => (first | exact sub_self | (refine sub_cons ?_; walk_at "sub here") | (refine sub_grow (by assumption) ?_; walk_at "sub here"))
  k_with "dat here" => (first | assumption | exact dat_up (by assumption) (by walk_at "sub here"))
  k_with "mine for" => ((k_here; (rename Fr _ _ _ _ => lF'); (with_unfolding_all refine' For_turns lF' ?_; k_whole)))
  k_with "exec For Name Subscript cons nil" => (walk_at "mine for")
  k_with "pyIter ref" => ((k_here; (with_reducible show wpAny _ _ (pyIter (Value.ref _)) (fun it s₂ => TurnsAt _ _ _ _ _ _ _ _ _ it s₂) _ _); (with_unfolding_all refine' iter_tupTurns ?kh ?kF ?kN (List.mem_cons_of_mem _ ?km) ?kc ?kd ?_; (case kh => rfl); (case kF => k_asm); (case kN => k_asm); (case km => k_mem); (case kc => rfl); (case kd => rfl)); intro i' l1; (try k_lt l1); (try dsimp only [List.map])))
  k_with "ItemsRest" => (first | ((with_unfolding_all refine ItemsRest.val (fun h' tk' F' => ?_)); (refine AllObj.cons (fun o' hc' => ?_)); (refine AllObj.nil (fun N' => ?_)); (try simp only [List.cons_append, List.nil_append] at N'); (obtain ⟨N', S'⟩ := turn_in N' (by assumption) (by omega))) | (with_unfolding_all refine ItemsRest.zero (fun h' tk' F' N' => ?_)))
  k_with "UnrEndW" => ((refine turn_end (by k_asm) (by k_asm) (by assumption) (by assumption) (by first | assumption | exact ne_allLt (by tbn_find)) (by omega) (by k_mem) (by assumption) ?_; intro rest' gR' S' hI' hk'))
  k_with "subscriptTail Name Slice ref ref" => ((k_here; (with_reducible show wpAny _ _ (subscriptTail _ (PySem.Expr.Slice _ _ none _) (Value.ref _) (Value.ref _)) _ _ _); k_dflt (refine' cut_tuple ?F ?N ?l ?a ?z ?_ ?s ?t; (case F => k_asm); (case N => k_asm); (case l => k_mem); (case a => exact Nat.le_of_ble_eq_true rfl); (case z => exact Nat.le_of_ble_eq_true rfl); (case s => with_unfolding_all rfl); (case t => (intro _; with_unfolding_all rfl))); intro D' h' F' N' l1; (try k_lt l1); (try dsimp only [List.drop] at N')))
  k_with "call ref" => ((k_here; (with_reducible show wpAny _ _ (call (Value.ref 84) _) _ _ _); k_dflt (refine' expr_spec ?k1 ?k2 ?k3 ?k4 ?k5 ?k6 ?k7 ?kd ?k8 ?k9 ?_; (case k7 => assumption); (case k1 => k_asm); (case k2 => k_asm); (case k3 => k_asm); (case k4 => k_asm); (case k5 => k_asm); (case k6 => first | exact rfl | assumption); (case kd => walk_at "dat here"); (case k8 => ((try simp only [List.length_append]); omega)); (case k9 => (dsimp only [ktrTop, Around.deeper]; omega))); k_whole; intro h' tk' o' tl' rest' F' N' gR' S'; (try k_fold)))
  k_with "call ref" => ((k_here; (with_reducible show wpAny _ _ (call (Value.ref 91) _) _ _ _); k_dflt (refine' each1_spec ?k1 ?k2 ?k3 ?k4 ?k5 ?k6 ?k7 ?kd ?k8 ?k9 ?_; (case k7 => assumption); (case k1 => k_asm); (case k2 => k_asm); (case k3 => k_asm); (case k4 => k_asm); (case k5 => k_asm); (case k6 => first | exact rfl | assumption); (case kd => walk_at "dat here"); (case k8 => ((try simp only [List.length_append]); omega)); (case k9 => (dsimp only [ktrTop, Around.deeper]; omega))); k_whole; intro h' tk' o' tl' rest' F' N' gR' S'; (try k_fold)))
  k_with "call ref" => ((k_here; (with_reducible show wpAny _ _ (call (Value.ref 98) _) _ _ _); k_dflt (refine' optional_spec ?k1 ?k2 ?k3 ?k4 ?k5 ?k6 ?k7 ?kd ?k8 ?k9 ?_; (case k7 => assumption); (case k1 => k_asm); (case k2 => k_asm); (case k3 => k_asm); (case k4 => k_asm); (case k5 => k_asm); (case k6 => first | exact rfl | assumption); (case kd => walk_at "dat here"); (case k8 => ((try simp only [List.length_append]); omega)); (case k9 => (dsimp only [ktrTop, Around.deeper]; omega))); k_whole; intro h' tk' o' tl' rest' F' N' gR' S'; (try k_fold)))
  k_with "call ref" => ((k_here; (with_reducible show wpAny _ _ (call (Value.ref 105) _) _ _ _); k_dflt (refine' range_spec ?k1 ?k2 ?k3 ?k4 ?k5 ?k6 ?k7 ?kd ?k8 ?k9 ?_; (case k7 => assumption); (case k1 => k_asm); (case k2 => k_asm); (case k3 => k_asm); (case k4 => k_asm); (case k5 => k_asm); (case k6 => first | exact rfl | assumption); (case kd => walk_at "dat here"); (case k8 => ((try simp only [List.length_append]); omega)); (case k9 => (dsimp only [ktrTop, Around.deeper]; omega))); k_whole; intro h' tk' o' tl' rest' F' N' gR' S'; (try k_fold)))
  k_with "grow here" => (first | assumption | exact Grow.trans (by assumption) (by walk_at "grow here"))
  obtain ⟨av, nv, vs, rfl, hm, R0⟩ := tup_open D
  obtain ⟨y0, zs0, rfl, D0, R1⟩ := all_cons R0
  obtain ⟨u0, rfl⟩ := str_open D0
  obtain ⟨y1, zs1, rfl, D1, R2⟩ := all_cons R1
  obtain ⟨u1, rfl⟩ := int_open D1
  obtain ⟨y2, zs2, rfl, D2, R3⟩ := all_cons R2
  obtain ⟨u2, rfl⟩ := str_open D2
  obtain ⟨y3, zs3, rfl, D3, R4⟩ := all_cons R3
  obtain rfl := bool_open D3
  obtain ⟨y4, zs4, rfl, D4, R5⟩ := all_cons R4
  obtain ⟨y5, zs5, rfl, D5, R6⟩ := all_cons R5
  obtain ⟨b5, m5, e5, rfl, hm5, K5⟩ := dat1_open (d := valD s1 v1) D5
  have D5x : DatIn rest (.ref b5) (.tuple [valD s1 v1]) := D5
  obtain ⟨y6, zs6, rfl, D6, R7⟩ := all_cons R6
  obtain ⟨u6, rfl⟩ := str_open D6
  obtain ⟨y7, zs7, rfl, D7, R8⟩ := all_cons R7
  obtain ⟨b7, m7, es7, rfl, hm7, K7⟩ := tup_open D7
  obtain rfl := all_nil K7
  obtain ⟨y8, zs8, rfl, D8, R9⟩ := all_cons R8
  obtain rfl := none_open D8
  obtain ⟨y9, zs9, rfl, D9, R10⟩ := all_cons R9
  obtain rfl := all_nil R10
  have := expP_len p
  have := expO_len f
  have := expV_len s1 v1
  refine wpAny_call ?_
  k_dflt ktr_enter
  k_steps
  exact ret _ _ _ _ _ (by k_asm) (by k_asm) (by walk_at "grow here") (CS.re (by assumption) (by simp only [List.append_assoc]) (by simp only [It.exp, expO, expP, List.append_assoc, List.append_nil, List.nil_append]))

theorem dc_net11 {w : World} {mean : ExcName → Option Value} {mg mb : Str → Option Value}
    {dp un : Nat} {gd : Option (List Code)} {cn : Str} {cs : Scope} {a : Addr} {ccd : Value} {cl : List (Str × Addr)} {outer : List Env}
    {A₀ : Around} {base h₀ : Heap} {L : Addr} {m : Str → Option Value} {s : Shared} {Q E : Value → Shared → Prop}
    {q ti rw : Addr} {orw : Obj} {T0 rest : Led} {rows : List Dat} {v : Value} {p : Option (Int × VN × Int × VN)} {s1 : Int} {v1 : VN} {b : Int × VN × Int × VN} {f : Option (Int × VN)}
    (B : Below A₀ base outer h₀) (F : Fr h₀ L s.heap m) (X : (hd.heap_39 w.params).In h₀) (N : News h₀ L s.heap ((rw, orw) :: rest)) (T : TopM mean mg mb h₀)
    (hk : cs.kind = .function) (S : CS w q ti rw orw T0 rest rows) (D : DatIn rest v (It.dat (.net p (some (s1, v1)) (some b) f))) (hsz : rows.length + 20 ≤ 1800000) (hdp : dp < 840)
    (ret : ∀ h' tk' orw' tl rest', Fr h₀ L h' m → News h₀ L h' ((rw, orw') :: rest') → Grow tl rest rest' → CS w q ti rw orw' (tl ++ T0) rest' (rows ++ It.exp (.net p (some (s1, v1)) (some b) f)) → Q .none { s with heap := h', toks := tk' }) :
    wpAny (model PySem.Challenge.rw_on0096_01.row.prog w) (ktrTop dp un gd cn cs L a ccd cl outer) (call (.ref 126) [.ref q, .ref ti, v]) Q E s := by
  w_top off
  k_with_none
  k_with "exec Assign" => k_fold
  k_with "exec If" => k_fold
  k_with "exec Expr" => k_fold
  k_with "exec Return some" => k_fold
  k_with "sub here" => (first | exact sub_self | (refine sub_cons ?_; walk_at "sub here") | (refine sub_grow (by assumption) ?_; walk_at "sub here"))
  k_with "dat here" => (first | assumption | exact dat_up (by assumption) (by walk_at "sub here"))
  k_with "mine for" => ((k_here; (rename Fr _ _ _ _ => lF'); (with_unfolding_all refine' For_turns lF' ?_; k_whole)))
  k_with "exec For Name Subscript cons nil" => (walk_at "mine for")
  k_with "pyIter ref" => ((k_here; (with_reducible show wpAny _ _ (pyIter (Value.ref _)) (fun it s₂ => TurnsAt _ _ _ _ _ _ _ _ _ it s₂) _ _); (with_unfolding_all refine' iter_tupTurns ?kh ?kF ?kN (List.mem_cons_of_mem _ ?km) ?kc ?kd ?_; (case kh => rfl); (case kF => k_asm); (case kN => k_asm); (case km => k_mem); (case kc => rfl); (case kd => rfl)); intro i' l1; (try k_lt l1); (try dsimp only [List.map])))
  k_with "ItemsRest" => (first | ((with_unfolding_all refine ItemsRest.val (fun h' tk' F' => ?_)); (refine AllObj.cons (fun o' hc' => ?_)); (refine AllObj.nil (fun N' => ?_)); (try simp only [List.cons_append, List.nil_append] at N'); (obtain ⟨N', S'⟩ := turn_in N' (by assumption) (by omega))) | (with_unfolding_all refine ItemsRest.zero (fun h' tk' F' N' => ?_)))
  k_with "UnrEndW" => ((refine turn_end (by k_asm) (by k_asm) (by assumption) (by assumption) (by first | assumption | exact ne_allLt (by tbn_find)) (by omega) (by k_mem) (by assumption) ?_; intro rest' gR' S' hI' hk'))
  k_with "subscriptTail Name Slice ref ref" => ((k_here; (with_reducible show wpAny _ _ (subscriptTail _ (PySem.Expr.Slice _ _ none _) (Value.ref _) (Value.ref _)) _ _ _); k_dflt (refine' cut_tuple ?F ?N ?l ?a ?z ?_ ?s ?t; (case F => k_asm); (case N => k_asm); (case l => k_mem); (case a => exact Nat.le_of_ble_eq_true rfl); (case z => exact Nat.le_of_ble_eq_true rfl); (case s => with_unfolding_all rfl); (case t => (intro _; with_unfolding_all rfl))); intro D' h' F' N' l1; (try k_lt l1); (try dsimp only [List.drop] at N')))
  k_with "call ref" => ((k_here; (with_reducible show wpAny _ _ (call (Value.ref 84) _) _ _ _); k_dflt (refine' expr_spec ?k1 ?k2 ?k3 ?k4 ?k5 ?k6 ?k7 ?kd ?k8 ?k9 ?_; (case k7 => assumption); (case k1 => k_asm); (case k2 => k_asm); (case k3 => k_asm); (case k4 => k_asm); (case k5 => k_asm); (case k6 => first | exact rfl | assumption); (case kd => walk_at "dat here"); (case k8 => ((try simp only [List.length_append]); omega)); (case k9 => (dsimp only [ktrTop, Around.deeper]; omega))); k_whole; intro h' tk' o' tl' rest' F' N' gR' S'; (try k_fold)))
  k_with "call ref" => ((k_here; (with_reducible show wpAny _ _ (call (Value.ref 91) _) _ _ _); k_dflt (refine' each1_spec ?k1 ?k2 ?k3 ?k4 ?k5 ?k6 ?k7 ?kd ?k8 ?k9 ?_; (case k7 => assumption); (case k1 => k_asm); (case k2 => k_asm); (case k3 => k_asm); (case k4 => k_asm); (case k5 => k_asm); (case k6 => first | exact rfl | assumption); (case kd => walk_at "dat here"); (case k8 => ((try simp only [List.length_append]); omega)); (case k9 => (dsimp only [ktrTop, Around.deeper]; omega))); k_whole; intro h' tk' o' tl' rest' F' N' gR' S'; (try k_fold)))
  k_with "call ref" => ((k_here; (with_reducible show wpAny _ _ (call (Value.ref 98) _) _ _ _); k_dflt (refine' optional_spec ?k1 ?k2 ?k3 ?k4 ?k5 ?k6 ?k7 ?kd ?k8 ?k9 ?_; (case k7 => assumption); (case k1 => k_asm); (case k2 => k_asm); (case k3 => k_asm); (case k4 => k_asm); (case k5 => k_asm); (case k6 => first | exact rfl | assumption); (case kd => walk_at "dat here"); (case k8 => ((try simp only [List.length_append]); omega)); (case k9 => (dsimp only [ktrTop, Around.deeper]; omega))); k_whole; intro h' tk' o' tl' rest' F' N' gR' S'; (try k_fold)))
  k_with "call ref" => ((k_here; (with_reducible show wpAny _ _ (call (Value.ref 105) _) _ _ _); k_dflt (refine' range_spec ?k1 ?k2 ?k3 ?k4 ?k5 ?k6 ?k7 ?kd ?k8 ?k9 ?_; (case k7 => assumption); (case k1 => k_asm); (case k2 => k_asm); (case k3 => k_asm); (case k4 => k_asm); (case k5 => k_asm); (case k6 => first | exact rfl | assumption); (case kd => walk_at "dat here"); (case k8 => ((try simp only [List.length_append]); omega)); (case k9 => (dsimp only [ktrTop, Around.deeper]; omega))); k_whole; intro h' tk' o' tl' rest' F' N' gR' S'; (try k_fold)))
  k_with "grow here" => (first | assumption | exact Grow.trans (by assumption) (by walk_at "grow here"))
  obtain ⟨av, nv, vs, rfl, hm, R0⟩ := tup_open D
  obtain ⟨y0, zs0, rfl, D0, R1⟩ := all_cons R0
  obtain ⟨u0, rfl⟩ := str_open D0
  obtain ⟨y1, zs1, rfl, D1, R2⟩ := all_cons R1
  obtain ⟨u1, rfl⟩ := int_open D1
  obtain ⟨y2, zs2, rfl, D2, R3⟩ := all_cons R2
  obtain ⟨u2, rfl⟩ := str_open D2
  obtain ⟨y3, zs3, rfl, D3, R4⟩ := all_cons R3
  obtain rfl := bool_open D3
  obtain ⟨y4, zs4, rfl, D4, R5⟩ := all_cons R4
  obtain ⟨y5, zs5, rfl, D5, R6⟩ := all_cons R5
  obtain ⟨b5, m5, e5, rfl, hm5, K5⟩ := dat1_open (d := valD s1 v1) D5
  have D5x : DatIn rest (.ref b5) (.tuple [valD s1 v1]) := D5
  obtain ⟨y6, zs6, rfl, D6, R7⟩ := all_cons R6
  obtain ⟨u6, rfl⟩ := str_open D6
  obtain ⟨y7, zs7, rfl, D7, R8⟩ := all_cons R7
  obtain ⟨b7, m7, e7, rfl, hm7, K7⟩ := dat1_open (d := pairD (some b)) D7
  obtain ⟨y8, zs8, rfl, D8, R9⟩ := all_cons R8
  obtain rfl := none_open D8
  obtain ⟨y9, zs9, rfl, D9, R10⟩ := all_cons R9
  obtain rfl := all_nil R10
  have := expP_len p
  have := expO_len f
  have := expV_len s1 v1
  have := expP_len (some b)
  refine wpAny_call ?_
  k_dflt ktr_enter
  k_steps
  exact ret _ _ _ _ _ (by k_asm) (by k_asm) (by walk_at "grow here") (CS.re (by assumption) (by simp only [List.append_assoc]) (by simp only [It.exp, expO, expP, List.append_assoc, List.append_nil, List.nil_append]))

theorem dc_var0 {w : World} {mean : ExcName → Option Value} {mg mb : Str → Option Value}
    {dp un : Nat} {gd : Option (List Code)} {cn : Str} {cs : Scope} {a : Addr} {ccd : Value} {cl : List (Str × Addr)} {outer : List Env}
    {A₀ : Around} {base h₀ : Heap} {L : Addr} {m : Str → Option Value} {s : Shared} {Q E : Value → Shared → Prop}
    {q ti rw : Addr} {orw : Obj} {T0 rest : Led} {rows : List Dat} {v : Value} {p : Option (Int × VN × Int × VN)} {f : Option (Int × VN)}
    (B : Below A₀ base outer h₀) (F : Fr h₀ L s.heap m) (X : (hd.heap_39 w.params).In h₀) (N : News h₀ L s.heap ((rw, orw) :: rest)) (T : TopM mean mg mb h₀)
    (hk : cs.kind = .function) (S : CS w q ti rw orw T0 rest rows) (D : DatIn rest v (It.dat (.var p none f))) (hsz : rows.length + 20 ≤ 1800000) (hdp : dp < 840)
    (ret : ∀ h' tk' orw' tl rest', Fr h₀ L h' m → News h₀ L h' ((rw, orw') :: rest') → Grow tl rest rest' → CS w q ti rw orw' (tl ++ T0) rest' (rows ++ It.exp (.var p none f)) → Q .none { s with heap := h', toks := tk' }) :
    wpAny (model PySem.Challenge.rw_on0096_01.row.prog w) (ktrTop dp un gd cn cs L a ccd cl outer) (call (.ref 126) [.ref q, .ref ti, v]) Q E s := by
  w_top off
  k_with_none
  k_with "exec Assign" => k_fold
  k_with "exec If" => k_fold
  k_with "exec Expr" => k_fold
  k_with "exec Return some" => k_fold
  k_with "sub here" => (first | exact sub_self | (refine sub_cons ?_; walk_at "sub here") | (refine sub_grow (by assumption) ?_; walk_at "sub here"))
  k_with "dat here" => (first | assumption | exact dat_up (by assumption) (by walk_at "sub here"))
  k_with "mine for" => ((k_here; (rename Fr _ _ _ _ => lF'); (with_unfolding_all refine' For_turns lF' ?_; k_whole)))
  k_with "exec For Name Subscript cons nil" => (walk_at "mine for")
  k_with "pyIter ref" => ((k_here; (with_reducible show wpAny _ _ (pyIter (Value.ref _)) (fun it s₂ => TurnsAt _ _ _ _ _ _ _ _ _ it s₂) _ _); (with_unfolding_all refine' iter_tupTurns ?kh ?kF ?kN (List.mem_cons_of_mem _ ?km) ?kc ?kd ?_; (case kh => rfl); (case kF => k_asm); (case kN => k_asm); (case km => k_mem); (case kc => rfl); (case kd => rfl)); intro i' l1; (try k_lt l1); (try dsimp only [List.map])))
  k_with "ItemsRest" => (first | ((with_unfolding_all refine ItemsRest.val (fun h' tk' F' => ?_)); (refine AllObj.cons (fun o' hc' => ?_)); (refine AllObj.nil (fun N' => ?_)); (try simp only [List.cons_append, List.nil_append] at N'); (obtain ⟨N', S'⟩ := turn_in N' (by assumption) (by omega))) | (with_unfolding_all refine ItemsRest.zero (fun h' tk' F' N' => ?_)))
  k_with "UnrEndW" => ((refine turn_end (by k_asm) (by k_asm) (by assumption) (by assumption) (by first | assumption | exact ne_allLt (by tbn_find)) (by omega) (by k_mem) (by assumption) ?_; intro rest' gR' S' hI' hk'))
  k_with "subscriptTail Name Slice ref ref" => ((k_here; (with_reducible show wpAny _ _ (subscriptTail _ (PySem.Expr.Slice _ _ none _) (Value.ref _) (Value.ref _)) _ _ _); k_dflt (refine' cut_tuple ?F ?N ?l ?a ?z ?_ ?s ?t; (case F => k_asm); (case N => k_asm); (case l => k_mem); (case a => exact Nat.le_of_ble_eq_true rfl); (case z => exact Nat.le_of_ble_eq_true rfl); (case s => with_unfolding_all rfl); (case t => (intro _; with_unfolding_all rfl))); intro D' h' F' N' l1; (try k_lt l1); (try dsimp only [List.drop] at N')))
  k_with "call ref" => ((k_here; (with_reducible show wpAny _ _ (call (Value.ref 84) _) _ _ _); k_dflt (refine' expr_spec ?k1 ?k2 ?k3 ?k4 ?k5 ?k6 ?k7 ?kd ?k8 ?k9 ?_; (case k7 => assumption); (case k1 => k_asm); (case k2 => k_asm); (case k3 => k_asm); (case k4 => k_asm); (case k5 => k_asm); (case k6 => first | exact rfl | assumption); (case kd => walk_at "dat here"); (case k8 => ((try simp only [List.length_append]); omega)); (case k9 => (dsimp only [ktrTop, Around.deeper]; omega))); k_whole; intro h' tk' o' tl' rest' F' N' gR' S'; (try k_fold)))
  k_with "call ref" => ((k_here; (with_reducible show wpAny _ _ (call (Value.ref 91) _) _ _ _); k_dflt (refine' each1_spec ?k1 ?k2 ?k3 ?k4 ?k5 ?k6 ?k7 ?kd ?k8 ?k9 ?_; (case k7 => assumption); (case k1 => k_asm); (case k2 => k_asm); (case k3 => k_asm); (case k4 => k_asm); (case k5 => k_asm); (case k6 => first | exact rfl | assumption); (case kd => walk_at "dat here"); (case k8 => ((try simp only [List.length_append]); omega)); (case k9 => (dsimp only [ktrTop, Around.deeper]; omega))); k_whole; intro h' tk' o' tl' rest' F' N' gR' S'; (try k_fold)))
  k_with "call ref" => ((k_here; (with_reducible show wpAny _ _ (call (Value.ref 98) _) _ _ _); k_dflt (refine' optional_spec ?k1 ?k2 ?k3 ?k4 ?k5 ?k6 ?k7 ?kd ?k8 ?k9 ?_; (case k7 => assumption); (case k1 => k_asm); (case k2 => k_asm); (case k3 => k_asm); (case k4 => k_asm); (case k5 => k_asm); (case k6 => first | exact rfl | assumption); (case kd => walk_at "dat here"); (case k8 => ((try simp only [List.length_append]); omega)); (case k9 => (dsimp only [ktrTop, Around.deeper]; omega))); k_whole; intro h' tk' o' tl' rest' F' N' gR' S'; (try k_fold)))
  k_with "call ref" => ((k_here; (with_reducible show wpAny _ _ (call (Value.ref 105) _) _ _ _); k_dflt (refine' range_spec ?k1 ?k2 ?k3 ?k4 ?k5 ?k6 ?k7 ?kd ?k8 ?k9 ?_; (case k7 => assumption); (case k1 => k_asm); (case k2 => k_asm); (case k3 => k_asm); (case k4 => k_asm); (case k5 => k_asm); (case k6 => first | exact rfl | assumption); (case kd => walk_at "dat here"); (case k8 => ((try simp only [List.length_append]); omega)); (case k9 => (dsimp only [ktrTop, Around.deeper]; omega))); k_whole; intro h' tk' o' tl' rest' F' N' gR' S'; (try k_fold)))
  k_with "grow here" => (first | assumption | exact Grow.trans (by assumption) (by walk_at "grow here"))
  obtain ⟨av, nv, vs, rfl, hm, R0⟩ := tup_open D
  obtain ⟨y0, zs0, rfl, D0, R1⟩ := all_cons R0
  obtain ⟨u0, rfl⟩ := str_open D0
  obtain ⟨y1, zs1, rfl, D1, R2⟩ := all_cons R1
  obtain ⟨u1, rfl⟩ := int_open D1
  obtain ⟨y2, zs2, rfl, D2, R3⟩ := all_cons R2
  obtain ⟨u2, rfl⟩ := str_open D2
  obtain ⟨y3, zs3, rfl, D3, R4⟩ := all_cons R3
  obtain rfl := bool_open D3
  obtain ⟨y4, zs4, rfl, D4, R5⟩ := all_cons R4
  obtain ⟨y5, zs5, rfl, D5, R6⟩ := all_cons R5
  obtain ⟨u5, rfl⟩ := str_open D5
  obtain ⟨y6, zs6, rfl, D6, R7⟩ := all_cons R6
  obtain ⟨b6, m6, es6, rfl, hm6, K6⟩ := tup_open D6
  obtain rfl := all_nil K6
  obtain ⟨y7, zs7, rfl, D7, R8⟩ := all_cons R7
  obtain rfl := all_nil R8
  have := expP_len p
  have := expO_len f
  refine wpAny_call ?_
  k_dflt ktr_enter
  k_steps
  exact ret _ _ _ _ _ (by k_asm) (by k_asm) (by walk_at "grow here") (CS.re (by assumption) (by simp only [List.append_assoc]) (by simp only [It.exp, expO, expP, List.append_assoc, List.append_nil, List.nil_append]))

theorem dc_var1 {w : World} {mean : ExcName → Option Value} {mg mb : Str → Option Value}
    {dp un : Nat} {gd : Option (List Code)} {cn : Str} {cs : Scope} {a : Addr} {ccd : Value} {cl : List (Str × Addr)} {outer : List Env}
    {A₀ : Around} {base h₀ : Heap} {L : Addr} {m : Str → Option Value} {s : Shared} {Q E : Value → Shared → Prop}
    {q ti rw : Addr} {orw : Obj} {T0 rest : Led} {rows : List Dat} {v : Value} {p : Option (Int × VN × Int × VN)} {b : Int × VN × Int × VN} {f : Option (Int × VN)}
    (B : Below A₀ base outer h₀) (F : Fr h₀ L s.heap m) (X : (hd.heap_39 w.params).In h₀) (N : News h₀ L s.heap ((rw, orw) :: rest)) (T : TopM mean mg mb h₀)
    (hk : cs.kind = .function) (S : CS w q ti rw orw T0 rest rows) (D : DatIn rest v (It.dat (.var p (some b) f))) (hsz : rows.length + 20 ≤ 1800000) (hdp : dp < 840)
    (ret : ∀ h' tk' orw' tl rest', Fr h₀ L h' m → News h₀ L h' ((rw, orw') :: rest') → Grow tl rest rest' → CS w q ti rw orw' (tl ++ T0) rest' (rows ++ It.exp (.var p (some b) f)) → Q .none { s with heap := h', toks := tk' }) :
    wpAny (model PySem.Challenge.rw_on0096_01.row.prog w) (ktrTop dp un gd cn cs L a ccd cl outer) (call (.ref 126) [.ref q, .ref ti, v]) Q E s := by
  w_top off
  k_with_none
  k_with "exec Assign" => k_fold
  k_with "exec If" => k_fold
  k_with "exec Expr" => k_fold
  k_with "exec Return some" => k_fold
  k_with "sub here" => (first | exact sub_self | (refine sub_cons ?_; walk_at "sub here") | (refine sub_grow (by assumption) ?_; walk_at "sub here"))
  k_with "dat here" => (first | assumption | exact dat_up (by assumption) (by walk_at "sub here"))
  k_with "mine for" => ((k_here; (rename Fr _ _ _ _ => lF'); (with_unfolding_all refine' For_turns lF' ?_; k_whole)))
  k_with "exec For Name Subscript cons nil" => (walk_at "mine for")
  k_with "pyIter ref" => ((k_here; (with_reducible show wpAny _ _ (pyIter (Value.ref _)) (fun it s₂ => TurnsAt _ _ _ _ _ _ _ _ _ it s₂) _ _); (with_unfolding_all refine' iter_tupTurns ?kh ?kF ?kN (List.mem_cons_of_mem _ ?km) ?kc ?kd ?_; (case kh => rfl); (case kF => k_asm); (case kN => k_asm); (case km => k_mem); (case kc => rfl); (case kd => rfl)); intro i' l1; (try k_lt l1); (try dsimp only [List.map])))
  k_with "ItemsRest" => (first | ((with_unfolding_all refine ItemsRest.val (fun h' tk' F' => ?_)); (refine AllObj.cons (fun o' hc' => ?_)); (refine AllObj.nil (fun N' => ?_)); (try simp only [List.cons_append, List.nil_append] at N'); (obtain ⟨N', S'⟩ := turn_in N' (by assumption) (by omega))) | (with_unfolding_all refine ItemsRest.zero (fun h' tk' F' N' => ?_)))
  k_with "UnrEndW" => ((refine turn_end (by k_asm) (by k_asm) (by assumption) (by assumption) (by first | assumption | exact ne_allLt (by tbn_find)) (by omega) (by k_mem) (by assumption) ?_; intro rest' gR' S' hI' hk'))
  k_with "subscriptTail Name Slice ref ref" => ((k_here; (with_reducible show wpAny _ _ (subscriptTail _ (PySem.Expr.Slice _ _ none _) (Value.ref _) (Value.ref _)) _ _ _); k_dflt (refine' cut_tuple ?F ?N ?l ?a ?z ?_ ?s ?t; (case F => k_asm); (case N => k_asm); (case l => k_mem); (case a => exact Nat.le_of_ble_eq_true rfl); (case z => exact Nat.le_of_ble_eq_true rfl); (case s => with_unfolding_all rfl); (case t => (intro _; with_unfolding_all rfl))); intro D' h' F' N' l1; (try k_lt l1); (try dsimp only [List.drop] at N')))
  k_with "call ref" => ((k_here; (with_reducible show wpAny _ _ (call (Value.ref 84) _) _ _ _); k_dflt (refine' expr_spec ?k1 ?k2 ?k3 ?k4 ?k5 ?k6 ?k7 ?kd ?k8 ?k9 ?_; (case k7 => assumption); (case k1 => k_asm); (case k2 => k_asm); (case k3 => k_asm); (case k4 => k_asm); (case k5 => k_asm); (case k6 => first | exact rfl | assumption); (case kd => walk_at "dat here"); (case k8 => ((try simp only [List.length_append]); omega)); (case k9 => (dsimp only [ktrTop, Around.deeper]; omega))); k_whole; intro h' tk' o' tl' rest' F' N' gR' S'; (try k_fold)))
  k_with "call ref" => ((k_here; (with_reducible show wpAny _ _ (call (Value.ref 91) _) _ _ _); k_dflt (refine' each1_spec ?k1 ?k2 ?k3 ?k4 ?k5 ?k6 ?k7 ?kd ?k8 ?k9 ?_; (case k7 => assumption); (case k1 => k_asm); (case k2 => k_asm); (case k3 => k_asm); (case k4 => k_asm); (case k5 => k_asm); (case k6 => first | exact rfl | assumption); (case kd => walk_at "dat here"); (case k8 => ((try simp only [List.length_append]); omega)); (case k9 => (dsimp only [ktrTop, Around.deeper]; omega))); k_whole; intro h' tk' o' tl' rest' F' N' gR' S'; (try k_fold)))
  k_with "call ref" => ((k_here; (with_reducible show wpAny _ _ (call (Value.ref 98) _) _ _ _); k_dflt (refine' optional_spec ?k1 ?k2 ?k3 ?k4 ?k5 ?k6 ?k7 ?kd ?k8 ?k9 ?_; (case k7 => assumption); (case k1 => k_asm); (case k2 => k_asm); (case k3 => k_asm); (case k4 => k_asm); (case k5 => k_asm); (case k6 => first | exact rfl | assumption); (case kd => walk_at "dat here"); (case k8 => ((try simp only [List.length_append]); omega)); (case k9 => (dsimp only [ktrTop, Around.deeper]; omega))); k_whole; intro h' tk' o' tl' rest' F' N' gR' S'; (try k_fold)))
  k_with "call ref" => ((k_here; (with_reducible show wpAny _ _ (call (Value.ref 105) _) _ _ _); k_dflt (refine' range_spec ?k1 ?k2 ?k3 ?k4 ?k5 ?k6 ?k7 ?kd ?k8 ?k9 ?_; (case k7 => assumption); (case k1 => k_asm); (case k2 => k_asm); (case k3 => k_asm); (case k4 => k_asm); (case k5 => k_asm); (case k6 => first | exact rfl | assumption); (case kd => walk_at "dat here"); (case k8 => ((try simp only [List.length_append]); omega)); (case k9 => (dsimp only [ktrTop, Around.deeper]; omega))); k_whole; intro h' tk' o' tl' rest' F' N' gR' S'; (try k_fold)))
  k_with "grow here" => (first | assumption | exact Grow.trans (by assumption) (by walk_at "grow here"))
  obtain ⟨av, nv, vs, rfl, hm, R0⟩ := tup_open D
  obtain ⟨y0, zs0, rfl, D0, R1⟩ := all_cons R0
  obtain ⟨u0, rfl⟩ := str_open D0
  obtain ⟨y1, zs1, rfl, D1, R2⟩ := all_cons R1
  obtain ⟨u1, rfl⟩ := int_open D1
  obtain ⟨y2, zs2, rfl, D2, R3⟩ := all_cons R2
  obtain ⟨u2, rfl⟩ := str_open D2
  obtain ⟨y3, zs3, rfl, D3, R4⟩ := all_cons R3
  obtain rfl := bool_open D3
  obtain ⟨y4, zs4, rfl, D4, R5⟩ := all_cons R4
  obtain ⟨y5, zs5, rfl, D5, R6⟩ := all_cons R5
  obtain ⟨u5, rfl⟩ := str_open D5
  obtain ⟨y6, zs6, rfl, D6, R7⟩ := all_cons R6
  obtain ⟨b6, m6, e6, rfl, hm6, K6⟩ := dat1_open (d := pairD (some b)) D6
  obtain ⟨y7, zs7, rfl, D7, R8⟩ := all_cons R7
  obtain rfl := all_nil R8
  have := expP_len p
  have := expO_len f
  have := expP_len (some b)
  refine wpAny_call ?_
  k_dflt ktr_enter
  k_steps
  exact ret _ _ _ _ _ (by k_asm) (by k_asm) (by walk_at "grow here") (CS.re (by assumption) (by simp only [List.append_assoc]) (by simp only [It.exp, expO, expP, List.append_assoc, List.append_nil, List.nil_append]))

end
theorem decl_spec {w : World} {mean : ExcName → Option Value} {mg mb : Str → Option Value}
    {dp un : Nat} {gd : Option (List Code)} {cn : Str} {cs : Scope} {a : Addr} {ccd : Value} {cl : List (Str × Addr)} {outer : List Env}
    {A₀ : Around} {base h₀ : Heap} {L : Addr} {m : Str → Option Value} {s : Shared} {Q E : Value → Shared → Prop}
    {q ti rw : Addr} {orw : Obj} {T0 rest : Led} {rows : List Dat} {v : Value} {it : It}
    (B : Below A₀ base outer h₀) (F : Fr h₀ L s.heap m) (X : (hd.heap_39 w.params).In h₀) (N : News h₀ L s.heap ((rw, orw) :: rest)) (T : TopM mean mg mb h₀)
    (hk : cs.kind = .function) (S : CS w q ti rw orw T0 rest rows) (D : DatIn rest v it.dat) (hsz : rows.length + 20 ≤ 1800000) (hdp : dp < 840)
    (ret : ∀ h' tk' orw' tl rest', Fr h₀ L h' m → News h₀ L h' ((rw, orw') :: rest') → Grow tl rest rest' → CS w q ti rw orw' (tl ++ T0) rest' (rows ++ It.exp it) → Q .none { s with heap := h', toks := tk' }) :
    wpAny (model PySem.Challenge.rw_on0096_01.row.prog w) (ktrTop dp un gd cn cs L a ccd cl outer) (call (.ref 126) [.ref q, .ref ti, v]) Q E s := by
  cases it with
  | param p s1 v1 => exact dc_param B F X N T hk S D hsz hdp ret
  | port p => exact dc_port B F X N T hk S D hsz hdp ret
  | net p dl b f =>
    rcases dl with _ | ⟨s1, v1⟩ <;> rcases b with _ | b
    · exact dc_net00 B F X N T hk S D hsz hdp ret
    · exact dc_net01 B F X N T hk S D hsz hdp ret
    · exact dc_net10 B F X N T hk S D hsz hdp ret
    · exact dc_net11 B F X N T hk S D hsz hdp ret
  | var p b f =>
    rcases b with _ | b
    · exact dc_var0 B F X N T hk S D hsz hdp ret
    · exact dc_var1 B F X N T hk S D hsz hdp ret
end Mine
namespace Mine
theorem fillNow8 : (PySem.Challenge.rw_on0096_01.row.prog, hd.heap_39) = (PySem.Challenge.rw_on0096_01.row.prog, hd.heap_39) := by k_fill; rfl

/-- an entry of the law's own table -/
def EntAt (R : Led) (j : Nat) (v : Value) : Prop := ∃ a n t v2, v = .ref a ∧ (a, tupO [.str (kindOf j) t, v2] n) ∈ R ∧ DatIn R v2 (moreOf j)

theorem entries_law {w : World} {mean : ExcName → Option Value} {mg mb : Str → Option Value}
    {dp un : Nat} {gd : Option (List Code)} {cn : Str} {cs : Scope} {a : Addr} {ccd : Value} {cl : List (Str × Addr)} {outer : List Env}
    {A₀ : Around} {base h₀ : Heap} {L : Addr} {m : Str → Option Value} {s : Shared} {Q E : Value → Shared → Prop}
    {bi ti dti bo to dto r D c : Addr} {obi oti odti obo oto odto o oD oc : Obj}
    (B : Below A₀ base outer h₀) (F : Fr h₀ L s.heap m) (X : (hd.heap_39 w.params).In h₀) (N : News h₀ L s.heap [(bi, obi), (ti, oti), (dti, odti), (bo, obo), (to, oto), (dto, odto), (r, o), (D, oD), (c, oc)]) (T : TopM mean mg mb h₀)
    (hk : cs.kind = .function) (hdp : dp < 900)
    (n1 : ∀ p ∈ [(ti, oti), (dti, odti), (to, oto), (dto, odto), (D, oD), (c, oc)], p.1 ≠ bi) (n2 : ∀ p ∈ [(ti, oti), (dti, odti), (to, oto), (dto, odto), (D, oD), (c, oc)], p.1 ≠ bo) (n3 : ∀ p ∈ [(ti, oti), (dti, odti), (to, oto), (dto, odto), (D, oD), (c, oc)], p.1 ≠ r)
    (ret : ∀ h' tk' de oe R a8 a9 a7 a5 a0 a4 a2 a6 a3 a1 k8 k9 k7 k5 k0 k4 k2 k6 k3 k1 t8 t9 t7 t5 t0 t4 t2 t6 t3 t1 v8 v9 v7 v5 v0 v4 v2 v6 v3 v1, Fr h₀ L h' m → News h₀ L h' ((bi, obi) :: (bo, obo) :: (r, o) :: R) → (∀ p ∈ R, p.1 ≠ bi) → (∀ p ∈ R, p.1 ≠ bo) → (∀ p ∈ R, p.1 ≠ r) →
      (de, oe) ∈ R → (de == sysModules) = false → (ti, oti) ∈ R → (dti, odti) ∈ R → (to, oto) ∈ R → (dto, odto) ∈ R → (c, oc) ∈ R →
      Obj.IsDictOf (PySem.strKind PySem.Challenge.rw_on0096_01.row.prog w) oe [(Str.ofString "wi", .ref a8), (Str.ofString "wo", .ref a9), (Str.ofString "w", .ref a7), (Str.ofString "r", .ref a5), (Str.ofString "P", .ref a0), (Str.ofString "g", .ref a4), (Str.ofString "e", .ref a2), (Str.ofString "t", .ref a6), (Str.ofString "f", .ref a3), (Str.ofString "b", .ref a1)] →
      (a8, tupO [.str (Str.ofString "net") t8, v8] k8) ∈ R → (a9, tupO [.str (Str.ofString "net") t9, v9] k9) ∈ R → (a7, tupO [.str (Str.ofString "net") t7, v7] k7) ∈ R → (a5, tupO [.str (Str.ofString "var") t5, v5] k5) ∈ R → (a0, tupO [.str (Str.ofString "param") t0, v0] k0) ∈ R →
      (a4, tupO [.str (Str.ofString "genvar") t4, v4] k4) ∈ R → (a2, tupO [.str (Str.ofString "event") t2, v2] k2) ∈ R → (a6, tupO [.str (Str.ofString "task") t6, v6] k6) ∈ R → (a3, tupO [.str (Str.ofString "function") t3, v3] k3) ∈ R → (a1, tupO [.str (Str.ofString "block") t1, v1] k1) ∈ R →
      DatIn R v8 (moreOf 8) → DatIn R v9 (moreOf 9) → DatIn R v7 (moreOf 7) → DatIn R v5 (moreOf 5) → DatIn R v0 (moreOf 0) → DatIn R v4 (moreOf 4) → DatIn R v2 (moreOf 2) → DatIn R v6 (moreOf 6) → DatIn R v3 (moreOf 3) → DatIn R v1 (moreOf 1) → Q (.ref de) { s with heap := h', toks := tk' }) :
    wpAny (model PySem.Challenge.rw_on0096_01.row.prog w) (ktrTop dp un gd cn cs L a ccd cl outer) (call (.ref 156) []) Q E s := by
  refine entries_canon B F X N T hk hdp fun h' tk' de oe tl v8 v9 v7 v5 v0 v4 v2 v6 v3 v1 F' N' hap lo hE => ?_
  obtain ⟨R, hR⟩ : ∃ R : Led, R = ((de, oe) :: tl) ++ [(ti, oti), (dti, odti), (to, oto), (dto, odto), (D, oD), (c, oc)] := ⟨_, rfl⟩
  have hs : ∀ p ∈ (de, oe) :: tl, p ∈ R := fun p hp => by rw [hR]; exact List.mem_append.mpr (.inl hp)
  have hs2 : ∀ p ∈ tl, p ∈ R := fun p hp => hs p (.tail _ hp)
  have hq : ∀ p ∈ [(ti, oti), (dti, odti), (to, oto), (dto, odto), (D, oD), (c, oc)], p ∈ R := fun p hp => by rw [hR]; exact List.mem_append.mpr (.inr hp)
  have ha : ∀ p ∈ (de, oe) :: tl, ∀ x ∈ [(bi, obi), (ti, oti), (dti, odti), (bo, obo), (to, oto), (dto, odto), (r, o), (D, oD), (c, oc)], p.1 ≠ x.1 := fun p hp x hx => Nat.ne_of_gt (ktn_ltOf (hap p hp) x hx)
  have off : ∀ b ob, (b, ob) ∈ [(bi, obi), (ti, oti), (dti, odti), (bo, obo), (to, oto), (dto, odto), (r, o), (D, oD), (c, oc)] → (∀ p ∈ [(ti, oti), (dti, odti), (to, oto), (dto, odto), (D, oD), (c, oc)], p.1 ≠ b) → ∀ p ∈ R, p.1 ≠ b := fun b ob hb hn p hp => by
    rw [hR] at hp
    rcases List.mem_append.mp hp with hp | hp
    · exact ha p hp _ hb
    · exact hn p hp
  obtain ⟨hd, e8, e9, e7, e5, e0, e4, e2, e6, e3, e1⟩ := hE.mono hs2
  obtain ⟨a8, k8, t8, w8, rfl, m8, f8⟩ := ent_open e8
  obtain ⟨a9, k9, t9, w9, rfl, m9, f9⟩ := ent_open e9
  obtain ⟨a7, k7, t7, w7, rfl, m7, f7⟩ := ent_open e7
  obtain ⟨a5, k5, t5, w5, rfl, m5, f5⟩ := ent_open e5
  obtain ⟨a0, k0, t0, w0, rfl, m0, f0⟩ := ent_open e0
  obtain ⟨a4, k4, t4, w4, rfl, m4, f4⟩ := ent_open e4
  obtain ⟨a2, k2, t2, w2, rfl, m2, f2⟩ := ent_open e2
  obtain ⟨a6, k6, t6, w6, rfl, m6, f6⟩ := ent_open e6
  obtain ⟨a3, k3, t3, w3, rfl, m3, f3⟩ := ent_open e3
  obtain ⟨a1, k1, t1, w1, rfl, m1, f1⟩ := ent_open e1
  refine ret h' tk' de oe R a8 a9 a7 a5 a0 a4 a2 a6 a3 a1 k8 k9 k7 k5 k0 k4 k2 k6 k3 k1 t8 t9 t7 t5 t0 t4 t2 t6 t3 t1 w8 w9 w7 w5 w0 w4 w2 w6 w3 w1 F' (news_sub N' fun p hp => ?_) (off bi obi (.head _) n1) (off bo obo (.tail _ (.tail _ (.tail _ (.head _)))) n2)
    (off r o (.tail _ (.tail _ (.tail _ (.tail _ (.tail _ (.tail _ (.head _))))))) n3) (hs _ (.head _)) lo (hq _ (.head _)) (hq _ (.tail _ (.head _))) (hq _ (.tail _ (.tail _ (.head _)))) (hq _ (.tail _ (.tail _ (.tail _ (.head _))))) (hq _ (.tail _ (.tail _ (.tail _ (.tail _ (.tail _ (.head _)))))))
    hd m8 m9 m7 m5 m0 m4 m2 m6 m3 m1 f8 f9 f7 f5 f0 f4 f2 f6 f3 f1
  rw [hR] at hp
  simp only [List.mem_cons, List.mem_append, List.not_mem_nil, or_false] at hp ⊢
  rcases hp with h | h | h | (h | h) | h | h | h | h | h | h <;> simp [h]

/-- an item of the sorted names at a known place -/
theorem item_ten {prog : Program} {w : World} {A : Around} {E : Value → Shared → Prop} {s : Shared} {h₀ : Heap} {L l : Addr} {news : Led} {value slice : PySem.Expr} {vs : List Value} {n j : Nat} {k : Int} {u : Tok} {x : Str} {Q : Value → Shared → Prop}
    (N : News h₀ L s.heap news) (hm : (l, W.listOf vs.toArray n) ∈ news) (hS : StrsAre vs tenNames) (hk : k = (j : Int)) (hx : tenNames[j]? = some x) (hj : j < 10)
    (hs : subscripted slice false (.ref l) (.int k u) = operate [.ref l, .int k u] (getItem (.ref l) (.int k u)))
    (h : ∀ t, Q (.str x t) s) : wpAny (model prog w) A (subscriptTail value slice (.ref l) (.int k u)) Q E s := by
  have hL : s.heap.IsList l vs.toArray := ⟨_, (N _ hm).1, rfl, n, rfl⟩
  obtain ⟨t, ht⟩ := strs_get hS hx
  subst hk
  exact tail_any hL.typeIs slot_list_getitem.lookup (wpAny_getItem_list hL (by omega) (by omega) (by simpa using ht) (h t)) hs
end Mine
namespace Mine
theorem fillNow9 : (PySem.Challenge.rw_on0096_01.row.prog, hd.heap_39) = (PySem.Challenge.rw_on0096_01.row.prog, hd.heap_39) := by k_fill; rfl

def lawStmt : Stmt := match PySem.Challenge.rw_on0096_01.row.prog.main.body.getLast? with | some s => s | none => .Pass ⟨0, 0, 0, 0⟩
def lawBody : List Stmt := match lawStmt with | .FunctionDef _ _ b _ _ _ _ _ _ _ => b | _ => []
def lawScope : Scope := match lawStmt with | .FunctionDef _ _ _ _ _ _ sc _ _ _ => sc | _ => { kind := .module, names := [], isGenerator := false, isCoroutine := false }
abbrev lawEnv (L fa : Addr) (ccd : Value) : Env := envOf (Str.ofString "law") lawScope L fa ccd

theorem bs_new {w : World} {n : Nat} {r d c : Addr} {o oc : Obj} {R : Led} {k : Nat} (hrow : RowIs w n c o) (hcells : CellsIs n oc) (hc : (c, oc) ∈ R) (hr : ∀ p ∈ R, p.1 ≠ r) (h1 : @LT.lt Nat _ r d) (h2 : AllLt d R) :
    BS w n r d c o (W.listOf (#[] : Array Value) k) oc R R [] :=
  ⟨hrow, hcells, hc, Nat.ne_of_gt h1, hr, ne_allLt h2, (fun _ h => h), ⟨[], k, rfl, .nil⟩⟩

/-- the rows can be compared -/
abbrev AllOk (ds : List Dat) : Prop := ∀ d ∈ ds, kqdOk 8 d = true
theorem ok_nil : AllOk [] := fun _ h => nomatch h
theorem ok_app {a b : List Dat} (h : AllOk a) (k : AllOk b) : AllOk (a ++ b) := fun d hd => (List.mem_append.mp hd).elim (h d) (k d)
theorem row_ok {k x : Str} {i : Int} (h1 : PyData.strOk k = true) (h2 : PyData.strOk x = true) : AllOk [rowD k i x] := fun d hd => by
  rw [List.mem_singleton.mp hd]; simp [kqdOk, h1, h2]
theorem name_ok (k : Nat) : PyData.strOk (nameOf k) = true := by unfold nameOf; split <;> decide +kernel
theorem told_ok {pr : Bool} {k : Nat} {x : Str} (h : toldOf pr k = some x) : PyData.strOk x = true := by
  unfold toldOf at h
  split at h <;> (try split at h) <;> cases h <;> decide +kernel
theorem expV_ok (sp : Int) (v : VN) : AllOk (expV sp v) := by
  cases v
  · exact row_ok (by decide +kernel) (by decide +kernel)
  · exact ok_nil
  · exact ok_nil
theorem expP_ok (x) : AllOk (expP x) := by
  rcases x with _ | ⟨s1, v1, s2, v2⟩
  · exact ok_nil
  · exact ok_app (expV_ok _ _) (expV_ok _ _)
theorem expO_ok (x) : AllOk (expO x) := by
  rcases x with _ | ⟨s1, v1⟩
  · exact ok_nil
  · exact expV_ok _ _
theorem itExp_ok (it : It) : AllOk it.exp := by
  cases it with
  | param p s1 v1 => exact ok_app (expP_ok _) (expV_ok _ _)
  | port p => exact expP_ok _
  | net p dl b f => exact ok_app (ok_app (ok_app (expP_ok _) (expO_ok _)) (expP_ok _)) (expO_ok _)
  | var p b f => exact ok_app (ok_app (expP_ok _) (expP_ok _)) (expO_ok _)
theorem tgExp_ok (pr : Bool) : ∀ (t : Tg), AllOk (t.exp pr)
  | .id sp k => by
    simp only [Tg.exp]
    split
    · exact row_ok (told_ok (by assumption)) (name_ok _)
    · exact ok_nil
  | .index _ t s1 v1 => ok_app (tgExp_ok pr t) (expV_ok _ _)
  | .cat1 _ t => tgExp_ok pr t
  | .cat2 _ t u => ok_app (tgExp_ok pr t) (tgExp_ok pr u)
  | .cat3 _ t u v => ok_app (ok_app (tgExp_ok pr t) (tgExp_ok pr u)) (tgExp_ok pr v)
  | .sel _ _ t s1 v1 s2 v2 => ok_app (ok_app (tgExp_ok pr t) (expV_ok _ _)) (expV_ok _ _)
  | .path _ => ok_nil
  | .pathv _ s1 v1 => expV_ok _ _

/-- two lists of the ledger hold the same rows -/
def SameRows (news : Led) (rw d : Addr) (ds : List Dat) : Prop :=
  AllOk ds ∧ ∃ orw od T1 T2, (rw, orw) ∈ news ∧ ListIs T1 orw ds ∧ (∀ p ∈ T1, p ∈ news) ∧ (d, od) ∈ news ∧ ListIs T2 od ds ∧ (∀ p ∈ T2, p ∈ news)
theorem law_eq {prog : Program} {w : World} {A : Around} {E : Value → Shared → Prop} {s : Shared} {h₀ : Heap} {L : Addr} {news : Led} {rw d : Addr} {ds : List Dat} {Q : Value → Shared → Prop}
    (N : News h₀ L s.heap news) (S : SameRows news rw d ds) (hu : A.units + 64 < cLine) (h : Q (.bool true) s) : wpAny (model prog w) A (compareOp .Eq (.ref rw) (.ref d)) Q E s := by
  obtain ⟨ok, orw, od, T1, T2, m1, ⟨xs, ka, rfl, D1⟩, s1, m2, ⟨ys, kb, rfl, D2⟩, s2⟩ := S
  exact kqd_eq N m1 rfl rfl D1 s1 m2 rfl rfl D2 s2 ok ok hu (by simpa using h)
theorem law_ne {prog : Program} {w : World} {A : Around} {E : Value → Shared → Prop} {s : Shared} {h₀ : Heap} {L : Addr} {news : Led} {rw d : Addr} {ds : List Dat} {Q : Value → Shared → Prop}
    (N : News h₀ L s.heap news) (S : SameRows news rw d ds) (hu : A.units + 64 < cLine) (h : Q (.bool false) s) : wpAny (model prog w) A (compareOp .NotEq (.ref rw) (.ref d)) Q E s := by
  obtain ⟨ok, orw, od, T1, T2, m1, ⟨xs, ka, rfl, D1⟩, s1, m2, ⟨ys, kb, rfl, D2⟩, s2⟩ := S
  exact kqd_ne N m1 rfl rfl D1 s1 m2 rfl rfl D2 s2 ok ok hu (by simpa using h)

theorem dat_far {a b c x y : Addr × Obj} {rest' : Led} {v : Value} {d : Dat} (D : DatIn rest' v d) : DatIn (a :: b :: c :: x :: y :: rest') v d :=
  D.mono fun p hp => .tail _ (.tail _ (.tail _ (.tail _ (.tail _ hp))))
theorem cs_new {w : World} {q ti rw dq dn r d : Addr} {t1 t2 t3 t4 : Tok} {odn o od : Obj} {k : Nat} {R rest' : Led} (hs : ∀ p ∈ R, p ∈ rest') (htab : TabS w R ti)
    (l1 : @LT.lt Nat _ q rw ∧ @LT.lt Nat _ dq rw ∧ @LT.lt Nat _ dn rw ∧ @LT.lt Nat _ r rw ∧ @LT.lt Nat _ d rw ∧ AllLt rw rest') :
    CS w q ti rw (W.listOf (#[] : Array Value) k) [] ((q, instObj 38 dq) :: (dq, W.dictOf [ent w (Str.ofString "names") t1 (.ref dn), ent w (Str.ofString "nettype") t2 (.str (Str.ofString "wire") t4), ent w (Str.ofString "rows") t3 (.ref rw)] 3) :: (dn, odn) :: (r, o) :: (d, od) :: rest') [] :=
  ⟨⟨dq, dn, t1, t2, t3, t4, .head _, .tail _ (.head _)⟩, htab.mono fun p hp => .tail _ (.tail _ (.tail _ (.tail _ (.tail _ (hs p hp))))),
    List.forall_mem_cons.mpr ⟨Nat.ne_of_lt l1.1, List.forall_mem_cons.mpr ⟨Nat.ne_of_lt l1.2.1, List.forall_mem_cons.mpr ⟨Nat.ne_of_lt l1.2.2.1, List.forall_mem_cons.mpr ⟨Nat.ne_of_lt l1.2.2.2.1, List.forall_mem_cons.mpr ⟨Nat.ne_of_lt l1.2.2.2.2.1, ne_allLt l1.2.2.2.2.2⟩⟩⟩⟩⟩, (fun _ h => nomatch h), ⟨[], k, rfl, .nil⟩⟩
theorem same_rows {w : World} {n : Nat} {q ti rw r d c : Addr} {x1 x2 x3 : Addr × Obj} {orw o od oc : Obj} {T1 T2 tl2 rest' rest3 : Led} {rows due : List Dat} (S' : CS w q ti rw orw T1 rest3 ([] ++ rows)) (g : Grow tl2 (x1 :: x2 :: x3 :: (r, o) :: (d, od) :: rest') rest3)
    (S0 : BS w n r d c o od oc T2 rest' ([] ++ due)) (e : rows = due) (ok : AllOk rows) : SameRows ((rw, orw) :: rest3) rw d rows := by
  subst e
  exact ⟨ok, orw, od, T1, T2, .head _, S'.rows, (fun p hp => .tail _ (S'.sub p hp)), .tail _ (g.sub _ (.tail _ (.tail _ (.tail _ (.tail _ (.head _)))))), S0.due, fun p hp => .tail _ (g.sub _ (.tail _ (.tail _ (.tail _ (.tail _ (.tail _ (S0.sub p hp)))))))⟩

theorem rep_out {w : World} {T : Led} {q rw : Addr} (h : RepS w T q rw) : ∃ (dq dn : Addr) (t1 t2 t3 t4 : Tok), (q, instObj 38 dq) ∈ T ∧
    (dq, W.dictOf [ent w (Str.ofString "names") t1 (.ref dn), ent w (Str.ofString "nettype") t2 (.str (Str.ofString "wire") t4), ent w (Str.ofString "rows") t3 (.ref rw)] 3) ∈ T := h

section
local macro_rules | `(tactic| walk_at $s:str) => `(tactic| k_extra $s)
local macro_rules | `(tactic| k_all) => `(tactic| assumption)
local macro_rules | `(tactic| k_mem) => `(tactic| assumption)
theorem law_rest2 {w : World} {mean : ExcName → Option Value} {mg mb : Str → Option Value} {fa : Addr} {ccd : Value}
    {A₀ : Around} {base h₀ : Heap} {L : Addr} {m : Str → Option Value} {s : Shared} {Q : Flow → Shared → Prop} {r c ti : Addr} {o oc : Obj} {n : Nat} {R : Led}
    (B : Below A₀ base [] h₀) (F : Fr h₀ L s.heap (fun y => if y = Str.ofString "inner" then some (.ref ti) else if y = Str.ofString "row" then some (.ref r) else m y))
    (X : (hd.heap_39 w.params).In h₀) (N : News h₀ L s.heap ((r, o) :: R)) (T : TopM mean mg mb h₀) (hrow : RowIs w n c o) (hcells : CellsIs n oc) (hc : (c, oc) ∈ R) (hr : ∀ p ∈ R, p.1 ≠ r) (htab : TabS w R ti)
    (ret : ∀ h' tk' m', Fr h₀ L h' m' → Q (.ret (.bool true)) { s with heap := h', toks := tk' }) :
    wpAny (model PySem.Challenge.rw_on0096_01.row.prog w) (callerA.deeper (lawEnv L fa ccd)) (execs (lawBody.drop 14) (lawEnv L fa ccd)) Q (fun _ _ => False) s := by
  w_top off
  k_with_none
  k_with "compareOp Eq ref ref" => ((k_here; k_dflt (refine' law_eq ?k1 ?k2 ?k3 ?_; (case k2 => assumption); (case k1 => k_asm); (case k3 => with_unfolding_all (exact Nat.le_of_ble_eq_true rfl)))))
  k_with "call ref" => ((k_here; (with_reducible show wpAny _ _ (call (Value.ref 126) _) _ _ _); ((k_dflt (refine' decl_spec ?k1 ?k2 ?k3 ?k4 ?k5 ?k6 ?k7 ?kd ?k8 ?k9 ?_))); ((case k4 => k_asm)); ((case k7 => (refine' cs_new ?qe ?qt ?ql; ((case qt => assumption)); ((case qe => assumption)); ((case ql => assumption))))); ((case k1 => k_asm)); ((case k2 => k_asm)); ((case k3 => k_asm)); ((case k5 => k_asm)); ((case k6 => first | exact rfl | assumption)); ((case kd => exact dat_far (by assumption))); ((case k8 => decide)); ((case k9 => with_unfolding_all (exact Nat.le_of_ble_eq_true rfl))); (k_whole); intro h' tk' orw' tl2' rest3' F' N' gR' S'; ((have hsm' := same_rows S' gR' (by assumption) rfl (itExp_ok _))); (obtain ⟨dq9, dn9, t19, t29, t39, t49, q19, q29⟩ := rep_out S'.rep); (try k_fold)))
  k_with "call ref" => ((k_here; (with_reducible show wpAny _ _ (call (Value.ref 189) _) _ _ _); ((k_dflt (refine' item_spec ?k1 ?k2 ?k3 ?k4 ?k5 ?k6 ?k7 ?k8 ?k9 ?_))); ((case k1 => k_asm)); ((case k2 => k_asm)); ((case k3 => k_asm)); ((case k4 => exact rot11 (by k_asm))); ((case k5 => k_asm)); ((case k6 => first | exact rfl | assumption)); ((case k7 => exact bs_new (by assumption) (by assumption) (by assumption) (by assumption) (by omega) (by tbn_find))); ((case k8 => decide)); ((case k9 => with_unfolding_all (exact Nat.le_of_ble_eq_true rfl))); k_whole; intro h' tk' o' od' rest' v' it' F' N' hs' S' D'; (try k_fold)))
  conv in (List.drop _ _) => whnf
  unfold lawEnv
  conv in (lawScope) => whnf
  conv in (lawScope) => whnf
  k_steps
  exact ret _ _ _ (by k_asm)
end
end Mine
namespace Mine
theorem fillNow9b : (PySem.Challenge.rw_on0096_01.row.prog, hd.heap_39) = (PySem.Challenge.rw_on0096_01.row.prog, hd.heap_39) := by k_fill; rfl

theorem law_again {w : World} {n : Nat} {h₀ h : Heap} {L ti rw r d c : Addr} {x1 x2 x3 : Addr × Obj} {orw o od oc : Obj} {T2 tl2 R rest' rest3 : Led} {due : List Dat}
    (N : News h₀ L h ((rw, orw) :: rest3)) (g : Grow tl2 (x1 :: x2 :: x3 :: (r, o) :: (d, od) :: rest') rest3) (S0 : BS w n r d c o od oc T2 rest' due) (hs : ∀ p ∈ R, p ∈ rest') (htab : TabS w R ti)
    (h0 : @Ne Nat rw r) (h1 : @Ne Nat x1.1 r) (h2 : @Ne Nat x2.1 r) (h3 : @Ne Nat x3.1 r) :
    ∃ R2 : Led, News h₀ L h ((r, o) :: R2) ∧ (∀ p ∈ R2, p.1 ≠ r) ∧ (c, oc) ∈ R2 ∧ TabS w R2 ti := by
  obtain ⟨rfl, ab⟩ := g
  have up : ∀ p ∈ rest', p ∈ (rw, orw) :: (tl2 ++ (x1 :: x2 :: x3 :: (d, od) :: rest')) := fun p hp => .tail _ (sub_r p (.tail _ (.tail _ (.tail _ (.tail _ hp)))))
  refine ⟨(rw, orw) :: (tl2 ++ (x1 :: x2 :: x3 :: (d, od) :: rest')), news_sub N fun p hp => ?_, ?_, up _ S0.hc, htab.mono fun p hp => up p (hs p hp)⟩
  · simp only [List.mem_cons, List.mem_append] at hp ⊢
    rcases hp with h | h | h | h | h | h | h | h <;> simp [h]
  · refine List.forall_mem_cons.mpr ⟨h0, fun p hp => ?_⟩
    rcases List.mem_append.mp hp with hp | hp
    · exact Nat.ne_of_gt (ab p hp (r, o) (.tail _ (.tail _ (.tail _ (.head _)))))
    · rcases List.mem_cons.mp hp with rfl | hp
      · exact h1
      · rcases List.mem_cons.mp hp with rfl | hp
        · exact h2
        · rcases List.mem_cons.mp hp with rfl | hp
          · exact h3
          · rcases List.mem_cons.mp hp with rfl | hp
            · exact S0.dr
            · exact S0.hr p hp

theorem fr_two {h₀ h : Heap} {L ti r : Addr} {m : Str → Option Value} (F : Fr h₀ L h m) (h1 : m (Str.ofString "inner") = some (.ref ti)) (h2 : m (Str.ofString "row") = some (.ref r)) :
    Fr h₀ L h (fun y => if y = Str.ofString "inner" then some (.ref ti) else if y = Str.ofString "row" then some (.ref r) else m y) := by
  have e : (fun y => if y = Str.ofString "inner" then some (.ref ti) else if y = Str.ofString "row" then some (.ref r) else m y) = m := by
    funext y
    split
    · rename_i hy; rw [hy, h1]
    · split
      · rename_i hy; rw [hy, h2]
      · rfl
  rw [e]; exact F

theorem part_law {w : World} {mean : ExcName → Option Value} {mg mb : Str → Option Value}
    {dp un : Nat} {gd : Option (List Code)} {cn : Str} {cs : Scope} {a : Addr} {ccd : Value} {cl : List (Str × Addr)} {outer : List Env}
    {A₀ : Around} {base h₀ : Heap} {L : Addr} {m : Str → Option Value} {s : Shared} {Q E : Value → Shared → Prop}
    {r c d : Addr} {o oc od : Obj} {n : Nat} {most : Int} {tmo : Tok} {R : Led}
    (B : Below A₀ base outer h₀) (F : Fr h₀ L s.heap m) (X : (hd.heap_39 w.params).In h₀) (N : News h₀ L s.heap ((d, od) :: (r, o) :: R)) (T : TopM mean mg mb h₀)
    (hk : cs.kind = .function) (hr : ∀ p ∈ R, p.1 ≠ r) (hd : @LT.lt Nat _ r d) (hc : (c, oc) ∈ R) (hrow : RowIs w n c o) (hcells : CellsIs n oc) (hmo : 0 < most) (hdp : dp < 900)
    (ret : ∀ h' tk' o' k tk, Fr h₀ L h' m → News h₀ L h' ((d, od) :: (r, o') :: R) → RowIs w n c o' → 0 ≤ k → k < most → Q (.int k tk) { s with heap := h', toks := tk' }) :
    wpAny (model PySem.Challenge.rw_on0096_01.row.prog w) (ktrTop dp un gd cn cs L a ccd cl outer) (call (.ref 149) [.ref r, .int most tmo]) Q E s :=
  part_canon (rest := (d, od) :: R) B F X (rot11 N) T hk (apart_cons hr hd) (.tail _ hc) hrow hcells hmo hdp fun h' tk' o' k tk F' N' R' h0 h1 => ret h' tk' o' k tk F' (rot11 N') R' h0 h1

section
local macro_rules | `(tactic| walk_at $s:str) => `(tactic| k_extra $s)
local macro_rules | `(tactic| k_all) => `(tactic| assumption)
local macro_rules | `(tactic| k_mem) => `(tactic| assumption)
-- check_target
-- _law_target
-- _law_part
theorem law_rest {w : World} {mean : ExcName → Option Value} {mg mb : Str → Option Value} {fa : Addr} {ccd : Value}
    {A₀ : Around} {base h₀ : Heap} {L : Addr} {m : Str → Option Value} {s : Shared} {Q : Flow → Shared → Prop} {r c ti : Addr} {o oc : Obj} {n : Nat} {R : Led}
    (B : Below A₀ base [] h₀) (F : Fr h₀ L s.heap (fun y => if y = Str.ofString "inner" then some (.ref ti) else if y = Str.ofString "row" then some (.ref r) else m y))
    (X : (hd.heap_39 w.params).In h₀) (N : News h₀ L s.heap ((r, o) :: R)) (T : TopM mean mg mb h₀) (hrow : RowIs w n c o) (hcells : CellsIs n oc) (hc : (c, oc) ∈ R) (hr : ∀ p ∈ R, p.1 ≠ r) (htab : TabS w R ti)
    (ret : ∀ h' tk' m', Fr h₀ L h' m' → Q (.ret (.bool true)) { s with heap := h', toks := tk' }) :
    wpAny (model PySem.Challenge.rw_on0096_01.row.prog w) (callerA.deeper (lawEnv L fa ccd)) (execs (lawBody.drop 8) (lawEnv L fa ccd)) Q (fun _ _ => False) s := by
  w_top off
  k_with_none
  k_with "compareOp NotEq ref ref" => ((k_here; k_dflt (refine' law_ne ?k1 ?k2 ?k3 ?_; (case k2 => assumption); (case k1 => k_asm); (case k3 => with_unfolding_all (exact Nat.le_of_ble_eq_true rfl)))))
  k_with "call ref" => ((k_here; (with_reducible show wpAny _ _ (call (Value.ref 134) _) _ _ _); ((k_dflt (refine' check_use4 (lv := 3) ?k1 ?k2 ?k3 ?k4 ?k5 ?k6 ?k7 ?kd ?ko ?k8 ?k9 ?_))); ((case k4 => k_asm)); ((case k7 => (refine' cs_new ?qe ?qt ?ql; (case qt => assumption); (case qe => assumption); (case ql => assumption)))); ((case k1 => k_asm)); ((case k2 => k_asm)); ((case k3 => k_asm)); ((case k5 => k_asm)); ((case k6 => first | exact rfl | assumption)); ((case kd => exact dat_far (by assumption))); ((case ko => assumption)); ((case k8 => decide)); ((case k9 => with_unfolding_all (exact Nat.le_of_ble_eq_true rfl))); k_whole; intro h' tk' orw' tl2' rest3' F' N' gR' S'; ((have hsm' := same_rows S' gR' (by assumption) rfl (tgExp_ok _ _))); (obtain ⟨dq9, dn9, t19, t29, t39, t49, q19, q29⟩ := rep_out S'.rep); (try k_fold)))
  k_with "call ref" => ((k_here; (with_reducible show wpAny _ _ (call (Value.ref 175) _) _ _ _); ((k_dflt (refine' target_use (target_all _ 3) ?k1 ?k2 ?k3 ?k4 ?k5 ?k6 ?k7 ?k8 ?k9 ?ka ?kb ?_))); ((case k4 => exact rot11 (by k_asm))); ((case k1 => k_asm)); ((case k2 => k_asm)); ((case k3 => k_asm)); ((case k5 => k_asm)); ((case k6 => first | exact rfl | assumption)); ((case k7 => exact bs_new (by assumption) (by assumption) (by assumption) (by assumption) (by omega) (by tbn_find))); ((case k8 => decide)); ((case k9 => with_unfolding_all (exact Nat.le_of_ble_eq_true rfl))); ((case ka => decide)); ((case kb => decide)); k_whole; intro h' tk' o' od' tl' rest' v' t' F' N' e' S' ha' D0' ok' hl' hK'; (have hs' := sub_eq e'); (have D' := dat_up (T' := rest') D0' (fun p hp => by rw [e']; exact sub_l p hp)); (try k_fold)))
  k_with "call ref" => ((k_here; (with_reducible show wpAny _ _ (call (Value.ref 149) _) _ _ _); k_dflt ((refine' part_law ?k1 ?k2 ?k3 ?k4 ?k5 ?k6 ?k7 ?k8 ?kc ?kr ?ks ?km ?k9 ?_); ((case k4 => k_asm)); ((case k1 => k_asm)); ((case k2 => k_asm)); ((case k3 => k_asm)); ((case k5 => k_asm)); ((case k6 => first | exact rfl | assumption)); ((case k7 => assumption)); ((case k8 => omega)); ((case kr => assumption)); ((case kc => assumption)); ((case ks => assumption)); ((case km => decide)); ((case k9 => with_unfolding_all (exact Nat.le_of_ble_eq_true rfl)))); k_whole; intro h' tk' o' k' t' F' N' R' hk0' hk1'; (try k_fold)))
  k_with "execs cons" => ((k_here; (rename Grow _ _ _ => g9); ((obtain ⟨R9, N9, hr9, hc9, htab9⟩ := law_again (by assumption) g9 (by assumption) (by assumption) (by assumption) (by omega) (by dsimp only; omega) (by dsimp only; omega) (by dsimp only; omega))); ((k_dflt (refine' law_rest2 ?k1 (fr_two ?k2 ?qa ?qb) ?k3 N9 ?k5 ?k6 ?k7 hc9 hr9 htab9 ?_; (case k2 => k_asm); (case qa => rfl); (case qb => rfl); (case k1 => k_asm); (case k3 => k_asm); (case k5 => k_asm); (case k6 => exact BS.row (by assumption)); (case k7 => assumption)))); intro h' tk' m' F'))
  conv in (List.drop _ _) => whnf
  unfold lawEnv
  conv in (lawScope) => whnf
  conv in (lawScope) => whnf
  k_steps
  exact ret _ _ _ (by k_asm)
end
end Mine
namespace Mine
theorem fillNow9c : (PySem.Challenge.rw_on0096_01.row.prog, hd.heap_39) = (PySem.Challenge.rw_on0096_01.row.prog, hd.heap_39) := by k_fill; rfl

theorem tup_two0 {prog : Program} {w : World} {A : Around} {E : Value → Shared → Prop} {s : Shared} {h₀ : Heap} {L t : Addr} {news : Led} {value slice : PySem.Expr} {x y : Value} {n : Nat} {u : Tok} {Q : Value → Shared → Prop}
    (N : News h₀ L s.heap news) (hm : (t, tupO [x, y] n) ∈ news) (h : Q x s) (hs : subscripted slice false (.ref t) (.int 0 u) = operate [.ref t, .int 0 u] (getItem (.ref t) (.int 0 u))) :
    wpAny (model prog w) A (subscriptTail value slice (.ref t) (.int 0 u)) Q E s :=
  item_tupleT (l := [x, y]) (j := 0) (N.isTup hm) (by decide) (by decide) (by rfl) rfl h hs
theorem tup_two1 {prog : Program} {w : World} {A : Around} {E : Value → Shared → Prop} {s : Shared} {h₀ : Heap} {L t : Addr} {news : Led} {value slice : PySem.Expr} {x y : Value} {n : Nat} {u : Tok} {Q : Value → Shared → Prop}
    (N : News h₀ L s.heap news) (hm : (t, tupO [x, y] n) ∈ news) (h : Q y s) (hs : subscripted slice false (.ref t) (.int 1 u) = operate [.ref t, .int 1 u] (getItem (.ref t) (.int 1 u))) :
    wpAny (model prog w) A (subscriptTail value slice (.ref t) (.int 1 u)) Q E s :=
  item_tupleT (l := [x, y]) (j := 1) (N.isTup hm) (by decide) (by decide) (by rfl) rfl h hs
def OffAll (I : Addr) (l : Led) : Prop := ∀ p ∈ l, p.1 ≠ I
/-- the end of a turn of the law's loop -/
theorem law_end {h₀ : Heap} {L I : Addr} {it : Obj} {rst : (Str → Option Value) → Led → Prop} {s₁ : Shared} {h' : Heap} {tk : Nat} {m' : Str → Option Value} {T B bi bo r : Addr} {ot ob oi oo o : Obj} {l : Led}
    (F : Fr h₀ L h' m') (N : News h₀ L h' ((T, ot) :: (B, ob) :: (I, it) :: (bi, oi) :: (bo, oo) :: (r, o) :: l)) (h1 : @LT.lt Nat _ bi I ∧ @LT.lt Nat _ bo I ∧ @LT.lt Nat _ r I) (h3 : OffAll I l) (h4 : @Ne Nat T I)
    (k : OffAll I ((T, ot) :: l) → rst m' ((bi, oi) :: (bo, oo) :: (r, o) :: (T, ot) :: l)) : UnrEnd h₀ L s₁ I it rst { s₁ with heap := h', toks := tk } := by
  have h5 : ∀ p ∈ (T, ot) :: l, p.1 ≠ I := List.forall_mem_cons.mpr ⟨h4, h3⟩
  refine UnrEnd.intro F N ((bi, oi) :: (bo, oo) :: (r, o) :: (T, ot) :: l) (fun p hp => ?_) (List.forall_mem_cons.mpr ⟨Nat.ne_of_lt h1.1, List.forall_mem_cons.mpr ⟨Nat.ne_of_lt h1.2.1, List.forall_mem_cons.mpr ⟨Nat.ne_of_lt h1.2.2, h5⟩⟩⟩) (k h5)
  simp only [List.mem_cons] at hp ⊢
  rcases hp with h | h | h | h | h | h <;> simp [h]
/-- the same, where a turn went before: its names are stored again -/
theorem law_end2 {h₀ : Heap} {L I : Addr} {it : Obj} {rst : (Str → Option Value) → Led → Prop} {s₁ : Shared} {h' : Heap} {tk : Nat} {m0 : Str → Option Value} {x1 x2 x3 : Str} {a1 a2 a3 b1 b2 b3 : Option Value} {T B bi bo r : Addr} {ot ob oi oo o : Obj} {l : Led}
    (F : Fr h₀ L h' (fun y => if y = x1 then a1 else if y = x2 then a2 else if y = x3 then a3 else if y = x1 then b1 else if y = x2 then b2 else if y = x3 then b3 else m0 y))
    (N : News h₀ L h' ((T, ot) :: (B, ob) :: (I, it) :: (bi, oi) :: (bo, oo) :: (r, o) :: l)) (h1 : @LT.lt Nat _ bi I ∧ @LT.lt Nat _ bo I ∧ @LT.lt Nat _ r I) (h3 : OffAll I l) (h4 : @Ne Nat T I)
    (k : OffAll I ((T, ot) :: l) → rst (fun y => if y = x1 then a1 else if y = x2 then a2 else if y = x3 then a3 else m0 y) ((bi, oi) :: (bo, oo) :: (r, o) :: (T, ot) :: l)) : UnrEnd h₀ L s₁ I it rst { s₁ with heap := h', toks := tk } := by
  refine law_end (m' := fun y => if y = x1 then a1 else if y = x2 then a2 else if y = x3 then a3 else m0 y) ?_ N h1 h3 h4 k
  have e : (fun y => if y = x1 then a1 else if y = x2 then a2 else if y = x3 then a3 else if y = x1 then b1 else if y = x2 then b2 else if y = x3 then b3 else m0 y) = (fun y => if y = x1 then a1 else if y = x2 then a2 else if y = x3 then a3 else m0 y) := by
    funext y
    by_cases h1 : y = x1
    · simp only [h1, if_true]
    · by_cases h2 : y = x2
      · simp only [h1, h2, if_true, if_false]
      · by_cases h3 : y = x3
        · simp only [h1, h2, h3, if_true, if_false]
        · simp only [h1, h2, h3, if_true, if_false]
  rw [← e]; exact F
theorem fr_id {h₀ h : Heap} {nm : Str} {sc : Scope} {L fa : Addr} {cd : Value} {m : Str → Option Value} (F : Fr h₀ (envOf nm sc L fa cd).locals h m) : Fr h₀ L h m := F
theorem news_id {h₀ h : Heap} {nm : Str} {sc : Scope} {L fa : Addr} {cd : Value} {l : Led} (F : News h₀ (envOf nm sc L fa cd).locals h l) : News h₀ L h l := F
theorem allLt_head {I a b c : Addr} {oa ob oc : Obj} {R : Led} (h : ∀ p ∈ (a, oa) :: (b, ob) :: (c, oc) :: R, p.1 < I) : (@LT.lt Nat _ a I ∧ @LT.lt Nat _ b I ∧ @LT.lt Nat _ c I) ∧ OffAll I R :=
  ⟨⟨h _ (.head _), h _ (.tail _ (.head _)), h _ (.tail _ (.tail _ (.head _)))⟩, fun p hp => Nat.ne_of_lt (h p (.tail _ (.tail _ (.tail _ hp))))⟩
theorem made_list {D I a b c : Addr} {oI oa ob oc : Obj} {R : Led} (h : ∀ p ∈ (I, oI) :: (a, oa) :: (b, ob) :: (c, oc) :: R, p.1 < D) : @LT.lt Nat _ a D ∧ @LT.lt Nat _ b D :=
  ⟨h _ (.tail _ (.head _)), h _ (.tail _ (.tail _ (.head _)))⟩
theorem made_tup {D B I a b c : Addr} {oB oI oa ob oc : Obj} {R : Led} (h : ∀ p ∈ (B, oB) :: (I, oI) :: (a, oa) :: (b, ob) :: (c, oc) :: R, p.1 < D) : @LT.lt Nat _ I D ∧ @LT.lt Nat _ a D ∧ @LT.lt Nat _ b D ∧ @LT.lt Nat _ c D :=
  ⟨h _ (.tail _ (.head _)), h _ (.tail _ (.tail _ (.head _))), h _ (.tail _ (.tail _ (.tail _ (.head _)))), h _ (.tail _ (.tail _ (.tail _ (.tail _ (.head _)))))⟩

theorem off_cons {r D : Addr} {o : Obj} {l : Led} (hD : @Ne Nat D r) (h : ∀ p ∈ l, p.1 ≠ r) : ∀ p ∈ (D, o) :: l, p.1 ≠ r := List.forall_mem_cons.mpr ⟨hD, h⟩
theorem rot3r {h₀ h : Heap} {L : Addr} {a b c : Addr × Obj} {l : Led} (N : News h₀ L h (a :: b :: c :: l)) : News h₀ L h (c :: a :: b :: l) :=
  news_sub N fun x hx => by simp only [List.mem_cons] at hx ⊢; rcases hx with hx | hx | hx | hx <;> simp [hx]

/-- the two tables stand -/
theorem law_pack {w : World} {h₀ h : Heap} {L r c ti dti to dto bi bo : Addr} {o oc obi obo : Obj} {nn : Nat} {R : Led} {t1 t2 t3 t4 : Tok} {T0 T1 T2 T3 T4 T5 T6 T7 T8 T9 : Addr} {w0 u0 w1 u1 w2 u2 w3 u3 w4 u4 w5 u5 w6 u6 w7 u7 w8 u8 w9 u9 : Tok} {k0 k1 k2 k3 k4 k5 k6 k7 k8 k9 : Int} {v0 v1 v2 v3 v4 v5 v6 v7 v8 v9 : Value} {n0 n1 n2 n3 n4 n5 n6 n7 n8 n9 : Nat}
    (N : News h₀ L h ((bi, obi) :: (bo, obo) :: (r, o) :: (T9, tupO [.str (kindOf 9) w9, .int k9 u9, v9] n9) :: (T8, tupO [.str (kindOf 8) w8, .int k8 u8, v8] n8) :: (T7, tupO [.str (kindOf 7) w7, .int k7 u7, v7] n7) :: (T6, tupO [.str (kindOf 6) w6, .int k6 u6, v6] n6) :: (T5, tupO [.str (kindOf 5) w5, .int k5 u5, v5] n5) :: (T4, tupO [.str (kindOf 4) w4, .int k4 u4, v4] n4) :: (T3, tupO [.str (kindOf 3) w3, .int k3 u3, v3] n3) :: (T2, tupO [.str (kindOf 2) w2, .int k2 u2, v2] n2) :: (T1, tupO [.str (kindOf 1) w1, .int k1 u1, v1] n1) :: (T0, tupO [.str (kindOf 0) w0, .int k0 u0, v0] n0) :: R)) (hr : ∀ p ∈ R, p.1 ≠ r) (hbi : @Ne Nat bi r) (hbo : @Ne Nat bo r)
    (g0 : @Ne Nat T0 r) (g1 : @Ne Nat T1 r) (g2 : @Ne Nat T2 r) (g3 : @Ne Nat T3 r) (g4 : @Ne Nat T4 r) (g5 : @Ne Nat T5 r) (g6 : @Ne Nat T6 r) (g7 : @Ne Nat T7 r) (g8 : @Ne Nat T8 r) (g9 : @Ne Nat T9 r)
    (e0 : k0 = 0) (e1 : k1 = 1) (e2 : k2 = 2) (e3 : k3 = 3) (e4 : k4 = 4) (e5 : k5 = 5) (e6 : k6 = 6) (e7 : k7 = 7) (e8 : k8 = 8) (e9 : k9 = 9)
    (f0 : DatIn R v0 (moreOf 0)) (f1 : DatIn R v1 (moreOf 1)) (f2 : DatIn R v2 (moreOf 2)) (f3 : DatIn R v3 (moreOf 3)) (f4 : DatIn R v4 (moreOf 4)) (f5 : DatIn R v5 (moreOf 5)) (f6 : DatIn R v6 (moreOf 6)) (f7 : DatIn R v7 (moreOf 7)) (f8 : DatIn R v8 (moreOf 8)) (f9 : DatIn R v9 (moreOf 9))
    (mt2 : (dti, W.dictOf [ent w (Str.ofString "parent") t1 (.ref to), ent w (Str.ofString "entries") t2 (.ref bi)] 2) ∈ R) (mt4 : (dto, W.dictOf [ent w (Str.ofString "parent") t3 .none, ent w (Str.ofString "entries") t4 (.ref bo)] 2) ∈ R)
    (mt1 : (ti, instObj 59 dti) ∈ R) (mt3 : (to, instObj 59 dto) ∈ R) (hrow : RowIs w nn c o) (mc : (c, oc) ∈ R) (l1 : (bi == sysModules) = false) (l2 : (bo == sysModules) = false)
    (D1 : Obj.IsDictOf (PySem.strKind PySem.Challenge.rw_on0096_01.row.prog w) obi [(Str.ofString "b", .ref T1), (Str.ofString "f", .ref T3), (Str.ofString "r", .ref T5), (Str.ofString "w", .ref T7), (Str.ofString "wo", .ref T9)])
    (D2 : Obj.IsDictOf (PySem.strKind PySem.Challenge.rw_on0096_01.row.prog w) obo [(Str.ofString "P", .ref T0), (Str.ofString "e", .ref T2), (Str.ofString "g", .ref T4), (Str.ofString "t", .ref T6), (Str.ofString "wi", .ref T8)]) :
    ∃ R2 : Led, News h₀ L h ((r, o) :: R2) ∧ (∀ p ∈ R2, p.1 ≠ r) ∧ (c, oc) ∈ R2 ∧ TabS w R2 ti := by
  subst e0 e1 e2 e3 e4 e5 e6 e7 e8 e9
  have up : ∀ p ∈ R, p ∈ (bi, obi) :: (bo, obo) :: (T9, tupO [.str (kindOf 9) w9, .int 9 u9, v9] n9) :: (T8, tupO [.str (kindOf 8) w8, .int 8 u8, v8] n8) :: (T7, tupO [.str (kindOf 7) w7, .int 7 u7, v7] n7) :: (T6, tupO [.str (kindOf 6) w6, .int 6 u6, v6] n6) :: (T5, tupO [.str (kindOf 5) w5, .int 5 u5, v5] n5) :: (T4, tupO [.str (kindOf 4) w4, .int 4 u4, v4] n4) :: (T3, tupO [.str (kindOf 3) w3, .int 3 u3, v3] n3) :: (T2, tupO [.str (kindOf 2) w2, .int 2 u2, v2] n2) :: (T1, tupO [.str (kindOf 1) w1, .int 1 u1, v1] n1) :: (T0, tupO [.str (kindOf 0) w0, .int 0 u0, v0] n0) :: R := fun p hp => .tail _ (.tail _ (.tail _ (.tail _ (.tail _ (.tail _ (.tail _ (.tail _ (.tail _ (.tail _ (.tail _ (.tail _ (hp))))))))))))
  refine ⟨(bi, obi) :: (bo, obo) :: (T9, tupO [.str (kindOf 9) w9, .int 9 u9, v9] n9) :: (T8, tupO [.str (kindOf 8) w8, .int 8 u8, v8] n8) :: (T7, tupO [.str (kindOf 7) w7, .int 7 u7, v7] n7) :: (T6, tupO [.str (kindOf 6) w6, .int 6 u6, v6] n6) :: (T5, tupO [.str (kindOf 5) w5, .int 5 u5, v5] n5) :: (T4, tupO [.str (kindOf 4) w4, .int 4 u4, v4] n4) :: (T3, tupO [.str (kindOf 3) w3, .int 3 u3, v3] n3) :: (T2, tupO [.str (kindOf 2) w2, .int 2 u2, v2] n2) :: (T1, tupO [.str (kindOf 1) w1, .int 1 u1, v1] n1) :: (T0, tupO [.str (kindOf 0) w0, .int 0 u0, v0] n0) :: R, rot3r N, ?_, up _ mc, .mk dti to dto bi bo obi obo t1 t2 t3 t4 T0 T1 T2 T3 T4 T5 T6 T7 T8 T9 (up _ mt1) (up _ mt2) (up _ mt3) (up _ mt4) (.head _) (.tail _ (.head _)) l1 l2 D1 D2 (.tuple (.tail _ (.tail _ (.tail _ (.tail _ (.tail _ (.tail _ (.tail _ (.tail _ (.tail _ (.tail _ (.tail _ (.head _)))))))))))) (.cons (.str _ _) (.cons (.int _ _) (.cons (f0.mono up) .nil)))) (.tuple (.tail _ (.tail _ (.tail _ (.tail _ (.tail _ (.tail _ (.tail _ (.tail _ (.tail _ (.tail _ (.head _))))))))))) (.cons (.str _ _) (.cons (.int _ _) (.cons (f1.mono up) .nil)))) (.tuple (.tail _ (.tail _ (.tail _ (.tail _ (.tail _ (.tail _ (.tail _ (.tail _ (.tail _ (.head _)))))))))) (.cons (.str _ _) (.cons (.int _ _) (.cons (f2.mono up) .nil)))) (.tuple (.tail _ (.tail _ (.tail _ (.tail _ (.tail _ (.tail _ (.tail _ (.tail _ (.head _))))))))) (.cons (.str _ _) (.cons (.int _ _) (.cons (f3.mono up) .nil)))) (.tuple (.tail _ (.tail _ (.tail _ (.tail _ (.tail _ (.tail _ (.tail _ (.head _)))))))) (.cons (.str _ _) (.cons (.int _ _) (.cons (f4.mono up) .nil)))) (.tuple (.tail _ (.tail _ (.tail _ (.tail _ (.tail _ (.tail _ (.head _))))))) (.cons (.str _ _) (.cons (.int _ _) (.cons (f5.mono up) .nil)))) (.tuple (.tail _ (.tail _ (.tail _ (.tail _ (.tail _ (.head _)))))) (.cons (.str _ _) (.cons (.int _ _) (.cons (f6.mono up) .nil)))) (.tuple (.tail _ (.tail _ (.tail _ (.tail _ (.head _))))) (.cons (.str _ _) (.cons (.int _ _) (.cons (f7.mono up) .nil)))) (.tuple (.tail _ (.tail _ (.tail _ (.head _)))) (.cons (.str _ _) (.cons (.int _ _) (.cons (f8.mono up) .nil)))) (.tuple (.tail _ (.tail _ (.head _))) (.cons (.str _ _) (.cons (.int _ _) (.cons (f9.mono up) .nil))))⟩
  exact off_cons hbi (off_cons hbo (off_cons g9 (off_cons g8 (off_cons g7 (off_cons g6 (off_cons g5 (off_cons g4 (off_cons g3 (off_cons g2 (off_cons g1 (off_cons g0 (hr))))))))))))

section
local macro_rules | `(tactic| walk_at $s:str) => `(tactic| k_extra $s)
local macro_rules | `(tactic| k_all) => `(tactic| assumption)
local macro_rules | `(tactic| k_mem) => `(tactic| assumption)
theorem law_loop {w : World} {mean : ExcName → Option Value} {mg mb : Str → Option Value} {fa : Addr} {ccd : Value}
    {A₀ : Around} {base h₀ : Heap} {L : Addr} {m : Str → Option Value} {s : Shared} {Q : Flow → Shared → Prop} {r c ti dti to dto bi bo de : Addr} {o oc obi obo oe : Obj} {n : Nat} {R : Led} {t1 t2 t3 t4 : Tok}
    {a0 a1 a2 a3 a4 a5 a6 a7 a8 a9 : Addr} {w0 w1 w2 w3 w4 w5 w6 w7 w8 w9 : Tok} {v0 v1 v2 v3 v4 v5 v6 v7 v8 v9 : Value} {k0 k1 k2 k3 k4 k5 k6 k7 k8 k9 : Nat}
    (B : Below A₀ base [] h₀) (F : Fr h₀ L s.heap (fun y => if y = Str.ofString "table" then some (.ref de) else if y = Str.ofString "inner" then some (.ref ti) else if y = Str.ofString "outer" then some (.ref to) else if y = Str.ofString "row" then some (.ref r) else m y))
    (X : (hd.heap_39 w.params).In h₀) (N : News h₀ L s.heap ((bi, obi) :: (bo, obo) :: (r, o) :: R)) (T : TopM mean mg mb h₀) (hrow : RowIs w n c o) (hcells : CellsIs n oc)
    (nb1 : ∀ p ∈ R, p.1 ≠ bi) (nb2 : ∀ p ∈ R, p.1 ≠ bo) (nb3 : ∀ p ∈ R, p.1 ≠ r) (z1 : @Ne Nat bi bo) (z2 : @Ne Nat bi r) (z3 : @Ne Nat bo r)
    (me : (de, oe) ∈ R) (lo : (de == sysModules) = false)
    (mt1 : (ti, instObj 59 dti) ∈ R) (mt2 : (dti, W.dictOf [ent w (Str.ofString "parent") t1 (.ref to), ent w (Str.ofString "entries") t2 (.ref bi)] 2) ∈ R)
    (mt3 : (to, instObj 59 dto) ∈ R) (mt4 : (dto, W.dictOf [ent w (Str.ofString "parent") t3 .none, ent w (Str.ofString "entries") t4 (.ref bo)] 2) ∈ R) (l1 : (bi == sysModules) = false) (l2 : (bo == sysModules) = false)
    (D1 : Obj.IsDictOf (PySem.strKind PySem.Challenge.rw_on0096_01.row.prog w) obi ([] : List (Str × Value))) (D2 : Obj.IsDictOf (PySem.strKind PySem.Challenge.rw_on0096_01.row.prog w) obo ([] : List (Str × Value)))
    (mc : (c, oc) ∈ R) (hD : Obj.IsDictOf (PySem.strKind PySem.Challenge.rw_on0096_01.row.prog w) oe [(Str.ofString "wi", .ref a8), (Str.ofString "wo", .ref a9), (Str.ofString "w", .ref a7), (Str.ofString "r", .ref a5), (Str.ofString "P", .ref a0), (Str.ofString "g", .ref a4), (Str.ofString "e", .ref a2), (Str.ofString "t", .ref a6), (Str.ofString "f", .ref a3), (Str.ofString "b", .ref a1)])
    (m0 : (a0, tupO [.str (kindOf 0) w0, v0] k0) ∈ R) (m1 : (a1, tupO [.str (kindOf 1) w1, v1] k1) ∈ R) (m2 : (a2, tupO [.str (kindOf 2) w2, v2] k2) ∈ R) (m3 : (a3, tupO [.str (kindOf 3) w3, v3] k3) ∈ R) (m4 : (a4, tupO [.str (kindOf 4) w4, v4] k4) ∈ R) (m5 : (a5, tupO [.str (kindOf 5) w5, v5] k5) ∈ R) (m6 : (a6, tupO [.str (kindOf 6) w6, v6] k6) ∈ R) (m7 : (a7, tupO [.str (kindOf 7) w7, v7] k7) ∈ R) (m8 : (a8, tupO [.str (kindOf 8) w8, v8] k8) ∈ R) (m9 : (a9, tupO [.str (kindOf 9) w9, v9] k9) ∈ R)
    (f0 : DatIn R v0 (moreOf 0)) (f1 : DatIn R v1 (moreOf 1)) (f2 : DatIn R v2 (moreOf 2)) (f3 : DatIn R v3 (moreOf 3)) (f4 : DatIn R v4 (moreOf 4)) (f5 : DatIn R v5 (moreOf 5)) (f6 : DatIn R v6 (moreOf 6)) (f7 : DatIn R v7 (moreOf 7)) (f8 : DatIn R v8 (moreOf 8)) (f9 : DatIn R v9 (moreOf 9))
    (ret : ∀ h' tk' m', Fr h₀ L h' m' → Q (.ret (.bool true)) { s with heap := h', toks := tk' }) :
    wpAny (model PySem.Challenge.rw_on0096_01.row.prog w) (callerA.deeper (lawEnv L fa ccd)) (execs (lawBody.drop 7) (lawEnv L fa ccd)) Q (fun _ _ => False) s := by
  w_top off
  k_with_none
  k_with "exec Assign" => k_fold
  k_with "exec If" => k_fold
  k_with "call builtin:sorted" => ((k_here; k_dflt (refine' dict_sorted ?qhh ?qF ?qN ?qm ?qlo ?qD (ten_perm _ _ _ _ _ _ _ _ _ _) ten_sorted ?qz ?_; (case qhh => exact rfl); (case qF => k_asm); (case qN => k_asm); (case qD => assumption); (case qm => k_mem); (case qlo => assumption); (case qz => exact Nat.le_of_ble_eq_true rfl)); intro B' h' tk' vs' k' F' N' l1 hS'; (replace l1 := made_list l1); (try k_sweep); (try k_fold)))
  k_with "pyIter ref" => ((k_here; (with_reducible show wpAny _ _ (pyIter (Value.ref _)) (fun it s₂ => LoopAtV _ _ _ _ _ _ _ _ _ it s₂) _ _); (rename Fr _ _ _ _ => lF'); (rename News _ _ _ _ => lN'); (with_unfolding_all refine iter_rangeUnr (n := 10) (by rfl) (by assumption) (by first | decide | rfl) (by first | decide | rfl) lF' lN' ?_); clear lF' lN'; intro i' l1; (obtain ⟨l1, hI'⟩ := allLt_head l1)))
  k_with "RangeRest" => ((with_unfolding_all first | (refine RangeRest.succ (fun t' h' tk' F' N' => ?_)) | (refine RangeRest.zero (fun h' tk' F' N' => ?_))); (replace F' := fr_id F'); (replace N' := news_id N'); (try k_sweep))
  k_with "mine item" => (first | refine' item_ten (j := 0) ?qN ?qm ?qS (by decide) (by rfl) (by decide) ?qs ?_ | refine' item_ten (j := 1) ?qN ?qm ?qS (by decide) (by rfl) (by decide) ?qs ?_ | refine' item_ten (j := 2) ?qN ?qm ?qS (by decide) (by rfl) (by decide) ?qs ?_ | refine' item_ten (j := 3) ?qN ?qm ?qS (by decide) (by rfl) (by decide) ?qs ?_ | refine' item_ten (j := 4) ?qN ?qm ?qS (by decide) (by rfl) (by decide) ?qs ?_ | refine' item_ten (j := 5) ?qN ?qm ?qS (by decide) (by rfl) (by decide) ?qs ?_ | refine' item_ten (j := 6) ?qN ?qm ?qS (by decide) (by rfl) (by decide) ?qs ?_ | refine' item_ten (j := 7) ?qN ?qm ?qS (by decide) (by rfl) (by decide) ?qs ?_ | refine' item_ten (j := 8) ?qN ?qm ?qS (by decide) (by rfl) (by decide) ?qs ?_ | refine' item_ten (j := 9) ?qN ?qm ?qS (by decide) (by rfl) (by decide) ?qs ?_)
  k_with "subscriptTail" => ((k_here; (with_reducible show wpAny _ _ (subscriptTail (PySem.Expr.Call _ _ _ _) _ (Value.ref _) (Value.int _ _)) _ _ _); k_dflt (walk_at "mine item"; (case qN => k_asm); (case qm => k_mem); (case qS => assumption); (case qs => with_unfolding_all rfl)); intro t'; (try k_fold)))
  k_with "subscriptTail" => ((k_here; k_dflt (first | ((with_reducible show wpAny _ _ (subscriptTail _ _ (Value.ref _) (Value.int 0 _)) _ _ _); refine' tup_two0 ?qN ?qm ?_ ?qs; (case qN => k_asm); (case qm => k_mem); (case qs => with_unfolding_all rfl)) | ((with_reducible show wpAny _ _ (subscriptTail _ _ (Value.ref _) (Value.int 1 _)) _ _ _); refine' tup_two1 ?qN ?qm ?_ ?qs; (case qN => k_asm); (case qm => k_mem); (case qs => with_unfolding_all rfl)))))
  k_with "eval Name" => ((k_here; k_dflt (refine' ld ?k1 ?k2 ?_; (case k1 => k_asm); (case k2 => exact rfl); k_whole)))
  k_with "subscriptTail Name Name ref str" => ((k_here; k_dflt ((refine kda_item (knd := PySem.strKind _ _) (by k_asm) (by k_mem) (by assumption) (strKind_is _ _ _ _) (by rfl) ?_))))
  k_with "setItem ref str" => ((k_here; k_dflt (refine' kda_set (knd := PySem.strKind _ _) ?F ?N ?U ?d (strKind_is _ _ _ _) ?z ?_; ((case F => k_asm)); ((case N => k_asm)); ((case U => k_updF)); ((case d => k_asm)); ((case z => kob_size))); intro h' o' F' N' hd'; (try kob_lit); (try dsimp only at N'); (try k_sweep)))
  k_with "UnrEnd" => (((rename OffAll _ _ => y8); (rename StrsAre _ _ => y9); ((first | refine law_end2 (by k_asm) (by k_asm) (by assumption) y8 (by omega) ?_ | refine law_end (by k_asm) (by k_asm) (by assumption) y8 (by omega) ?_)); clear y8 y9; intro hI'))
  k_with "newTuple" => ((k_here; k_dflt (refine' kup_newTuple ?F ?N ?_ ?z; (case F => k_asm); (case N => k_asm); (case z => kmk_size)); intro D' h' F' N' l1; (replace l1 := made_tup l1); (try k_sweep)))
  k_with "execs cons" => ((k_here; (with_reducible show wpAny _ _ (execs (Stmt.Assign _ (PySem.Expr.List _ _) _ :: _) _) _ _ _); (rename News _ _ _ _ => N8); ((obtain ⟨R9, N9, hr9, hc9, htab9⟩ := law_pack N8 (by assumption) (by omega) (by omega) (by omega) (by omega) (by omega) (by omega) (by omega) (by omega) (by omega) (by omega) (by omega) (by omega) (by omega) (by omega) (by omega) (by omega) (by omega) (by omega) (by omega) (by omega) (by omega) (by omega) (by assumption) (by assumption) (by assumption) (by assumption) (by assumption) (by assumption) (by assumption) (by assumption) (by assumption) (by assumption) (by assumption) (by assumption) (by assumption) (by assumption) (by assumption) (by assumption) (by assumption) (by assumption) (by assumption) (by assumption); clear N8)); ((k_dflt (refine' law_rest ?k1 (fr_two ?k2 ?qa ?qb) ?k3 N9 ?k5 ?k6 ?k7 hc9 hr9 htab9 ?_; (case k2 => k_asm); (case qa => first | rfl | with_unfolding_all rfl); (case qb => first | rfl | with_unfolding_all rfl); (case k1 => k_asm); (case k3 => k_asm); (case k5 => k_asm); (case k6 => assumption); (case k7 => assumption)))); ((intro h' tk' m' F'))))
  conv in (List.drop _ _) => whnf
  unfold lawEnv
  conv in (lawScope) => whnf
  conv in (lawScope) => whnf
  k_steps
  exact ret _ _ _ (by k_asm)
end
end Mine
namespace Mine
theorem st_start : ([] : List Int).length = ([] : List Int).length ∧ (0 : Int) ≤ 5 ∧ (5 : Int) < 911 ∧ ∀ x ∈ ([] : List Int), 0 ≤ x ∧ x < 27720 := ⟨rfl, by decide, by decide, fun _ h => nomatch h⟩
theorem st_turn {items pre : List Int} {kN y z : Int} (h : items.length = pre.length) (k : ∀ x ∈ items, 0 ≤ x ∧ x < 27720) :
    (items ++ [y.fmod 27720]).length = (pre ++ [kN]).length ∧ 0 ≤ z.fmod 911 ∧ z.fmod 911 < 911 ∧ ∀ x ∈ items ++ [y.fmod 27720], 0 ≤ x ∧ x < 27720 := by
  have a1 := fmod_in z (show (0 : Int) < 911 by decide)
  have a2 := fmod_in y (show (0 : Int) < 27720 by decide)
  refine ⟨by simp only [List.length_append, h, List.length_cons, List.length_nil], a1.1, a1.2, fun x hx => ?_⟩
  rcases List.mem_append.mp hx with hx | hx
  · exact k x hx
  · rw [List.mem_singleton.mp hx]; exact a2

theorem row_new {w : World} {n : Nat} {c : Addr} {o : Obj} {mix : Int} {ta tm tp : Tok} (hd : Obj.IsDictOf (PySem.strKind PySem.Challenge.rw_on0096_01.row.prog w) o (rowPairs c 0 mix 100 ta tm tp)) (h0 : 0 ≤ mix) (h1 : mix < 911) : RowIs w n c o :=
  ⟨0, mix, 100, ta, tm, tp, hd, Int.le_refl _, by omega, h0, h1⟩
theorem cells_new {ws : List Value} {ns xs : List Int} {k : Nat} (hI : IntsAre ws ns) (hl : ns.length = (List.take 50 xs).length) (hc : (List.take 50 xs).length = min 50 xs.length) : CellsIs (List.take 50 xs).length (W.listOf ws.toArray k) :=
  ⟨ws, ns, k, rfl, hI, hl, by omega⟩

section
local macro_rules | `(tactic| walk_at $s:str) => `(tactic| k_extra $s)
local macro_rules | `(tactic| k_all) => `(tactic| assumption)
local macro_rules | `(tactic| k_mem) => `(tactic| assumption)
theorem law_holds : PySem.Challenge.rw_on0096_01.Holds := hd (by
  w_top off
  k_with_none
  k_with "eval Dict" => ((k_here; k_dflt ( (refine' kdn_str ?q ?F ?N ?b ?a ?l ?e ?n ?_; (case q => rfl); (case F => k_asm); (case N => first | k_asm | exact News.nil); (case b => exact Top.nolimit (by k_asm)); (case a => rfl); (case l => rfl); (case e => exact List.cons_ne_nil _ _); (case n => exact Nat.le_of_ble_eq_true rfl))); intro d' h' o' F' N' l1 lo' hd'; (try k_lt l1)))
  k_with "apart" => (((repeat' (first | exact List.forall_mem_nil _ | refine List.forall_mem_cons.mpr ⟨?_, ?_⟩)) <;> (dsimp only; (show @Ne Nat _ _); (omega))))
  k_with "call ref" => ((k_here; (with_reducible show wpAny _ _ (call (Value.ref 156) _) _ _ _); (k_dflt (refine' entries_law ?k1 ?k2 ?k3 ?k4 ?k5 ?k6 ?k9 ?n1 ?n2 ?n3 ?_)); ((case k1 => k_asm)); ((case k2 => k_asm)); ((case k3 => k_asm)); ((case k4 => k_asm)); ((case k5 => k_asm)); ((case k6 => first | exact rfl | assumption)); ((case k9 => with_unfolding_all (exact Nat.le_of_ble_eq_true rfl))); ((case n1 => walk_at "apart")); ((case n2 => walk_at "apart")); ((case n3 => walk_at "apart")); (k_whole); intro h' tk' de' oe' R' a8' a9' a7' a5' a0' a4' a2' a6' a3' a1' k8' k9' k7' k5' k0' k4' k2' k6' k3' k1' t8' t9' t7' t5' t0' t4' t2' t6' t3' t1' v8' v9' v7' v5' v0' v4' v2' v6' v3' v1' F' N' nb1' nb2' nb3' me' lo' mt1' mt2' mt3' mt4' mc' hD' m8' m9' m7' m5' m0' m4' m2' m6' m3' m1' f8' f9' f7' f5' f0' f4' f2' f6' f3' f1'; (try k_fold)))
  k_with "execs cons" => ((k_here; (with_reducible show wpAny _ _ (execs (Stmt.For _ (PySem.Expr.Call _ _ _ _) _ _ _ :: _) _) _ _ _); (((k_dflt (refine' wpAny_mono (law_loop (n := (List.take 50 _).length) ?k1 ?k2 ?k3 ?k4 ?k5 ?k6 ?k7 ?n1 ?n2 ?n3 ?z1 ?z2 ?z3 ?me ?lo ?q1 ?q2 ?q3 ?q4 ?l1 ?l2 ?D1 ?D2 ?mc ?hD ?m0 ?m1 ?m2 ?m3 ?m4 ?m5 ?m6 ?m7 ?m8 ?m9 ?f0 ?f1 ?f2 ?f3 ?f4 ?f5 ?f6 ?f7 ?f8 ?f9 ?_) (fun _ _ x => x) (fun _ _ x => x.elim); ((case k2 => k_asm)); ((case k4 => k_asm)); ((case k1 => k_asm)); ((case k3 => k_asm)); ((case k5 => k_asm)); ((case k6 => (refine' row_new ?ra ?rb ?rc; ((case ra => assumption)); ((case rb => assumption)); ((case rc => assumption))))); ((case mc => assumption)); ((case k7 => exact cells_new (by assumption) (by assumption) (by assumption))); ((case n1 => assumption)); ((case n2 => assumption)); ((case n3 => assumption)); ((case z1 => omega)); ((case z2 => omega)); ((case z3 => omega)); ((case me => assumption)); ((case lo => assumption)); ((case q2 => assumption)); ((case q1 => assumption)); ((case q4 => assumption)); ((case q3 => assumption)); ((case l1 => assumption)); ((case l2 => assumption)); ((case D1 => assumption)); ((case D2 => assumption)); ((case hD => assumption)); ((case m0 => assumption)); ((case m1 => assumption)); ((case m2 => assumption)); ((case m3 => assumption)); ((case m4 => assumption)); ((case m5 => assumption)); ((case m6 => assumption)); ((case m7 => assumption)); ((case m8 => assumption)); ((case m9 => assumption)); ((case f0 => assumption)); ((case f1 => assumption)); ((case f2 => assumption)); ((case f3 => assumption)); ((case f4 => assumption)); ((case f5 => assumption)); ((case f6 => assumption)); ((case f7 => assumption)); ((case f8 => assumption)); ((case f9 => assumption))))); (intro h' tk' m' F'))))
  k_with "pyIter ref" => (k_of "cell" => k_state (fun (pre : List Int) (mix : Int) (items : List Int) => items.length = pre.length ∧ 0 ≤ mix ∧ mix < 911 ∧ (∀ x ∈ items, 0 ≤ x ∧ x < 27720)) "mix" "cells")
  k_with "state" => (first | exact st_start | exact st_turn (by assumption) (by assumption))
  k_go0; (all_goals try k_fold); k_steps)
end
end Mine

theorem PySem.Challenge.cw_on0096_01_holds : PySem.Challenge.rw_on0096_01.Holds := by
  exact Mine.law_holds
