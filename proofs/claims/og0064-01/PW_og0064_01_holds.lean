import PyProof.Rows.All
import Wide.All
import OpenK.AllK
import Wide.FinOn
import PySem.Challenge.RW_og0064_01
open PySem PySem.W PyProof.Rows
set_option Elab.async false
set_option compiler.extract_closed false
set_option maxRecDepth 100000
set_option maxHeartbeats 8000000
namespace Mine
open_top hd for PySem.Challenge.rw_og0064_01
theorem top_off : True := by w_top off; trivial
set_option hygiene false in
local macro_rules | `(tactic| walk_at "u:0") => `(tactic| (k_here; k_dflt (refine set_any (by k_asm) (by k_asm) (by k_updF) (by omega) (by omega) (by omega) ?_); intro h' F' N'; (try dsimp only at N')))
set_option hygiene false in
local macro_rules | `(tactic| walk_at "u:1") => `(tactic| (k_here; (fail_if_success (with_reducible show wpAny _ _ (subscriptTail (PySem.Expr.Name _ _) _ _ _) _ _ _)); k_dflt (refine kba_turn (value' := PySem.Expr.Name (PySem.Str.ofString "_") ⟨0, 0, 0, 0⟩) (fun _ => rfl) ?_)))
set_option hygiene false in
local macro_rules | `(tactic| walk_at "u:2") => `(tactic| (k_here; (with_reducible show wpAny _ _ (call (Value.ref q) _) _ _ _); k_dflt (refine take_u (by assumption) (by assumption) (by assumption) (by assumption) (by k_updF) (by assumption) (by first | rfl | assumption) hT hoff (fun _ _ => by k_mem) (by omega) (by omega) (by decide) (by ktr_room) (by ktr_units) ?_); intro r' t' tk' n' h' tks' hr0 hr1 F' N'; (try dsimp only at N'); (try k_sweep)))
set_option hygiene false in
local macro_rules | `(tactic| walk_at "u:3") => `(tactic| (k_here; (with_reducible show wpAny _ _ (callWith _ (Value.ref q) _ _ _) _ _ _); k_dflt (refine' callWith_F ?k1 ?_; (case k1 => exact TakeIn.fnAt hT (by assumption) (fun _ _ => by k_mem)); k_whole)))
set_option hygiene false in
local macro_rules | `(tactic| walk_at "u:4") => `(tactic| (k_dflt (exact TakeIn.fnAt hT (by assumption) (fun _ _ => by k_mem))))
set_option hygiene false in
local macro_rules | `(tactic| walk_at "u:5") => `(tactic| (k_here; (with_reducible show wpAny _ _ (call (Value.type "bytes") [Value.ref _]) _ _ _); k_dflt (refine KBa.make_K (by assumption) (by assumption) rfl (News.isList (by assumption) (by k_mem)) hiz hzz (by omega) ?_); intro hb9 tb9 kb9 Fb9 Nb9 _))
set_option hygiene false in
local macro_rules | `(tactic| walk_at "u:6") => `(tactic| (k_here; (with_reducible show wpAny _ _ (call _ [Value.ref _]) _ _ _); k_dflt (refine len_list (News.isList (by assumption) (by k_mem)) (by simp only [List.size_toArray]; omega) ?_); simp only [List.size_toArray]))
set_option hygiene false in
local macro_rules | `(tactic| walk_at $s:str) => if s.getString.startsWith "u:ref " then let n := Lean.Syntax.mkNumLit (s.getString.drop 6).toString; `(tactic| (k_here; (with_reducible show wpAny _ _ (call (Value.ref $n) _) _ _ _); refine Stop.mk ?_)) else Lean.Macro.throwUnsupported
set_option hygiene false in
local macro_rules | `(tactic| walk_at $s:str) => if s.getString.startsWith "u:sub " then let n := Lean.mkIdent (s.getString.drop 6).toString.toName; `(tactic| with_reducible show wpAny _ _ (subscriptTail _ _ (Value.ref $n) _) _ _ _) else Lean.Macro.throwUnsupported
set_option hygiene false in
local macro_rules | `(tactic| walk_at $s:str) => if s.getString.startsWith "u:int " then if s.getString == "u:int _" then `(tactic| with_reducible show wpAny _ _ (subscriptTail _ _ (Value.ref _) (Value.int _ _)) _ _ _) else let n := Lean.Syntax.mkNumLit (s.getString.drop 6).toString; `(tactic| with_reducible show wpAny _ _ (subscriptTail _ _ (Value.ref _) (Value.int $n _)) _ _ _) else Lean.Macro.throwUnsupported
set_option hygiene false in
local macro_rules | `(tactic| walk_at $s:str) => if s.getString.startsWith "u:cmp " then let n := Lean.mkIdent (`CmpOp ++ (s.getString.drop 6).toString.toName); `(tactic| with_reducible show wpAny _ _ (compareOp $n (Value.ref _) (Value.ref _)) _ _ _) else Lean.Macro.throwUnsupported
local macro_rules | `(tactic| k_room) => `(tactic| ktr_room)
local macro_rules | `(tactic| k_units) => `(tactic| ktr_units)
local macro_rules | `(tactic| k_mem) => `(tactic| first | (with_reducible exact List.Mem.head _) | assumption | (refine List.Mem.tail _ ?_; k_mem))
local macro_rules | `(tactic| walk_at "execs cons") => `(tactic| (k_here; dsimp only; k_gentoks))
local macro_rules | `(tactic| walk_at "execs nil") => `(tactic| (k_here; dsimp only; k_gentoks))
section
open PySem.Calls PySem.Spec
set_option maxHeartbeats 4000000
noncomputable def topStmt (n : Nat) : Stmt := (PySem.Challenge.pw_og0064_01.main.body[n]?).getD (.Pass default)
noncomputable def fBody : Stmt → List Stmt
  | .FunctionDef _ _ b _ _ _ _ _ _ _ => b
  | _ => []
noncomputable def fArgs : Stmt → Arguments
  | .FunctionDef _ a _ _ _ _ _ _ _ _ => a
  | _ => default
noncomputable def fScope : Stmt → Scope
  | .FunctionDef _ _ _ _ _ _ s _ _ _ => s
  | _ => default
noncomputable def takeStmt : Stmt := ((fBody (topStmt 6))[3]?).getD (.Pass default)
noncomputable abbrev takeQual : Str := Str.ofString "_law_taker" ++ Str.ofString ".<locals>." ++ Str.ofString "take"
noncomputable abbrev takeObj (cc cp c' : Addr) (doc pm ctv : Value) : Obj :=
  fnMade (Str.ofString "take") takeQual (fArgs takeStmt) (fBody takeStmt) (fScope takeStmt) [(Str.ofString "place", cp), (Str.ofString "cells", cc)] doc pm c' ctv
structure TakeIn (tl : List (Addr × Obj)) (q ap : Addr) : Prop where
  ex : ∃ (cc cp c' ac : Addr) (doc pm ctv : Value) (oc oC oP : Obj) (cvs : Array Value) (ct : Tok) (n : Nat) (vs : List Value) (ns : List Int),
    (q, takeObj cc cp c' doc pm ctv) ∈ tl ∧ (c', oc) ∈ tl ∧ oc.data = .fields cvs ∧ cvs[1]? = some (.str takeQual ct) ∧
    (cc, oC) ∈ tl ∧ oC.data = .cell (some (.ref ac)) ∧ (cp, oP) ∈ tl ∧ oP.data = .cell (some (.ref ap)) ∧
    (ac, listOf vs.toArray n) ∈ tl ∧ IntsAre vs ns ∧ 0 < ns.length ∧ ns.length ≤ 63
theorem item_one {prog : Program} {w : World} {A : Around} {E : Value → Shared → Prop} {s : Shared} {value slice : Expr} {l : Addr} {u : Tok} {x : Value} {Q : Value → Shared → Prop} (hl : s.heap.IsList l #[x])
    (h : Q x s) (hs : subscripted slice false (.ref l) (.int 0 u) = operate [.ref l, .int 0 u] (getItem (.ref l) (.int 0 u)) := by with_unfolding_all rfl) (hg : ∀ r, letTemporaryGo value (.ref l) r = pure () := by intro _; with_unfolding_all rfl) :
    wpAny (model prog w) A (subscriptTail value slice (.ref l) (.int 0 u)) Q E s := item_list hl (by decide) (by decide) rfl h hs hg
theorem fdiv_le400 {k : Int} {n : Nat} (h0 : 0 ≤ k) (h1 : k < 400) (hn : 0 < n) : (k.fdiv (n : Int)).toNat ≤ 400 := by
  have h2 : k.fdiv (n : Int) ≤ k := by
    rw [Int.fdiv_eq_ediv_of_nonneg _ (by omega)]
    exact Int.ediv_le_self _ h0
  omega
theorem fdiv_nn {k : Int} {n : Nat} (h0 : 0 ≤ k) : 0 ≤ k.fdiv (n : Int) := by
    rw [Int.fdiv_eq_ediv_of_nonneg _ (by omega)]
    exact Int.ediv_nonneg h0 (by omega)
theorem pow_pos' (n : Nat) : 0 < (720720 : Int) ^ n := Int.pow_pos (by decide)
theorem pow_ne (n : Nat) : (720720 : Int) ^ n ≠ 0 := Int.ne_of_gt (pow_pos' n)
theorem pow_pylong {x : Int} {n : Nat} (h : n ≤ 400) : Builtin.divisionGoesByPylong x ((720720 : Int) ^ n) = false := by
  refine PyProof.noPylong_of_log2 ?_
  have e : ((720720 : Int) ^ n).natAbs = 720720 ^ n := by rw [Int.natAbs_pow]; rfl
  rw [e]
  have h1 : (720720 : Nat) ^ n ≤ (2 ^ 20) ^ n := Nat.pow_le_pow_left (by decide) n
  rw [← Nat.pow_mul] at h1
  have h2 : (2 : Nat) ^ (20 * n) < 2 ^ 9000 := Nat.pow_lt_pow_right (by decide) (by omega)
  exact (Nat.log2_lt (Nat.ne_of_gt (Nat.pow_pos (by decide)))).mpr (Nat.lt_of_le_of_lt h1 h2)
set_option hygiene false in
local macro_rules | `(tactic| walk_at "eval Name") => `(tactic| (k_here; k_dflt (refine' nameX_F ?N ?c ?m ?d ?_ ?a ?b; (case a => rfl); (case b => rfl); (case N => k_asm); (case c => rfl); (case m => k_mem); (case d => k_asm); k_whole)))
set_option hygiene false in
local macro_rules | `(tactic| walk_at "subscriptTail Name Constant ref int") => `(tactic| (k_here; k_dflt (refine item_one (News.isList (by k_asm) (by k_mem)) ?_)))
set_option hygiene false in
local macro_rules | `(tactic| walk_at "call builtin:len") => `(tactic| (k_here; k_dflt (refine len_list (News.isList (by k_asm) (by k_mem)) (by simp only [List.size_toArray]; omega) ?_); simp only [List.size_toArray]))
set_option hygiene false in
local macro_rules | `(tactic| walk_at "binaryOp FloorDiv int int") => `(tactic| first
  | (refine floordiv_int (by omega) ?_ (.inl (PyProof.noPylong_small (by omega))))
  | (refine floordiv_int (pow_ne _) ?_ (.inl (pow_pylong (by assumption)))))
set_option hygiene false in
local macro_rules | `(tactic| walk_at "binaryOp Mod int int") => `(tactic| (refine mod_int' (by omega) ?_))
set_option hygiene false in
local macro_rules | `(tactic| walk_at "binaryOp Pow int int") => `(tactic| (refine pow_int_small (by omega) (by omega) (by decide) ?_))
set_option hygiene false in
local macro_rules | `(tactic| walk_at "binaryOp Mult int int") => `(tactic| (refine mul_int ?_ (IntMulOk.of_left (intBits_le_64 (by omega) (by omega)))))
theorem take_c {prog : Program} {w : World} {p : Program} {loose : List Str} {mean : ExcName → Option Value} {mg mb : Str → Option Value} {dp un : Nat} {gd : Option (List Code)} {cn : Str} {cs : Scope} {L a : Addr} {ccd : Value} {cl : List (Str × Addr)} {outer : List Env}
    {A₀ : Around} {base h₀ : Heap} {m : Str → Option Value} {tl : List (Addr × Obj)} {s : Shared} {Q E : Value → Shared → Prop} {q ap : Addr} {k lim : Int} {tk tlim : Tok} {n : Nat}
    (B : Below A₀ base outer h₀) (F : Fr h₀ L s.heap m) (X : (Mine.hd.heap_39 w.params).In h₀) (N : News h₀ L s.heap ((ap, listOf #[.int k tk] n) :: tl)) (T : Top p loose mean mg mb h₀) (hk : cs.kind = .function)
    (hT : TakeIn tl q ap) (hoff : OwnOff tl [ap]) (hk0 : 0 ≤ k) (hk1 : k < 400) (hl0 : 0 < lim) (hdp : dp + 1 < recursionLimit) (hu : un + 8 < cLine)
    (ret : ∀ r t tk' n' h' tks, 0 ≤ r → r < lim → Fr h₀ L h' m → News h₀ L h' ((ap, listOf #[.int (k + 1) tk'] n') :: tl) → Q (.int r t) { s with heap := h', toks := tks }) :
    wpAny (model prog w) (ktrTop dp un gd cn cs L a ccd cl outer) (call (.ref q) [.int lim tlim]) Q E s := by
  obtain ⟨cc, cp, c', ac, doc, pm, ctv, oc, oC, oP, cvs, ct, nn, vs, ns, h1, h2, h3, h4, h5, h6, h7, h8, h9, h10, h11, h12⟩ := hT.ex
  have hvl := h10.length
  have hl3 : (vs.length : Int) ≠ 0 := by omega
  have hf1 : 0 ≤ k.fdiv (vs.length : Int) := fdiv_nn hk0
  have hf2 := fdiv_le400 (n := vs.length) hk0 hk1 (by omega)
  have hf3 : k.fdiv (vs.length : Int) ≤ 400 := by omega
  have N1 : ∀ {x}, x ∈ tl → x ∈ ((ap, listOf #[.int k tk] n) :: tl) := fun h => List.mem_cons_of_mem _ h
  refine wpAny_call ?_
  refine code_nest B F X N T rfl rfl hk (N1 h1) (codeRec_news N (N1 h2) h3 h4) (by ktr_room) (binds := [(Str.ofString "limit", .int lim tlim)]) (BindsTo.of_eq rfl) (locs rfl) ?_ rfl rfl rfl (by decide)
  intro g L' h₁ FG F' N' B' X' T'
  dsimp only [fBody, takeStmt, topStmt, PySem.Challenge.pw_og0064_01, List.getElem?_cons_succ, List.getElem?_cons_zero, Option.getD_some, fScope, fArgs]
  (try k_fold)
  k_steps
  exact ret _ _ _ _ _ _ (fmod_lo _ hl0) (fmod_hi _ hl0) (by assumption) (by assumption)
end
section
open PySem.Calls PySem.Spec
set_option maxHeartbeats 4000000
section
open Sem (wp)
theorem bb_lookup : typeLookup (.type "bytes") "__bytes__" = pure (some (.builtin "bytes.__bytes__")) := by rw [typeLookup_type, builtinLookup_eq_fast]; kernel_rfl
variable {prog : Program} {w : World} {A : Around} {E : Value → Shared → Prop} {s : Shared}
theorem bb_new {b : Array UInt8} {t : Tok} {Q : Value → Shared → Prop} (hQ : Q (.bytes b t) s) :
    codeAny (model prog w) A (.call (.builtin "bytes.__new__") ⟨[.type "bytes", .bytes b t], []⟩) (wants Q E) s := by
  refine codeAny_of_tree ?_
  show wpAny _ A.in1 (do checkBuiltinCall "bytes.__new__" ⟨[.type "bytes", .bytes b t], []⟩; again (.builtin "bytes.__new__" ⟨[.type "bytes", .bytes b t], []⟩)) _ _ s
  refine wpAny_bind (wpAny_of_eq (F.bm_newCall _) (wpAny_pure ⟨plainId_quiet F.bm_plain _, codeAny_builtin F.bm_entry ?_⟩))
  rw [Around.under_plainId F.bm_plain _]
  have hT : s.TypeIs (.bytes b t) "bytes" := PySem.W.typeIs_bytes s b t
  unfold Builtin.«bytes.__new__»
  refine wpAny_bind (wpAny_of_eq (a := true) rfl ?_)
  refine bm_if_false rfl ?_
  refine wpAny_bind (wpAny_of_eq F.bm_sub ?_)
  refine bm_if_false rfl ?_
  refine wpAny_bind (wpAny_of_eq (F.bm_bind _) ?_)
  refine wpAny_bind (wpAny_of_eq (a := ()) rfl ?_)
  refine wpAny_bind (wpAny_of_eq (a := ()) rfl ?_)
  refine bm_if_false rfl ?_
  refine wpAny_bind (wpAny_specialOf hT bb_lookup ?_)
  dsimp only
  refine wpAny_bind (wpAny_rule ?_)
  refine wpAny_bind (wpAny_of_eq (a := Value.type "bytes") rfl ?_)
  refine bm_if_true (by decide) ?_
  show wpAny _ _ (if (Value.type "bytes" == Value.type "bytes") = true then _ else _) _ _ _
  refine bm_if_true (by decide) ?_
  first
    | exact wpAny_pure hQ
    | exact wpAny_bind (wpAny_pure (wpAny_pure hQ))
theorem call_bytes_bytes {b : Array UInt8} {t : Tok} {Q : Value → Shared → Prop} (hQ : Q (.bytes b t) s) : wpAny (model prog w) A (call (.type "bytes") [.bytes b t]) Q E s := by
  refine callType_codes (Q₁ := fun obj s₁ => s₁.TypeIs obj "bytes" ∧ Q obj s₁) F.bm_called (F.bm_typeCall _) F.entry_object_init
    (bb_new ⟨PySem.W.typeIs_bytes _ _ _, hQ⟩) fun obj s₁ h₁ => ?_
  exact ⟨h₁.1, F.args_object_init_2 obj _, object_init_meets F.bm_called.init.lookup F.bm_called.made (by decide) prog w A.in1 _ s₁ ⟨h₁.1, rfl, h₁.2⟩⟩
variable {h₀ : Heap} {L D : Addr} {m : Str → Option Value} {news : List (Addr × Obj)}
theorem clear_any {g : Obj → List (Addr × Obj)} {its : Array Value} {n : Nat} {Q : Value → Shared → Prop} (F : Fr h₀ L s.heap m) (N : News h₀ L s.heap news) (U : UpdF D (listOf its n) news g) (hz : its.toList.length ≤ sizeLine)
    (h : ∀ h' n', Fr h₀ L h' m → News h₀ L h' (g (listOf #[] n')) → Q .none { s with heap := h' }) : wpAny (model prog w) A (call (.builtin "list.clear") [.ref D]) Q E s := by
  obtain ⟨pre, post, rfl, hg, a, c⟩ := U.split
  have z := N (D, listOf its n) (List.mem_append.mpr (.inr (.head _)))
  refine call_meets PySem.F.slot_list_clear ⟨_, z.1, rfl⟩ PySem.F.entry_list_clear (PySem.F.args_list_clear_1 _) (PySem.AutoSeq1.list_clear_list_0 D its n (by simpa using hz)) ⟨z.1, ?_⟩
  have e := news_upd (f := Obj.mapSeq fun _ => #[]) (o' := listOf #[] (if (#[] : Array Value).size == its.size then n else n + 1)) F N a c rfl rfl
  exact h _ _ e.1 (by rw [hg]; exact e.2)
theorem set_any {g : Obj → List (Addr × Obj)} {vs : List Value} {v : Value} {n : Nat} {k : Int} {t : Tok} {Q : Unit → Shared → Prop} (F : Fr h₀ L s.heap m) (N : News h₀ L s.heap news) (U : UpdF D (listOf vs.toArray n) news g)
    (h0 : 0 ≤ k) (h1 : k < vs.length) (hfit : k < 2 ^ 63) (h : ∀ h', Fr h₀ L h' m → News h₀ L h' (g (listOf (vs.set k.toNat v).toArray n)) → Q () { s with heap := h' }) :
    wpAny (model prog w) A (setItem (.ref D) (.int k t) v) Q E s := by
  obtain ⟨pre, post, rfl, hg, a, b⟩ := U.split
  have z := N (D, listOf vs.toArray n) (List.mem_append.mpr (.inr (.head _)))
  have hs : vs.toArray.size = vs.length := List.size_toArray ..
  have e1 : vs.toArray.setIfInBounds k.toNat v = (vs.set k.toNat v).toArray := by apply Array.toList_inj.mp; simp
  refine ki_setAt z.1 h0 hfit (by omega) (h _ (F.change (Heap.SameBut.update ..) z.2.1 z.2.2) ?_)
  rw [hg]
  exact ki_turn _ N a b e1 (by simp)
end
end
section
open PySem.Calls PySem.Spec
set_option maxHeartbeats 4000000
noncomputable abbrev Bt := Array UInt8
inductive Deed where
  | read
  | write (b : Bt)
  | rewrite (b : Bt)
inductive Ans where
  | s (x : String)
  | p (x : String) (b : Bt)
inductive Md where
  | inp | io | out | ext
noncomputable abbrev mdStr : Md → Str
  | .inp => Str.ofString "input"
  | .io => Str.ofString "i-o"
  | .out => Str.ofString "output"
  | .ext => Str.ofString "extend"
structure FSt where
  rows : List Bt
  at_ : Nat
  valid : Bool
  last : Option Nat
noncomputable abbrev lastI : Option Nat → Int
  | none => -1
  | some i => (i : Int)
noncomputable def canRead : Md → Bool
  | .inp | .io => true
  | _ => false
noncomputable def fread (md : Md) (f : FSt) : Ans × FSt :=
  if canRead md = false then (.p "47" #[], { f with last := none })
  else if f.valid = false then (.p "46" #[], { f with last := none })
  else if f.rows.length ≤ f.at_ then (.p "10" #[], { f with valid := false, last := none })
  else (.p "00" (f.rows.getD f.at_ #[]), { f with at_ := f.at_ + 1, last := some f.at_ })
noncomputable def fwrite (md : Md) (f : FSt) (b : Bt) : Ans × FSt :=
  if canRead md = true then (.s "48", { f with last := none })
  else (.s "00", { f with rows := f.rows ++ [b], last := none })
noncomputable def frewrite (md : Md) (f : FSt) (b : Bt) : Ans × FSt :=
  match md with
  | .io => match f.last with
    | none => (.s "43", { f with last := none })
    | some i => if b.size = (f.rows.getD i #[]).size then (.s "00", { f with rows := f.rows.set i b, last := none }) else (.s "44", { f with last := none })
  | _ => (.s "49", { f with last := none })
noncomputable def fstep (md : Md) (f : FSt) : Deed → Ans × FSt
  | .read => fread md f
  | .write b => fwrite md f b
  | .rewrite b => frewrite md f b
noncomputable def frun (md : Md) (f : FSt) : List Deed → List Ans × FSt
  | [] => ([], f)
  | d :: ds => let r := fstep md f d; let q := frun md r.2 ds; (r.1 :: q.1, q.2)
noncomputable def AtH (h₀ : Heap) (tl : List (Addr × Obj)) (a : Addr) (o : Obj) : Prop := h₀.get? a = some o ∨ (a, o) ∈ tl
noncomputable def SqAt (kind : String) (h₀ : Heap) (tl : List (Addr × Obj)) (a : Addr) (its : Array Value) : Prop := ∃ o n, AtH h₀ tl a o ∧ o.cls = .type kind ∧ o.data = .seq its n
noncomputable def Each {α : Type} (R : Value → α → Prop) (vs : List Value) (ds : List α) : Prop := vs.length = ds.length ∧ ∀ (i : Nat) (v : Value) (d : α), vs[i]? = some v → ds[i]? = some d → R v d
noncomputable def RowV (v : Value) (b : Bt) : Prop := (∃ t, v = .bytes b t) ∧ b.size < 1000
noncomputable def DeedV (h₀ : Heap) (tl : List (Addr × Obj)) (v : Value) : Deed → Prop
  | .read => ∃ a t, v = .ref a ∧ SqAt "tuple" h₀ tl a #[.str (Str.ofString "read") t]
  | .write b => ∃ a t u, v = .ref a ∧ SqAt "tuple" h₀ tl a #[.str (Str.ofString "write") t, u] ∧ RowV u b
  | .rewrite b => ∃ a t u, v = .ref a ∧ SqAt "tuple" h₀ tl a #[.str (Str.ofString "rewrite") t, u] ∧ RowV u b
noncomputable def AnsV (h₀ : Heap) (tl : List (Addr × Obj)) (v : Value) : Ans → Prop
  | .s x => ∃ t, v = .str (Str.ofString x) t
  | .p x b => ∃ a t u, v = .ref a ∧ SqAt "tuple" h₀ tl a #[.str (Str.ofString x) t, u] ∧ RowV u b
noncomputable abbrev ent (w : World) (x : String) (t : Tok) (v : Value) : DictEntry := { hash := PyData.keyHash w.params (Str.ofString x), key := .str (Str.ofString x) t, val := v }
noncomputable abbrev fileDict (w : World) (ca : Addr) (md : Md) (f : FSt) (t1 t2 t3 t4 t5 tm ta tl : Tok) : Obj :=
  dictOf [ent w "content" t1 (.ref ca), ent w "mode" t2 (.str (mdStr md) tm), ent w "at" t3 (.int (f.at_ : Int) ta), ent w "is_valid" t4 (.bool f.valid), ent w "last" t5 (.int (lastI f.last) tl)] 5
structure FileIs (w : World) (I dx ca : Addr) (md : Md) (f : FSt) (own : List (Addr × Obj)) : Prop where
  ex : ∃ (vs : List Value) (n : Nat) (t1 t2 t3 t4 t5 tm ta tl : Tok), own = [(I, instObj 61 dx), (dx, fileDict w ca md f t1 t2 t3 t4 t5 tm ta tl), (ca, listOf vs.toArray n)] ∧ Each RowV vs f.rows
  n1 : I ≠ dx
  n2 : ca ≠ dx
  n3 : ca ≠ I
  lk : ∀ i, f.last = some i → i < f.rows.length
section
variable {α : Type} {R R' : Value → α → Prop} {vs ws : List Value} {ds es : List α}
theorem AtH.mono {h₀ g : Heap} {tl tl' : List (Addr × Obj)} {a : Addr} {o : Obj} (h : AtH h₀ tl a o) (k : ∀ b x, h₀.get? b = some x → g.get? b = some x) (s : ∀ p ∈ tl, p ∈ tl') : AtH g tl' a o :=
  h.imp (k _ _) (s _)
theorem SqAt.mono {kind : String} {h₀ g : Heap} {tl tl' : List (Addr × Obj)} {a : Addr} {its : Array Value} (h : SqAt kind h₀ tl a its) (k : ∀ b x, h₀.get? b = some x → g.get? b = some x) (s : ∀ p ∈ tl, p ∈ tl') : SqAt kind g tl' a its :=
  let ⟨o, n, h1, h2⟩ := h; ⟨o, n, h1.mono k s, h2⟩
theorem SqAt.look {kind : String} {h₀ h : Heap} {L : Addr} {m : Str → Option Value} {tl : List (Addr × Obj)} {a : Addr} {its : Array Value} (x : SqAt kind h₀ tl a its) (F : Fr h₀ L h m) (N : News h₀ L h tl) :
    ∃ o n, h.get? a = some o ∧ o.cls = .type kind ∧ o.data = .seq its n := by
  obtain ⟨o, n, h1, h2, h3⟩ := x
  exact ⟨o, n, h1.elim (F.keep _ _) fun q => (N _ q).1, h2, h3⟩
theorem SqAt.tup {h₀ h : Heap} {L : Addr} {m : Str → Option Value} {tl : List (Addr × Obj)} {a : Addr} {its : Array Value} (x : SqAt "tuple" h₀ tl a its) (F : Fr h₀ L h m) (N : News h₀ L h tl) : IsTup h a its :=
  let ⟨o, n, h1, h2, h3⟩ := x.look F N; ⟨o, h1, h2, n, h3⟩
theorem SqAt.lst {h₀ h : Heap} {L : Addr} {m : Str → Option Value} {tl : List (Addr × Obj)} {a : Addr} {its : Array Value} (x : SqAt "list" h₀ tl a its) (F : Fr h₀ L h m) (N : News h₀ L h tl) : h.IsList a its :=
  let ⟨o, n, h1, h2, h3⟩ := x.look F N; ⟨o, h1, h2, n, h3⟩
theorem DeedV.mono {h₀ g : Heap} {tl tl' : List (Addr × Obj)} {v : Value} (k : ∀ b x, h₀.get? b = some x → g.get? b = some x) (s : ∀ p ∈ tl, p ∈ tl') : ∀ {d : Deed}, DeedV h₀ tl v d → DeedV g tl' v d
  | .read, ⟨a, t, h1, h2⟩ => ⟨a, t, h1, h2.mono k s⟩
  | .write _, ⟨a, t, u, h1, h2, h3⟩ => ⟨a, t, u, h1, h2.mono k s, h3⟩
  | .rewrite _, ⟨a, t, u, h1, h2, h3⟩ => ⟨a, t, u, h1, h2.mono k s, h3⟩
theorem AnsV.mono {h₀ g : Heap} {tl tl' : List (Addr × Obj)} {v : Value} (k : ∀ b x, h₀.get? b = some x → g.get? b = some x) (s : ∀ p ∈ tl, p ∈ tl') : ∀ {d : Ans}, AnsV h₀ tl v d → AnsV g tl' v d
  | .s _, h => h
  | .p _ _, ⟨a, t, u, h1, h2, h3⟩ => ⟨a, t, u, h1, h2.mono k s, h3⟩
theorem Each.mono (h : Each R vs ds) (k : ∀ v d, R v d → R' v d) : Each R' vs ds := ⟨h.1, fun i v d h1 h2 => k _ _ (h.2 i v d h1 h2)⟩
theorem Each.nil : Each R [] [] := ⟨rfl, fun i v d h => by simp at h⟩
theorem Each.at (h : Each R vs ds) {i : Nat} (hi : i < ds.length) : ∃ v, vs[i]? = some v ∧ R v ds[i] := by
  have h1 : i < vs.length := by rw [h.1]; exact hi
  exact ⟨vs[i], List.getElem?_eq_getElem h1, h.2 i _ _ (List.getElem?_eq_getElem h1) (List.getElem?_eq_getElem hi)⟩
theorem Each.append (h : Each R vs ds) (k : Each R ws es) : Each R (vs ++ ws) (ds ++ es) := by
  refine ⟨by rw [List.length_append, List.length_append, h.1, k.1], fun i v d h1 h2 => ?_⟩
  by_cases hi : i < vs.length
  · rw [List.getElem?_append_left hi] at h1
    rw [List.getElem?_append_left (by rw [← h.1]; exact hi)] at h2
    exact h.2 i v d h1 h2
  · rw [List.getElem?_append_right (by omega)] at h1
    rw [List.getElem?_append_right (by have := h.1; omega), ← h.1] at h2
    exact k.2 _ v d h1 h2
theorem Each.one {v : Value} {d : α} (h : R v d) : Each R [v] [d] := by
  refine ⟨rfl, fun i v' d' h1 h2 => ?_⟩
  cases i with
  | zero => simp at h1 h2; subst h1 h2; exact h
  | succ n => simp at h1
theorem Each.snoc {v : Value} {d : α} (h : Each R vs ds) (k : R v d) : Each R (vs ++ [v]) (ds ++ [d]) := h.append (.one k)
theorem Each.set {v : Value} {d : α} {i : Nat} (h : Each R vs ds) (k : R v d) : Each R (vs.set i v) (ds.set i d) := by
  refine ⟨by rw [List.length_set, List.length_set, h.1], fun j v' d' h1 h2 => ?_⟩
  rw [List.getElem?_set] at h1 h2
  by_cases e : i = j
  · subst e
    by_cases hl : i < vs.length
    · have hl' : i < ds.length := by rw [← h.1]; exact hl
      simp [hl] at h1; simp [hl'] at h2
      subst h1 h2; exact k
    · simp [hl] at h1
  · simp [e] at h1 h2
    exact h.2 j _ _ h1 h2
end
end
section
open PySem.Calls PySem.Spec
set_option maxHeartbeats 4000000
noncomputable def fopen (md : Md) (rows : List Bt) : FSt := { rows := match md with | .out => [] | _ => rows, at_ := 0, valid := true, last := none }
theorem allLt_off {a : Addr} : ∀ {l : List (Addr × Obj)}, AllLt a l → ∀ p ∈ l, p.1 < a
  | [], _, _, h => nomatch h
  | _ :: _, h, _, .head _ => h.1
  | _ :: _, h, p, .tail _ k => allLt_off h.2 p k
section
local macro_rules | `(tactic| k_enter) => `(tactic| cell_enter)
set_option hygiene false in
local macro_rules | `(tactic| walk_at "call builtin:list.clear") => `(tactic| (k_here; k_dflt (refine clear_any (by k_asm) (by k_asm) (by k_updF) (by assumption) ?_); intro h' n' F' N'; (try dsimp only at N')))
variable {prog : Program} {w : World} {p : Program} {loose : List Str} {mean : ExcName → Option Value} {mg mb : Str → Option Value} {dp un : Nat} {gd : Option (List Code)} {cn : Str} {cs : Scope} {L a : Addr} {ccd : Value} {cl : List (Str × Addr)} {outer : List Env}
    {A₀ : Around} {base h₀ : Heap} {m : Str → Option Value} {tl : List (Addr × Obj)} {s : Shared} {Q E : Value → Shared → Prop}
theorem file_leave {ca I dx : Addr} {vs : List Value} {n : Nat} {md : Md} {rows : List Bt} {t1 t2 t3 t4 t5 tm ta tl' : Tok} {h' : Heap} {tks : Nat} (l6 : @LT.lt Nat _ dx I) (l5 : @LT.lt Nat _ ca dx ∧ AllLt dx tl)
    (F : Fr h₀ L h' m) (N : News h₀ L h' ([(I, instObj 61 dx), (dx, fileDict w ca md (fopen md rows) t1 t2 t3 t4 t5 tm ta tl'), (ca, listOf vs.toArray n)] ++ tl)) (hR : Each RowV vs (fopen md rows).rows)
    (ret : ∀ I dx own h' tks, FileIs w I dx ca md (fopen md rows) own → OwnOff tl [I, dx] → Fr h₀ L h' m → News h₀ L h' (own ++ tl) → Q (.ref I) { s with heap := h', toks := tks }) : Q (.ref I) { s with heap := h', toks := tks } := by
  obtain ⟨l7, l8⟩ := l5
  refine ret I dx _ _ _ ⟨⟨_, _, _, _, _, _, _, _, _, _, rfl, hR⟩, Nat.ne_of_gt l6, Nat.ne_of_lt l7, Nat.ne_of_lt (Nat.lt_trans l7 l6), fun _ h => by cases h⟩ ?_ F N
  intro q hq b hb
  have l10 := allLt_off l8 q hq
  rcases List.mem_cons.mp hb with rfl | hb
  · exact Nat.ne_of_lt (Nat.lt_trans l10 l6)
  · rw [List.mem_singleton.mp hb]; exact Nat.ne_of_lt l10
theorem file_c {ca : Addr} {vs : List Value} {n : Nat} {tk : Tok} {md : Md} {rows : List Bt}
    (B : Below A₀ base outer h₀) (F : Fr h₀ L s.heap m) (X : (Mine.hd.heap_39 w.params).In h₀) (N : News h₀ L s.heap ((ca, listOf vs.toArray n) :: tl)) (T : Top p loose mean mg mb h₀) (hk : cs.kind = .function)
    (hoff : OwnOff tl [ca]) (hR : Each RowV vs rows) (hz : vs.length ≤ sizeLine) (hdp : dp + 3 < recursionLimit)
    (ret : ∀ I dx own h' tks, FileIs w I dx ca md (fopen md rows) own → OwnOff tl [I, dx] → Fr h₀ L h' m → News h₀ L h' (own ++ tl) → Q (.ref I) { s with heap := h', toks := tks }) :
    wpAny (model prog w) (ktrTop dp un gd cn cs L a ccd cl outer) (call (.ref 61) [.ref ca, .str (mdStr md) tk]) Q E s := by
  cases md
  all_goals (
    dsimp only [mdStr]
    k_steps
    rename _ ∧ AllLt _ _ => l5
    rename @LT.lt Nat _ _ _ => l6
    exact file_leave l6 l5 (by assumption) (by assumption) (by first | exact hR | exact .nil) ret)
end
end
section
open PySem.Calls PySem.Spec
set_option maxHeartbeats 4000000
section
variable {prog : Program} {w : World} {A : Around} {E : Value → Shared → Prop} {s : Shared}
theorem tup_use0 {h₀ h : Heap} {L : Addr} {m : Str → Option Value} {tl news : List (Addr × Obj)} {a : Addr} {its : Array Value} (x : SqAt "tuple" h₀ tl a its) (F : Fr h₀ L h m) (N : News h₀ L h news) (s : ∀ p ∈ tl, p ∈ news) : IsTup h a its :=
  x.tup F fun p hp => N p (s p hp)
theorem tup_use1 {h₀ g h : Heap} {L L₀ : Addr} {m m₀ : Str → Option Value} {tl news : List (Addr × Obj)} {a : Addr} {its : Array Value} (x : SqAt "tuple" h₀ tl a its) (FG : Fr h₀ L₀ g m₀) (F : Fr g L h m) (N : News g L h news) (s : ∀ p ∈ tl, p ∈ news) : IsTup h a its :=
  tup_use0 (x.mono FG.keep fun _ h => h) F N s
theorem notin_K2 {K : Frag} {h₀ : Heap} {L : Addr} {m : Str → Option Value} {l : Addr} {x a b : Str} {u ta tb : Tok} {n : Nat} {d : Option Addr} {sl : Array (Option Value)} {r : Bool} {Q : Value → Shared → Prop} (F : Fr h₀ L s.heap m) (X : K.In h₀)
    (ho : K.lookup l = some { cls := .type "tuple", dict := d, data := .seq #[.str a ta, .str b tb] n, slots := sl }) (hb : (!([a, b].any (· == x))) = r) (h : Q (.bool r) s) : wpAny (model prog w) A (compareOp .NotIn (.str x u) (.ref l)) Q E s := by
  subst hb
  exact notin_tuple_strs (kun_topT F X ho) (.cons a ta (.cons b tb .nil)) h
theorem md_rdY {md : Md} (h : canRead md = true) : (!([Str.ofString "input", Str.ofString "i-o"].any (· == mdStr md))) = false := by cases md <;> first | (cases h; done) | decide +kernel
theorem md_rdN {md : Md} (h : canRead md = false) : (!([Str.ofString "input", Str.ofString "i-o"].any (· == mdStr md))) = true := by cases md <;> first | (cases h; done) | decide +kernel
theorem md_adY {md : Md} (h : canRead md = false) : (!([Str.ofString "output", Str.ofString "extend"].any (· == mdStr md))) = false := by cases md <;> first | (cases h; done) | decide +kernel
theorem md_adN {md : Md} (h : canRead md = true) : (!([Str.ofString "output", Str.ofString "extend"].any (· == mdStr md))) = true := by cases md <;> first | (cases h; done) | decide +kernel
theorem md_nio {md : Md} (h : md ≠ .io) : (mdStr md != Str.ofString "i-o") = true := by cases md <;> first | exact absurd rfl h | decide +kernel
theorem md_nout {md : Md} (h : md ≠ .out) : (mdStr md == Str.ofString "output") = false := by cases md <;> first | exact absurd rfl h | decide +kernel
theorem eq_str_is {x y : Str} {t u : Tok} {r : Bool} {Q : Value → Shared → Prop} (hb : (x == y) = r) (h : Q (.bool r) s) : wpAny (model prog w) A (compareOp .Eq (.str x t) (.str y u)) Q E s := by
  subst hb; exact PyProof.Rows.eq_str h
theorem ne_str_is {x y : Str} {t u : Tok} {r : Bool} {Q : Value → Shared → Prop} (hb : (x != y) = r) (h : Q (.bool r) s) : wpAny (model prog w) A (compareOp .NotEq (.str x t) (.str y u)) Q E s := by
  subst hb; exact PyProof.Rows.ne_str h
theorem tup_i0 {value slice : Expr} {l : Addr} {u : Tok} {x : Value} {r : List Value} {Q : Value → Shared → Prop} (hl : IsTup s.heap l (x :: r).toArray)
    (h : Q x s) (hs : subscripted slice false (.ref l) (.int 0 u) = operate [.ref l, .int 0 u] (getItem (.ref l) (.int 0 u)) := by with_unfolding_all rfl) (hg : ∀ r, letTemporaryGo value (.ref l) r = pure () := by intro _; with_unfolding_all rfl) :
    wpAny (model prog w) A (subscriptTail value slice (.ref l) (.int 0 u)) Q E s := item_tuple (j := 0) hl (by omega) (by decide) (seqIndex_of (by decide) (by simp only [List.size_toArray, List.length_cons]; omega)) (by simp) h hs hg
theorem tup_i1 {value slice : Expr} {l : Addr} {u : Tok} {x y : Value} {r : List Value} {Q : Value → Shared → Prop} (hl : IsTup s.heap l (x :: y :: r).toArray)
    (h : Q y s) (hs : subscripted slice false (.ref l) (.int 1 u) = operate [.ref l, .int 1 u] (getItem (.ref l) (.int 1 u)) := by with_unfolding_all rfl) (hg : ∀ r, letTemporaryGo value (.ref l) r = pure () := by intro _; with_unfolding_all rfl) :
    wpAny (model prog w) A (subscriptTail value slice (.ref l) (.int 1 u)) Q E s := item_tuple (j := 1) hl (by omega) (by decide) (seqIndex_of (by decide) (by simp only [List.size_toArray, List.length_cons]; omega)) (by simp) h hs hg
end
section
local macro_rules | `(tactic| k_enter) => `(tactic| cell_enter)
set_option hygiene false in
local macro_rules | `(tactic| walk_at "subscriptTail Name Constant ref int") => `(tactic| (k_here; k_dflt (first | ((walk_at "u:int 0"); refine tup_i0 (tup_use1 (by assumption) (by assumption) (by assumption) (by assumption) (fun _ _ => by k_mem)) ?_) | ((walk_at "u:int 1"); refine tup_i1 (tup_use1 (by assumption) (by assumption) (by assumption) (by assumption) (fun _ _ => by k_mem)) ?_))))
set_option hygiene false in
local macro_rules | `(tactic| walk_at "call builtin:len") => `(tactic| (k_here; k_dflt (first
  | ((with_reducible show wpAny _ _ (call _ [Value.ref _]) _ _ _); refine len_list (News.isList (by k_asm) (by k_mem)) (by simp only [List.size_toArray]; omega) ?_; simp only [List.size_toArray])
  | ((with_reducible show wpAny _ _ (call _ [Value.bytes _ _]) _ _ _); refine len_bytes (by omega) ?_))))
set_option hygiene false in
local macro_rules | `(tactic| walk_at "compareOp NotIn str ref") => `(tactic| (k_here; k_dflt (first
  | (refine' notin_K2 (r := true) ?k1 ?k2 ?k3 ?k4 ?_; (case k1 => k_asm); (case k2 => k_asm); (case k3 => k_is); (case k4 => first | exact md_rdN (by assumption) | exact md_adN (by assumption)))
  | (refine' notin_K2 (r := false) ?k1 ?k2 ?k3 ?k4 ?_; (case k1 => k_asm); (case k2 => k_asm); (case k3 => k_is); (case k4 => first | exact md_rdY (by assumption) | exact md_adY (by assumption))))))
set_option hygiene false in
local macro_rules | `(tactic| walk_at "subscriptTail") => `(tactic| (k_here; k_dflt (refine item_list (News.isList (by k_asm) (by k_mem)) (by omega) (by omega) (by simpa using hxget) ?_)))
local macro_rules | `(tactic| walk_at "call type:bytes") => `(tactic| (refine call_bytes_bytes ?_))
variable {prog : Program} {w : World} {p : Program} {loose : List Str} {mean : ExcName → Option Value} {mg mb : Str → Option Value} {dp un : Nat} {gd : Option (List Code)} {cn : Str} {cs : Scope} {L a : Addr} {ccd : Value} {cl : List (Str × Addr)} {outer : List Env}
    {A₀ : Around} {base h₀ : Heap} {m : Str → Option Value} {tl : List (Addr × Obj)} {s : Shared} {Q E : Value → Shared → Prop}
theorem ask_pair {I dx ca D : Addr} {vs : List Value} {n nt : Nat} {md : Md} {f : FSt} {d : Deed} {x : String} {b : Bt} {u : Value} {ai li : Int} {vb : Bool} {t1 t2 t3 t4 t5 tm ta tla tx : Tok} {h' : Heap} {tks : Nat}
    (n1 : @Ne Nat I dx) (n2 : @Ne Nat ca dx) (n3 : @Ne Nat ca I) (l1 : @LT.lt Nat _ I D ∧ @LT.lt Nat _ dx D ∧ @LT.lt Nat _ ca D ∧ AllLt D tl) (F : Fr h₀ L h' m)
    (N : News h₀ L h' ((D, { cls := .type "tuple", data := .seq #[.str (Str.ofString x) tx, u] nt }) :: (I, instObj 61 dx) :: (dx, dictOf [ent w "content" t1 (.ref ca), ent w "mode" t2 (.str (mdStr md) tm), ent w "at" t3 (.int ai ta), ent w "is_valid" t4 (.bool vb), ent w "last" t5 (.int li tla)] 5) :: (ca, listOf vs.toArray n) :: tl))
    (hu : RowV u b) (e : (fstep md f d).1 = .p x b) (ha : ai = ((fstep md f d).2.at_ : Int)) (hv : vb = (fstep md f d).2.valid) (hl : li = lastI (fstep md f d).2.last) (hR : Each RowV vs (fstep md f d).2.rows)
    (lk : ∀ i, (fstep md f d).2.last = some i → i < (fstep md f d).2.rows.length)
    (ret : ∀ v new own' h' tks, FileIs w I dx ca md (fstep md f d).2 own' → AnsV h₀ new v (fstep md f d).1 → OwnOff new (I :: dx :: ca :: tl.map (·.1)) → Fr h₀ L h' m → News h₀ L h' (own' ++ (new ++ tl)) → Q v { s with heap := h', toks := tks }) :
    Q (.ref D) { s with heap := h', toks := tks } := by
  subst ha hv hl
  refine ret _ [(D, { cls := .type "tuple", data := .seq #[.str (Str.ofString x) tx, u] nt })] [(I, instObj 61 dx), (dx, fileDict w ca md (fstep md f d).2 t1 t2 t3 t4 t5 tm ta tla), (ca, listOf vs.toArray n)] h' tks ⟨⟨_, _, _, _, _, _, _, _, _, _, rfl, hR⟩, n1, n2, n3, lk⟩ (by rw [e]; exact ⟨D, tx, u, rfl, ⟨_, nt, .inr (.head _), rfl, rfl⟩, hu⟩) ?_ F fun p hp => N p ?_
  · intro q hq b hb
    rw [List.mem_singleton.mp hq]
    rcases List.mem_cons.mp hb with rfl | hb
    · exact Nat.ne_of_gt l1.1
    · rcases List.mem_cons.mp hb with rfl | hb
      · exact Nat.ne_of_gt l1.2.1
      · rcases List.mem_cons.mp hb with rfl | hb
        · exact Nat.ne_of_gt l1.2.2.1
        · obtain ⟨z, hz, rfl⟩ := List.mem_map.mp hb
          exact Nat.ne_of_gt (allLt_off l1.2.2.2 z hz)
  · rcases List.mem_append.mp hp with hp | hp
    · exact .tail _ (List.mem_append_left tl (as := [_, _, _]) hp)
    · rcases List.mem_append.mp hp with hp | hp
      · rw [List.mem_singleton.mp hp]; exact .head _
      · exact .tail _ (.tail _ (.tail _ (.tail _ hp)))
theorem ask_str {I dx ca : Addr} {vs : List Value} {n : Nat} {md : Md} {f : FSt} {d : Deed} {x : String} {ai li : Int} {vb : Bool} {t1 t2 t3 t4 t5 tm ta tla tx : Tok} {h' : Heap} {tks : Nat}
    (n1 : @Ne Nat I dx) (n2 : @Ne Nat ca dx) (n3 : @Ne Nat ca I) (F : Fr h₀ L h' m)
    (N : News h₀ L h' ((I, instObj 61 dx) :: (dx, dictOf [ent w "content" t1 (.ref ca), ent w "mode" t2 (.str (mdStr md) tm), ent w "at" t3 (.int ai ta), ent w "is_valid" t4 (.bool vb), ent w "last" t5 (.int li tla)] 5) :: (ca, listOf vs.toArray n) :: tl))
    (e : (fstep md f d).1 = .s x) (ha : ai = ((fstep md f d).2.at_ : Int)) (hv : vb = (fstep md f d).2.valid) (hl : li = lastI (fstep md f d).2.last) (hR : Each RowV vs (fstep md f d).2.rows)
    (lk : ∀ i, (fstep md f d).2.last = some i → i < (fstep md f d).2.rows.length)
    (ret : ∀ v new own' h' tks, FileIs w I dx ca md (fstep md f d).2 own' → AnsV h₀ new v (fstep md f d).1 → OwnOff new (I :: dx :: ca :: tl.map (·.1)) → Fr h₀ L h' m → News h₀ L h' (own' ++ (new ++ tl)) → Q v { s with heap := h', toks := tks }) :
    Q (.str (Str.ofString x) tx) { s with heap := h', toks := tks } := by
  subst ha hv hl
  refine ret _ [] [(I, instObj 61 dx), (dx, fileDict w ca md (fstep md f d).2 t1 t2 t3 t4 t5 tm ta tla), (ca, listOf vs.toArray n)] h' tks ⟨⟨_, _, _, _, _, _, _, _, _, _, rfl, hR⟩, n1, n2, n3, lk⟩ (by rw [e]; exact ⟨tx, rfl⟩) (fun _ h => nomatch h) F N
theorem asked_read {I dx ca : Addr} {own : List (Addr × Obj)} {md : Md} {f : FSt} {dv : Value}
    (B : Below A₀ base outer h₀) (F : Fr h₀ L s.heap m) (X : (Mine.hd.heap_39 w.params).In h₀) (N : News h₀ L s.heap (own ++ tl)) (T : Top p loose mean mg mb h₀) (hk : cs.kind = .function)
    (hF : FileIs w I dx ca md f own) (hoff : OwnOff tl [I, dx, ca]) (hd : DeedV h₀ tl dv .read) (hz : f.rows.length < 1000) (hdp : dp + 3 < recursionLimit)
    (ret : ∀ v new own' h' tks, FileIs w I dx ca md (fstep md f .read).2 own' → AnsV h₀ new v (fstep md f .read).1 → OwnOff new (I :: dx :: ca :: tl.map (·.1)) → Fr h₀ L h' m → News h₀ L h' (own' ++ (new ++ tl)) → Q v { s with heap := h', toks := tks }) :
    wpAny (model prog w) (ktrTop dp un gd cn cs L a ccd cl outer) (call (.ref 145) [.ref I, dv]) Q E s := by
  obtain ⟨⟨vs, n, t1, t2, t3, t4, t5, tm, ta, tla, rfl, hR⟩, n1, n2, n3, lk⟩ := hF
  obtain ⟨da, t, rfl, hd⟩ := hd
  have hvl := hR.1
  replace n1 : @Ne Nat I dx := n1
  replace n2 : @Ne Nat ca dx := n2
  replace n3 : @Ne Nat ca I := n3
  obtain ⟨rows, at_, valid, last⟩ := f
  dsimp only at hz lk hR hvl
  dsimp only [List.cons_append, List.nil_append, fileDict, ent] at N
  cases hcr : canRead md with
  | false =>
    k_steps
    rename (_ ∧ _ ∧ _ ∧ AllLt _ _) => l1
    refine ask_pair (b := #[]) n1 n2 n3 l1 (by assumption) (by assumption) ⟨⟨_, rfl⟩, by decide⟩ ?_ ?_ ?_ ?_ ?_ ?_ ret <;> simp [fstep, fread, hcr, hR, lastI] <;> done
  | true =>
    cases valid with
    | false =>
      k_steps
      rename (_ ∧ _ ∧ _ ∧ AllLt _ _) => l1
      refine ask_pair (b := #[]) n1 n2 n3 l1 (by assumption) (by assumption) ⟨⟨_, rfl⟩, by decide⟩ ?_ ?_ ?_ ?_ ?_ ?_ ret <;> simp [fstep, fread, hcr, hR, lastI] <;> done
    | true =>
      by_cases hlt : at_ < rows.length
      · obtain ⟨v, hxget, ⟨bt, rfl⟩, hb⟩ := hR.at hlt
        have hgd : rows.getD at_ #[] = rows[at_] := by simp [List.getD, hlt]
        rw [← hgd] at hxget hb
        have hnl : ¬ rows.length ≤ at_ := by omega
        k_steps
        all_goals try omega
        rename (_ ∧ _ ∧ _ ∧ AllLt _ _) => l1
        refine ask_pair (b := rows.getD at_ #[]) n1 n2 n3 l1 (by assumption) (by assumption) ⟨⟨_, rfl⟩, hb⟩ ?_ ?_ ?_ ?_ ?_ ?_ ret <;> simp [fstep, fread, hcr, hnl, hR, lastI, hlt] <;> done
      · have hnl : rows.length ≤ at_ := by omega
        k_steps
        all_goals try omega
        rename (_ ∧ _ ∧ _ ∧ AllLt _ _) => l1
        refine ask_pair (b := #[]) n1 n2 n3 l1 (by assumption) (by assumption) ⟨⟨_, rfl⟩, by decide⟩ ?_ ?_ ?_ ?_ ?_ ?_ ret <;> simp [fstep, fread, hcr, hnl, hR, lastI] <;> done
set_option hygiene false in
local macro_rules | `(tactic| walk_at "compareOp NotEq str str") => `(tactic| (k_here; k_dflt (refine ne_str_is (r := true) (md_nio (by assumption)) ?_)))
set_option hygiene false in
local macro_rules | `(tactic| walk_at "setItem ref int") => `(tactic| walk_at "u:0")
theorem ask_strA {I dx ca : Addr} {vs : List Value} {its : Array Value} {n : Nat} {md : Md} {f : FSt} {d : Deed} {x : String} {ai li : Int} {vb : Bool} {t1 t2 t3 t4 t5 tm ta tla tx : Tok} {h' : Heap} {tks : Nat} (hA : its = vs.toArray)
    (n1 : @Ne Nat I dx) (n2 : @Ne Nat ca dx) (n3 : @Ne Nat ca I) (F : Fr h₀ L h' m)
    (N : News h₀ L h' ((I, instObj 61 dx) :: (dx, dictOf [ent w "content" t1 (.ref ca), ent w "mode" t2 (.str (mdStr md) tm), ent w "at" t3 (.int ai ta), ent w "is_valid" t4 (.bool vb), ent w "last" t5 (.int li tla)] 5) :: (ca, listOf its n) :: tl))
    (e : (fstep md f d).1 = .s x) (ha : ai = ((fstep md f d).2.at_ : Int)) (hv : vb = (fstep md f d).2.valid) (hl : li = lastI (fstep md f d).2.last) (hR : Each RowV vs (fstep md f d).2.rows)
    (lk : ∀ i, (fstep md f d).2.last = some i → i < (fstep md f d).2.rows.length)
    (ret : ∀ v new own' h' tks, FileIs w I dx ca md (fstep md f d).2 own' → AnsV h₀ new v (fstep md f d).1 → OwnOff new (I :: dx :: ca :: tl.map (·.1)) → Fr h₀ L h' m → News h₀ L h' (own' ++ (new ++ tl)) → Q v { s with heap := h', toks := tks }) :
    Q (.str (Str.ofString x) tx) { s with heap := h', toks := tks } := by
  subst hA
  exact ask_str n1 n2 n3 F N e ha hv hl hR lk ret
theorem asked_write {I dx ca : Addr} {own : List (Addr × Obj)} {md : Md} {f : FSt} {dv : Value} {b : Bt}
    (B : Below A₀ base outer h₀) (F : Fr h₀ L s.heap m) (X : (Mine.hd.heap_39 w.params).In h₀) (N : News h₀ L s.heap (own ++ tl)) (T : Top p loose mean mg mb h₀) (hk : cs.kind = .function)
    (hF : FileIs w I dx ca md f own) (hoff : OwnOff tl [I, dx, ca]) (hd : DeedV h₀ tl dv (.write b)) (hz : f.rows.length < 1000) (hdp : dp + 3 < recursionLimit)
    (ret : ∀ v new own' h' tks, FileIs w I dx ca md (fstep md f (.write b)).2 own' → AnsV h₀ new v (fstep md f (.write b)).1 → OwnOff new (I :: dx :: ca :: tl.map (·.1)) → Fr h₀ L h' m → News h₀ L h' (own' ++ (new ++ tl)) → Q v { s with heap := h', toks := tks }) :
    wpAny (model prog w) (ktrTop dp un gd cn cs L a ccd cl outer) (call (.ref 145) [.ref I, dv]) Q E s := by
  obtain ⟨⟨vs, n, t1, t2, t3, t4, t5, tm, ta, tla, rfl, hR⟩, n1, n2, n3, lk⟩ := hF
  obtain ⟨da, t, u, rfl, hd, ⟨bt, rfl⟩, hb⟩ := hd
  have hvl := hR.1
  replace n1 : @Ne Nat I dx := n1
  replace n2 : @Ne Nat ca dx := n2
  replace n3 : @Ne Nat ca I := n3
  obtain ⟨rows, at_, valid, last⟩ := f
  dsimp only at hz lk hR hvl
  dsimp only [List.cons_append, List.nil_append, fileDict, ent] at N
  cases hcr : canRead md with
  | true =>
    k_steps
    refine ask_str (vs := vs) n1 n2 n3 (by assumption) (by assumption) ?_ ?_ ?_ ?_ ?_ ?_ ret <;> simp [fstep, fwrite, hcr, hR, lastI] <;> done
  | false =>
    k_steps
    refine ask_strA (vs := vs ++ [.bytes b bt]) (its := vs.toArray.push (.bytes b bt)) (by simp) n1 n2 n3 (by assumption) (by assumption) ?_ ?_ ?_ ?_ ?_ ?_ ret <;> simp [fstep, fwrite, hcr, lastI, hR.snoc ⟨⟨bt, rfl⟩, hb⟩] <;> done
theorem asked_rewrite {I dx ca : Addr} {own : List (Addr × Obj)} {md : Md} {f : FSt} {dv : Value} {b : Bt}
    (B : Below A₀ base outer h₀) (F : Fr h₀ L s.heap m) (X : (Mine.hd.heap_39 w.params).In h₀) (N : News h₀ L s.heap (own ++ tl)) (T : Top p loose mean mg mb h₀) (hk : cs.kind = .function)
    (hF : FileIs w I dx ca md f own) (hoff : OwnOff tl [I, dx, ca]) (hd : DeedV h₀ tl dv (.rewrite b)) (hz : f.rows.length < 1000) (hdp : dp + 3 < recursionLimit)
    (ret : ∀ v new own' h' tks, FileIs w I dx ca md (fstep md f (.rewrite b)).2 own' → AnsV h₀ new v (fstep md f (.rewrite b)).1 → OwnOff new (I :: dx :: ca :: tl.map (·.1)) → Fr h₀ L h' m → News h₀ L h' (own' ++ (new ++ tl)) → Q v { s with heap := h', toks := tks }) :
    wpAny (model prog w) (ktrTop dp un gd cn cs L a ccd cl outer) (call (.ref 145) [.ref I, dv]) Q E s := by
  obtain ⟨⟨vs, n, t1, t2, t3, t4, t5, tm, ta, tla, rfl, hR⟩, n1, n2, n3, lk⟩ := hF
  obtain ⟨da, t, u, rfl, hd, ⟨bt, rfl⟩, hb⟩ := hd
  have hvl := hR.1
  replace n1 : @Ne Nat I dx := n1
  replace n2 : @Ne Nat ca dx := n2
  replace n3 : @Ne Nat ca I := n3
  obtain ⟨rows, at_, valid, last⟩ := f
  dsimp only at hz lk hR hvl
  by_cases hio : md = .io
  · subst hio
    dsimp only [mdStr, List.cons_append, List.nil_append, fileDict, ent] at N
    cases last with
    | none =>
      dsimp only [lastI] at N
      k_steps
      refine ask_str (vs := vs) n1 n2 n3 (by assumption) (by assumption) ?_ ?_ ?_ ?_ ?_ ?_ ret <;> simp [fstep, frewrite, hR, lastI] <;> done
    | some i =>
      have hlt : i < rows.length := lk i rfl
      obtain ⟨v, hxget, ⟨bt2, rfl⟩, hb2⟩ := hR.at hlt
      have hgd : rows.getD i #[] = rows[i] := by simp [List.getD, hlt]
      generalize rows[i] = rb at hxget hb2 hgd
      dsimp only [lastI] at N
      by_cases hsz : b.size = rb.size
      · k_steps
        all_goals try (exfalso; omega)
        refine ask_str (vs := vs.set i (.bytes b bt)) n1 n2 n3 (by assumption) (by assumption) ?_ ?_ ?_ ?_ ?_ ?_ ret <;> simp only [fstep, frewrite, hgd, hsz, if_true, lastI] <;> first | exact hR.set ⟨⟨bt, rfl⟩, hb⟩ | simp
      · k_steps
        all_goals try (exfalso; omega)
        refine ask_str (vs := vs) n1 n2 n3 (by assumption) (by assumption) ?_ ?_ ?_ ?_ ?_ ?_ ret <;> simp only [fstep, frewrite, hgd, hsz, if_false, lastI] <;> first | exact hR | simp
  · dsimp only [List.cons_append, List.nil_append, fileDict, ent] at N
    k_steps
    refine ask_str (vs := vs) n1 n2 n3 (by assumption) (by assumption) ?_ ?_ ?_ ?_ ?_ ?_ ret <;> (cases md <;> first | exact absurd rfl hio | (simp [fstep, frewrite, hR, lastI] <;> done))
theorem asked_c {I dx ca : Addr} {own : List (Addr × Obj)} {md : Md} {f : FSt} {dv : Value} {d : Deed}
    (B : Below A₀ base outer h₀) (F : Fr h₀ L s.heap m) (X : (Mine.hd.heap_39 w.params).In h₀) (N : News h₀ L s.heap (own ++ tl)) (T : Top p loose mean mg mb h₀) (hk : cs.kind = .function)
    (hF : FileIs w I dx ca md f own) (hoff : OwnOff tl [I, dx, ca]) (hd : DeedV h₀ tl dv d) (hz : f.rows.length < 1000) (hdp : dp + 3 < recursionLimit)
    (ret : ∀ v new own' h' tks, FileIs w I dx ca md (fstep md f d).2 own' → AnsV h₀ new v (fstep md f d).1 → OwnOff new (I :: dx :: ca :: tl.map (·.1)) → Fr h₀ L h' m → News h₀ L h' (own' ++ (new ++ tl)) → Q v { s with heap := h', toks := tks }) :
    wpAny (model prog w) (ktrTop dp un gd cn cs L a ccd cl outer) (call (.ref 145) [.ref I, dv]) Q E s := by
  cases d with
  | read => exact asked_read B F X N T hk hF hoff hd hz hdp ret
  | write b => exact asked_write B F X N T hk hF hoff hd hz hdp ret
  | rewrite b => exact asked_rewrite B F X N T hk hF hoff hd hz hdp ret
end
end
section
open PySem.Calls PySem.Spec
set_option maxHeartbeats 4000000
open PySem.SeqAt
section
variable {A : Around} {s : Shared}
theorem eqAt_bytes (b : Bt) (t u : Tok) : EqAt A s (.bytes b t) (.bytes b u) true := fun prog w E Q h => by
  unfold eqBool
  refine wpAny_holding ?_
  refine wpAny_ite_split (fun _ => ?_) (fun _ => ?_)
  · exact wpAny_bind (wpAny_rule (wpAny_pure h))
  · have e : (b.toList == b.toList) = true := by simp
    exact wpAny_bind (W.eq_bytes (by rw [e]; exact wpAny_truthy_bool h))
theorem eqAt_str (x : Str) (t u : Tok) : EqAt A s (.str x t) (.str x u) true := by
  have h := EqAt.str_str (A := A) (s := s) x t x u
  rwa [show (x == x) = true from by simp] at h
theorem eqAt_row {v v' : Value} {b : Bt} (h : RowV v b) (h' : RowV v' b) : EqAt A s v v' true := by
  obtain ⟨⟨t, rfl⟩, _⟩ := h
  obtain ⟨⟨u, rfl⟩, _⟩ := h'
  exact eqAt_bytes b t u
theorem all_true (n : Nat) : (List.range n).all (fun _ => true) = true := by simp
theorem rc_tups {a b : Addr} {its its2 : Array Value} (ha : IsTup s.heap a its) (hb : IsTup s.heap b its2) (hsz : its.size = its2.size) (hu : A.units < cLine)
    (he : ∀ j (h1 : j < its.size) (h2 : j < its2.size), EqAt A.in1 s its[j] its2[j] true) : RcAt A s (.ref a) (.ref b) true := by
  have h := RcAt.tuples (e := fun _ => true) ha hb hu he
  rwa [all_true, hsz, show (its2.size == its2.size) = true from by simp, Bool.and_self] at h
theorem rc_lsts {a b : Addr} {its its2 : Array Value} (ha : s.heap.IsList a its) (hb : s.heap.IsList b its2) (hsz : its.size = its2.size) (hu : A.units < cLine)
    (he : ∀ j (h1 : j < its.size) (h2 : j < its2.size), EqAt A.in1 s its[j] its2[j] true) : RcAt A s (.ref a) (.ref b) true := by
  have h := RcAt.lists (e := fun _ => true) ha hb hsz hu he
  rwa [all_true] at h
theorem rcne_lsts {a b : Addr} {its its2 : Array Value} (ha : s.heap.IsList a its) (hb : s.heap.IsList b its2) (hsz : its.size = its2.size) (hu : A.units < cLine)
    (he : ∀ j (h1 : j < its.size) (h2 : j < its2.size), EqAt A.in1 s its[j] its2[j] true) : RcNeAt A s (.ref a) (.ref b) false := by
  have h := RcNeAt.lists (e := fun _ => true) ha hb hsz hu he
  rwa [all_true] at h
theorem eqAt_ref {a b : Addr} (h : RcAt A s (.ref a) (.ref b) true) : EqAt A s (.ref a) (.ref b) true := by
  by_cases e : a = b
  · subst e; exact EqAt.same _
  · exact EqAt.of_refs e h
theorem eqAt_ans {h₀ h₀' : Heap} {L L' : Addr} {m m' : Str → Option Value} {tl tl' : List (Addr × Obj)} {v v' : Value} {d : Ans} (F : Fr h₀ L s.heap m) (N : News h₀ L s.heap tl) (F' : Fr h₀' L' s.heap m') (N' : News h₀' L' s.heap tl')
    (h : AnsV h₀ tl v d) (h' : AnsV h₀' tl' v' d) (hu : A.units < cLine) : EqAt A s v v' true := by
  cases d with
  | s x =>
    obtain ⟨t, rfl⟩ := h
    obtain ⟨u, rfl⟩ := h'
    exact eqAt_str _ _ _
  | p x b =>
    obtain ⟨a, t, u, rfl, q, r⟩ := h
    obtain ⟨a', t', u', rfl, q', r'⟩ := h'
    refine eqAt_ref (rc_tups (q.tup F N) (q'.tup F' N') rfl hu fun j h1 h2 => ?_)
    match j, h1, h2 with
    | 0, _, _ => exact eqAt_str _ _ _
    | 1, _, _ => exact eqAt_row r r'
theorem each_pairs {α : Type} {R R' : Value → α → Prop} {vs ws : List Value} {ds : List α} (h : Each R vs ds) (k : Each R' ws ds) {B : Around} (he : ∀ v w d, R v d → R' w d → EqAt B s v w true) :
    vs.toArray.size = ws.toArray.size ∧ ∀ j (h1 : j < vs.toArray.size) (h2 : j < ws.toArray.size), EqAt B s vs.toArray[j] ws.toArray[j] true := by
  refine ⟨by simp [h.1, k.1], fun j h1 h2 => ?_⟩
  have h3 : j < vs.length := by simpa using h1
  have h4 : j < ws.length := by simpa using h2
  have h5 : j < ds.length := by rw [← h.1]; exact h3
  have r1 := h.2 j _ _ (List.getElem?_eq_getElem h3) (List.getElem?_eq_getElem h5)
  have r2 := k.2 j _ _ (List.getElem?_eq_getElem h4) (List.getElem?_eq_getElem h5)
  simpa using he _ _ _ r1 r2
end
section
variable {prog : Program} {w : World} {A : Around} {E : Value → Shared → Prop} {s : Shared} {Q : Value → Shared → Prop}
theorem eq_rows {a b : Addr} {vs ws : List Value} {rs : List Bt} (ha : s.heap.IsList a vs.toArray) (hb : s.heap.IsList b ws.toArray) (h : Each RowV vs rs) (k : Each RowV ws rs) (hu : A.units < cLine) (hq : Q (.bool true) s) :
    wpAny (model prog w) A (compareOp .Eq (.ref a) (.ref b)) Q E s := by
  obtain ⟨e1, e2⟩ := each_pairs (B := A.in1) (s := s) h k fun v w d => eqAt_row
  exact rc_lsts ha hb e1 hu e2 prog w E Q hq
theorem eq_rowsT {a b : Addr} {vs ws : List Value} {rs : List Bt} (ha : IsTup s.heap a vs.toArray) (hb : IsTup s.heap b ws.toArray) (h : Each RowV vs rs) (k : Each RowV ws rs) (hu : A.units < cLine) (hq : Q (.bool true) s) :
    wpAny (model prog w) A (compareOp .Eq (.ref a) (.ref b)) Q E s := by
  obtain ⟨e1, e2⟩ := each_pairs (B := A.in1) (s := s) h k fun v w d => eqAt_row
  exact rc_tups ha hb e1 hu e2 prog w E Q hq
theorem ne_answers {h₀ h₀' : Heap} {L L' : Addr} {m m' : Str → Option Value} {tl tl' : List (Addr × Obj)} {a b : Addr} {vs ws : List Value} {ds : List Ans} (F : Fr h₀ L s.heap m) (N : News h₀ L s.heap tl) (F' : Fr h₀' L' s.heap m') (N' : News h₀' L' s.heap tl')
    (ha : s.heap.IsList a vs.toArray) (hb : s.heap.IsList b ws.toArray) (h : Each (AnsV h₀ tl) vs ds) (k : Each (AnsV h₀' tl') ws ds) (hu : A.units + 1 < cLine) (hq : Q (.bool false) s) :
    wpAny (model prog w) A (compareOp .NotEq (.ref a) (.ref b)) Q E s := by
  obtain ⟨e1, e2⟩ := each_pairs (B := A.in1) (s := s) h k fun v w d r r' => eqAt_ans F N F' N' r r' (by rw [units_in1]; exact hu)
  exact rcne_lsts ha hb e1 (Nat.lt_of_succ_lt hu) e2 prog w E Q hq
end
end
section
open PySem.Calls PySem.Spec
set_option maxHeartbeats 4000000
section
variable {prog : Program} {w : World} {A : Around} {E : Value → Shared → Prop} {s : Shared} {h₀ : Heap} {L : Addr} {m : Str → Option Value} {env : Env} {news : List (Addr × Obj)}
noncomputable def SrcS (kind : String) (prog : Program) (w : World) (A : Around) (h₀ : Heap) (L : Addr) (m : Str → Option Value) (env : Env) (elt : PySem.Expr) (x : Str) (scope : Scope) (cl : List (Str × Addr)) (Fin : Shared → List Value → List (Addr × Obj) → Prop) (xv : Value) (s₁ : Shared) : Prop :=
  ∃ ax its news, xv = .ref ax ∧ A.handled = none ∧ Fr h₀ L s₁.heap m ∧ News h₀ L s₁.heap news ∧ SqAt kind h₀ news ax its ∧ its.size ≤ sizeLine ∧
    ∀ s₂ : Shared, (∃ h, s₂ = { s₁ with heap := h }) → LCg.CompRest prog w A h₀ L m env elt x scope cl s₂ (fun nw => SqAt kind h₀ nw ax its) (fun i v => its[i]? = some v) (Fin s₂) its.size 0 [] news
theorem sq_look {kind : String} {h : Heap} {a : Addr} {its : Array Value} (x : SqAt kind h₀ news a its) (k : ∀ b o, h₀.get? b = some o → h.get? b = some o) (N : News h₀ L h news) : ∃ o n, h.get? a = some o ∧ o.cls = .type kind ∧ o.data = .seq its n := by
  obtain ⟨o, n, h1, h2, h3⟩ := x
  exact ⟨o, n, h1.elim (k _ _) fun q => (N _ q).1, h2, h3⟩
theorem listS_st {ax I : Addr} {its : Array Value} : ∀ i (h h' : Heap) (o : Obj) (nw : List (Addr × Obj)), (h.IsListIter I ax i ∧ h.IsList ax its) → h.get? I = some o → h'.get? I = some o → (∀ b o, h₀.get? b = some o → h'.get? b = some o) → News h₀ L h' nw → SqAt "list" h₀ nw ax its → (h'.IsListIter I ax i ∧ h'.IsList ax its) :=
  fun i h h' o nw st e e' k N S => ⟨by obtain ⟨o', q, r⟩ := st.1; rw [e] at q; cases q; exact ⟨o, e', r⟩, by obtain ⟨o, n, a, b, c⟩ := sq_look S k N; exact ⟨o, a, b, n, c⟩⟩
theorem tupS_st {ax I : Addr} {its : Array Value} : ∀ i (h h' : Heap) (o : Obj) (nw : List (Addr × Obj)), (h.IsTupleIter I ax i ∧ h.IsTuple ax its) → h.get? I = some o → h'.get? I = some o → (∀ b o, h₀.get? b = some o → h'.get? b = some o) → News h₀ L h' nw → SqAt "tuple" h₀ nw ax its → (h'.IsTupleIter I ax i ∧ h'.IsTuple ax its) :=
  fun i h h' o nw st e e' k N S => ⟨by obtain ⟨o', q, r⟩ := st.1; rw [e] at q; cases q; exact ⟨o, e', r⟩, by obtain ⟨o, n, a, b, c⟩ := sq_look S k N; exact ⟨o, a, b, n, c⟩⟩
theorem ListComp_S {kind : String} (hki : kind = "list" ∨ kind = "tuple") {elt iter : PySem.Expr} {x : Str} {px : Pos} {scope : Scope} {cl : List (Str × Addr)} {pos : Pos} {Q : Value → Shared → Prop} (F₀ : Fr h₀ L s.heap m)
    (hclos : closureFor scope env = pure cl) (hcell : ∀ y ∈ scope.names, y.2 ≠ .cell) (hkind : scope.kind = .function)
    (hnames : ∀ y ∈ scope.names, y.2 = .local → scope.names.lookup y.1 = some .local) (hx : scope.names.lookup x = some .local)
    (h : wpAny (model prog w) A (eval iter env) (SrcS kind prog w A h₀ L m env elt x scope cl (fun s₂ => LCg.FinE h₀ L m s₂ Q)) E s)
    (hs : ∀ x, foldedSetIterable iter env x = pure x := by intro _; rfl) :
    wpAny (model prog w) A (eval (.ListComp elt [⟨.Name x px, iter, [], 0⟩] scope pos) env) Q E s := by
  rw [eval_ListComp]
  refine wpAny_comprehension_free (use := none) rfl hs hclos hkind hnames (wpAny_mono h (fun xv s₁ h₁ => ?_) fun _ _ e => e)
  obtain ⟨ax, its, news, rfl, hh, F, N, S, hsz, R⟩ := h₁
  have hlt : ax < s₁.heap.objs.size := by obtain ⟨_, _, e, _⟩ := S.look F N; exact Heap.lt_size e
  rcases hki with rfl | rfl
  · have hl := S.lst F N
    refine wpAny_pyIter_list hl ?_
    have up : ∀ b o, s₁.heap.get? b = some o → (s₁.heap.push { cls := .type "list_iterator", data := .fields #[.ref ax, .int 0 0] }).get? b = some o := fun b o e => Heap.get?_push_of_some _ e
    refine LCg.block_U (Walks.list hh s₁.heap.objs.size ax (Nat.ne_of_lt hlt) its) hsz (fun i h st => by obtain ⟨o, e, _⟩ := st.1; exact ⟨o, e⟩) listS_st hcell hkind hx ⟨⟨_, Heap.get?_push_size _ rfl, rfl, rfl⟩, hl.push _⟩ (fun b hb => ?_)
      (F.keeps up) (N.grown up) (Nat.ne_of_lt F.ns.lt) (next_is_new F) (fun p hp => Nat.ne_of_lt (Heap.lt_size (N p hp).1)) S (R _ ⟨_, rfl⟩) ?_
    · show b < (s₁.heap.push _).objs.size
      rw [Heap.size_push]
      rcases List.mem_cons.mp hb with rfl | hb
      · exact Nat.lt_succ_self _
      · rw [List.mem_singleton.mp hb]; exact Nat.lt_succ_of_lt hlt
    · intro D C h tk m' ys news' F' N' o1 hn hC₀ hD₀ hCL hDL hCD offC fin
      refine ⟨m', hn, fun h'' hs'' => fin D h'' tk (F'.change hs'' hCL hC₀) (fun p hp => ?_) o1⟩
      refine ⟨hs''.extBut _ _ ?_ (N' p hp).1, (N' p hp).2⟩
      rcases List.mem_cons.mp hp with rfl | hp
      · exact Ne.symm hCD
      · exact offC p hp
  · have hl := S.tup F N
    refine wpAny_pyIter_tuple hl ?_
    have up : ∀ b o, s₁.heap.get? b = some o → (s₁.heap.push { cls := .type "tuple_iterator", data := .fields #[.ref ax, .int 0 0] }).get? b = some o := fun b o e => Heap.get?_push_of_some _ e
    refine LCg.block_U (Walks.tuple hh s₁.heap.objs.size ax (Nat.ne_of_lt hlt) its) hsz (fun i h st => by obtain ⟨o, e, _⟩ := st.1; exact ⟨o, e⟩) tupS_st hcell hkind hx ⟨⟨_, Heap.get?_push_size _ rfl, rfl, rfl⟩, hl.push _⟩ (fun b hb => ?_)
      (F.keeps up) (N.grown up) (Nat.ne_of_lt F.ns.lt) (next_is_new F) (fun p hp => Nat.ne_of_lt (Heap.lt_size (N p hp).1)) S (R _ ⟨_, rfl⟩) ?_
    · show b < (s₁.heap.push _).objs.size
      rw [Heap.size_push]
      rcases List.mem_cons.mp hb with rfl | hb
      · exact Nat.lt_succ_self _
      · rw [List.mem_singleton.mp hb]; exact Nat.lt_succ_of_lt hlt
    · intro D C h tk m' ys news' F' N' o1 hn hC₀ hD₀ hCL hDL hCD offC fin
      refine ⟨m', hn, fun h'' hs'' => fin D h'' tk (F'.change hs'' hCL hC₀) (fun p hp => ?_) o1⟩
      refine ⟨hs''.extBut _ _ ?_ (N' p hp).1, (N' p hp).2⟩
      rcases List.mem_cons.mp hp with rfl | hp
      · exact Ne.symm hCD
      · exact offC p hp
theorem list_sq {kind : String} {Q : Value → Shared → Prop} {l : Addr} {its : Array Value} {tl : List (Addr × Obj)} (hki : kind = "list" ∨ kind = "tuple") (F : Fr h₀ L s.heap m) (N : News h₀ L s.heap news) (S : SqAt kind h₀ tl l its) (sub : ∀ p ∈ tl, p ∈ news) (hsz : its.size ≤ sizeLine)
    (h : ∀ D c h', Fr h₀ L h' m → News h₀ L h' ((D, listOf its c) :: news) → (∀ q ∈ news, q.1 < D) → Q (.ref D) { s with heap := h' }) : wpAny (model prog w) A (call (.type "list") [.ref l]) Q E s := by
  obtain ⟨o, n, ho, hc, hd⟩ := S.look F fun p hp => N p (sub p hp)
  exact call_list_seq (hsz := hsz) l hki ho hc hd fun h' c' hk hD => h _ c' h' (F.keeps hk) (news_pushed F N hk hD rfl) fun q hq => Heap.lt_size (N q hq).1
theorem tuple_sq {kind : String} {Q : Value → Shared → Prop} {l : Addr} {its : Array Value} {tl : List (Addr × Obj)} (hki : kind = "list" ∨ kind = "tuple") (F : Fr h₀ L s.heap m) (N : News h₀ L s.heap news) (S : SqAt kind h₀ tl l its) (sub : ∀ p ∈ tl, p ∈ news) (hsz : its.size ≤ sizeLine)
    (h : ∀ D h', Fr h₀ L h' m → News h₀ L h' news → IsTup h' D its → Q (.ref D) { s with heap := h' }) : wpAny (model prog w) A (call (.type "tuple") [.ref l]) Q E s := by
  have N1 : News h₀ L s.heap tl := fun p hp => N p (sub p hp)
  rcases hki with rfl | rfl
  · refine call_tuple_list (S.lst F N1) (fun h' hk => ?_) hsz
    have F' : Fr h₀ L h' m := F.keeps hk
    have N' : News h₀ L h' news := fun p hp => ⟨hk _ _ (N p hp).1, (N p hp).2⟩
    exact h _ _ (F'.push _) (N'.grown fun _ _ e => Heap.get?_push_of_some _ e) ⟨_, Heap.get?_push_size _ rfl, rfl, _, rfl⟩
  · exact call_tuple_tup (S.tup F N1) (h _ _ F N (S.tup F N1))
end
end
section
open PySem.Calls PySem.Spec
set_option maxHeartbeats 4000000
theorem off_sub {tl nw : List (Addr × Obj)} {as : List Addr} (h : OwnOff nw as) (s : ∀ p ∈ tl, p ∈ nw) : OwnOff tl as := fun q hq => h q (s q hq)
theorem off_app {tl : List (Addr × Obj)} {as bs : List Addr} (h : OwnOff tl as) (k : OwnOff tl bs) : OwnOff tl (as ++ bs) := fun q hq b hb => (List.mem_append.mp hb).elim (h q hq b) (k q hq b)
theorem off_less {tl : List (Addr × Obj)} {as bs : List Addr} (h : OwnOff tl as) (s : ∀ b ∈ bs, b ∈ as) : OwnOff tl bs := fun q hq b hb => h q hq b (s b hb)
theorem fstep_len (md : Md) (f : FSt) (d : Deed) : (fstep md f d).2.rows.length ≤ f.rows.length + 1 := by
  cases d <;> cases md <;> simp only [fstep, fread, fwrite, frewrite, canRead] <;> grind
theorem FileIs.adr {w : World} {I dx ca : Addr} {md : Md} {f : FSt} {own : List (Addr × Obj)} (h : FileIs w I dx ca md f own) : own.map (·.1) = [I, dx, ca] := by
  obtain ⟨vs, n, t1, t2, t3, t4, t5, tm, ta, tl, rfl, _⟩ := h.ex
  rfl
theorem FileIs.mem {w : World} {I dx ca : Addr} {md : Md} {f : FSt} {own : List (Addr × Obj)} (h : FileIs w I dx ca md f own) {p : Addr × Obj} (hp : p ∈ own) : p.1 ∈ [I, dx, ca] := h.adr ▸ List.mem_map_of_mem hp
section
variable {prog : Program} {w : World} {A : Around} {s : Shared} {h₀ : Heap} {L : Addr} {m : Str → Option Value} {env : Env} {elt : PySem.Expr} {x : Str} {scope : Scope} {cl : List (Str × Addr)} {S : List (Addr × Obj) → Prop} {P : Nat → Value → Prop} {Fin : List Value → List (Addr × Obj) → Prop}
  {I dx ca : Addr} {md : Md} {tl : List (Addr × Obj)}
theorem ask_rest (hS : ∀ nw, (∀ p ∈ tl, p ∈ nw) → S nw) (hoff : OwnOff tl [I, dx, ca])
    (turn : ∀ (d : Deed) (v : Value) (f : FSt) (own tl2 : List (Addr × Obj)) (C : Addr) (oC : Obj) (m₂ : Str → Option Value) (h : Heap) (tk : Tok) (Q' E' : Value → Shared → Prop), DeedV h₀ tl2 v d → FileIs w I dx ca md f own → f.rows.length < 1000 → OwnOff tl2 [I, dx, ca] →
      (∀ p ∈ tl, p ∈ tl2) → (C, oC) ∈ tl2 → LCg.NsObj oC m₂ → m₂ x = some v → Fr h₀ L h m → News h₀ L h (own ++ tl2) →
      (∀ y new own' h' tks, FileIs w I dx ca md (fstep md f d).2 own' → AnsV h₀ new y (fstep md f d).1 → OwnOff new (I :: dx :: ca :: tl2.map (·.1)) → Fr h₀ L h' m → News h₀ L h' (own' ++ (new ++ tl2)) → Q' y { s with heap := h', toks := tks }) →
      wpAny (model prog w) A (eval elt (compEnvC scope cl C env)) Q' E' { s with heap := h, toks := tk }) :
    ∀ (ds : List Deed) (f : FSt) (i : Nat) (ys : List Value) (acc : List Ans) (own new : List (Addr × Obj)), (∀ j v d, ds[j]? = some d → P (i + j) v → DeedV h₀ tl v d) → FileIs w I dx ca md f own → Each (AnsV h₀ new) ys acc → OwnOff new [I, dx, ca] →
      f.rows.length + ds.length < 1000 → (∀ ys' own' new', FileIs w I dx ca md (frun md f ds).2 own' → Each (AnsV h₀ new') ys' (acc ++ (frun md f ds).1) → OwnOff new' [I, dx, ca] → Fin ys' (own' ++ (new' ++ tl))) →
      LCg.CompRest prog w A h₀ L m env elt x scope cl s S P Fin ds.length i ys (own ++ (new ++ tl)) := by
  intro ds
  induction ds with
  | nil =>
    intro f i ys acc own new _ hF hE hO _ fin
    exact LCg.CompRest.zero (fin ys own new hF (by simpa [frun] using hE) hO)
  | cons d ds ih =>
    intro f i ys acc own new hP hF hE hO hz fin
    refine LCg.CompRest.succ ?_
    intro v I0 oI C oC D m₂ h tk E' hv hC hx F N off ne
    rw [List.length_cons] at hz
    have offm := off.mem
    have hdv := hP 0 v d rfl (by simpa using hv)
    have sub : ∀ p ∈ tl, p ∈ (I0, oI) :: (C, oC) :: (D, LCg.lst ys) :: (new ++ tl) := fun p hp => .tail _ (.tail _ (.tail _ (List.mem_append_right _ hp)))
    have ownoff : ∀ a ∈ [I, dx, ca], a ≠ I0 ∧ a ≠ C ∧ a ≠ D := by
      intro a ha
      rw [← hF.adr] at ha
      obtain ⟨q, hq, rfl⟩ := List.mem_map.mp ha
      exact offm q (List.mem_append_left _ hq)
    have o2 : OwnOff ((I0, oI) :: (C, oC) :: (D, LCg.lst ys) :: (new ++ tl)) [I, dx, ca] := by
      intro q hq b hb
      have z := ownoff b hb
      rcases List.mem_cons.mp hq with rfl | hq
      · exact Ne.symm z.1
      · rcases List.mem_cons.mp hq with rfl | hq
        · exact Ne.symm z.2.1
        · rcases List.mem_cons.mp hq with rfl | hq
          · exact Ne.symm z.2.2
          · exact (List.mem_append.mp hq).elim (fun k => hO q k b hb) fun k => hoff q k b hb
    refine turn d v f own ((I0, oI) :: (C, oC) :: (D, LCg.lst ys) :: (new ++ tl)) C oC m₂ h tk _ E' (hdv.mono (fun _ _ e => e) sub) hF (by omega) o2 sub (.tail _ (.head _)) hC hx F (fun p hp => N p ?_) ?_
    · rcases List.mem_append.mp hp with hp | hp
      · exact .tail _ (.tail _ (.tail _ (List.mem_append_left _ hp)))
      · rcases List.mem_cons.mp hp with rfl | hp
        · exact .head _
        · rcases List.mem_cons.mp hp with rfl | hp
          · exact .tail _ (.head _)
          · rcases List.mem_cons.mp hp with rfl | hp
            · exact .tail _ (.tail _ (.head _))
            · exact .tail _ (.tail _ (.tail _ (List.mem_append_right _ hp)))
    · intro y nw own' h' tks hF' hA' hO' F' N'
      refine LCg.CompEnd.intro F' N' (own' ++ ((nw ++ new) ++ tl)) ?_ ?_ ?_ ?_
      · intro p hp
        rcases List.mem_cons.mp hp with rfl | hp
        · exact List.mem_append_right _ (List.mem_append_right _ (.head _))
        · rcases List.mem_cons.mp hp with rfl | hp
          · exact List.mem_append_right _ (List.mem_append_right _ (.tail _ (.head _)))
          · rcases List.mem_cons.mp hp with rfl | hp
            · exact List.mem_append_right _ (List.mem_append_right _ (.tail _ (.tail _ (.head _))))
            · rcases List.mem_append.mp hp with hp | hp
              · exact List.mem_append_left _ hp
              · rw [List.append_assoc] at hp
                rcases List.mem_append.mp hp with hp | hp
                · exact List.mem_append_right _ (List.mem_append_left _ hp)
                · exact List.mem_append_right _ (List.mem_append_right _ (.tail _ (.tail _ (.tail _ hp))))
      · refine LCg.Off3.of fun p hp => ?_
        rcases List.mem_append.mp hp with hp | hp
        · exact ownoff _ (hF'.mem hp)
        · rw [List.append_assoc] at hp
          rcases List.mem_append.mp hp with hp | hp
          · exact ⟨hO' p hp I0 (.tail _ (.tail _ (.tail _ (.head _)))), hO' p hp C (.tail _ (.tail _ (.tail _ (.tail _ (.head _))))), hO' p hp D (.tail _ (.tail _ (.tail _ (.tail _ (.tail _ (.head _))))))⟩
          · exact offm p (List.mem_append_right _ hp)
      · exact hS _ fun p hp => List.mem_append_right _ (List.mem_append_right _ hp)
      · have hl := fstep_len md f d
        refine ih (fstep md f d).2 (i + 1) (ys ++ [y]) (acc ++ [(fstep md f d).1]) own' (nw ++ new) (fun j v d' hj hv' => hP (j + 1) v d' (by simpa using hj) (by rw [show i + (j + 1) = i + 1 + j by omega]; exact hv')) hF' ?_ ?_ (by omega) ?_
        · exact (hE.mono fun _ _ r => r.mono (fun _ _ e => e) fun _ hp => List.mem_append_right _ hp).snoc (hA'.mono (fun _ _ e => e) fun _ hp => List.mem_append_left _ hp)
        · intro q hq b hb
          rcases List.mem_append.mp hq with hq | hq
          · exact hO' q hq b (by
              rcases List.mem_cons.mp hb with rfl | hb
              · exact .head _
              · rcases List.mem_cons.mp hb with rfl | hb
                · exact .tail _ (.head _)
                · rw [List.mem_singleton.mp hb]; exact .tail _ (.tail _ (.head _)))
          · exact hO q hq b hb
        · intro ys' own2 new2 hF2 hE2 hO2
          exact fin ys' own2 new2 hF2 (by simpa [frun, List.append_assoc] using hE2) hO2
end
end
section
open PySem.Calls PySem.Spec
set_option maxHeartbeats 4000000
section
noncomputable def Stop (P : Prop) : Prop := P
theorem Stop.mk {P : Prop} (h : Stop P) : P := h
theorem off_lt {D : Addr} {news : List (Addr × Obj)} (l : ∀ q ∈ news, q.1 < D) : OwnOff news [D] := fun q hq b hb => by rw [List.mem_singleton.mp hb]; exact Nat.ne_of_lt (l q hq)
theorem off_lt1 {D : Addr} {news : List (Addr × Obj)} (l : ∀ q ∈ news, q.1 < D) : OwnOff news [D + 1] := fun q hq b hb => by rw [List.mem_singleton.mp hb]; exact Nat.ne_of_lt (Nat.lt_succ_of_lt (l q hq))
theorem ex_cell {g h : Heap} {L c : Addr} {o : Obj} {v : Value} {p1 p2 p3 : Addr × Obj} {tl : List (Addr × Obj)} (d : o.data = .cell (some v)) (N : News g L h (p1 :: p2 :: p3 :: (c, o) :: tl)) : ∃ oc : Obj, oc.data = .cell (some v) ∧ News g L h (p1 :: p2 :: p3 :: (c, oc) :: tl) := ⟨o, d, N⟩
theorem ne_answers2 {prog : Program} {w : World} {A : Around} {E : Value → Shared → Prop} {s : Shared} {Q : Value → Shared → Prop} {h₀ : Heap} {L : Addr} {m : Str → Option Value} {news tl tl' : List (Addr × Obj)} {a b : Addr} {vs ws : List Value} {ds : List Ans} (F : Fr h₀ L s.heap m) (N : News h₀ L s.heap news) (s1 : ∀ p ∈ tl, p ∈ news) (s2 : ∀ p ∈ tl', p ∈ news)
    (ha : s.heap.IsList a vs.toArray) (hb : s.heap.IsList b ws.toArray) (h : Each (AnsV h₀ tl) vs ds) (k : Each (AnsV h₀ tl') ws ds) (hu : A.units + 1 < cLine) (hq : Q (.bool false) s) :
    wpAny (model prog w) A (compareOp .NotEq (.ref a) (.ref b)) Q E s := ne_answers F (fun p hp => N p (s1 p hp)) F (fun p hp => N p (s2 p hp)) ha hb h k hu hq
theorem frun_len (md : Md) : ∀ (ds : List Deed) (f : FSt), (frun md f ds).1.length = ds.length
  | [], _ => rfl
  | d :: ds, f => by rw [frun]; simp [frun_len md ds]
theorem frun_rows (md : Md) : ∀ (ds : List Deed) (f : FSt), (frun md f ds).2.rows.length ≤ f.rows.length + ds.length
  | [], _ => Nat.le_refl _
  | d :: ds, f => by
    rw [frun]
    have h1 := frun_rows md ds (fstep md f d).2
    have h2 := fstep_len md f d
    simp only [List.length_cons]
    omega
theorem sq_up {kind : String} {h₀ g : Heap} {L : Addr} {m : Str → Option Value} {tl : List (Addr × Obj)} {a : Addr} {its : Array Value} (FG : Fr h₀ L g m) (x : SqAt kind h₀ tl a its) : SqAt kind g tl a its := x.mono FG.keep fun _ h => h
local macro_rules | `(tactic| walk_at "no such key") => `(tactic| skip)
set_option hygiene false in
local macro_rules | `(tactic| walk_at "call type:list") => `(tactic| (k_here; k_dflt (refine list_sq hki (by assumption) (by assumption) (by first | assumption | exact sq_up (by assumption) (by assumption)) (fun _ _ => by k_mem) (by simp only [List.size_toArray]; omega) ?_); intro D' c' h' F' N' l1; have hoD := off_lt l1; (try k_lt l1)))
set_option hygiene false in
local macro_rules | `(tactic| walk_at "call ref") => `(tactic| walk_at "u:ref 145")
set_option hygiene false in
local macro_rules | `(tactic| walk_at "call type:tuple") => `(tactic| (k_here; k_dflt (first
  | (refine tuple_sq hki (by assumption) (by assumption) (by assumption) (fun _ _ => by k_mem) (by simp only [List.size_toArray]; omega) ?_; intro D3 h3 F3 N3 it3)
  | (refine kde_tupleOf (by assumption) (by assumption) (News.isList (by assumption) (by k_mem)) (by simp only [List.size_toArray]; omega) rfl ?_; intro D3 h3 F3 N3 l3; (try k_lt l3)))))
set_option hygiene false in
local macro_rules | `(tactic| walk_at "compareOp NotEq ref ref") => `(tactic| (k_here; (walk_at "u:cmp NotEq"); k_dflt (refine ne_answers2 (by assumption) (by assumption) (fun _ _ => by k_mem) (fun _ _ => by k_mem) (News.isList (by assumption) (by k_mem)) (News.isList (by assumption) (by k_mem)) hE euX (by ktr_units) ?_)))
set_option hygiene false in
local macro_rules | `(tactic| walk_at "compareOp Eq ref ref") => `(tactic| (k_here; (walk_at "u:cmp Eq"); k_dflt (first
  | refine eq_rowsT (News.isTup (by assumption) (by k_mem)) (by assumption) hR ee (by ktr_units) ?_
  | refine eq_rows (News.isList (by assumption) (by k_mem)) (News.isList (by assumption) (by k_mem)) hR ee (by ktr_units) ?_)))
local macro_rules | `(tactic| walk_at "eval ListComp") => `(tactic| (k_here; refine Stop.mk ?_))
set_option hygiene false in
local macro_rules | `(tactic| walk_at "call ref") => `(tactic| walk_at "u:ref 61")
variable {prog : Program} {w : World} {p : Program} {loose : List Str} {mean : ExcName → Option Value} {mg mb : Str → Option Value} {dp un : Nat} {gd : Option (List Code)} {cn : Str} {cs : Scope} {L a : Addr} {ccd : Value} {cl : List (Str × Addr)} {outer : List Env}
    {A₀ : Around} {base h₀ : Heap} {m : Str → Option Value} {tl : List (Addr × Obj)} {s : Shared} {Q E : Value → Shared → Prop}
theorem sess_c {kind : String} {md : Md} {tm : Tok} {ab ad au ae : Addr} {vb vd vu ve : List Value} {rows : List Bt} {ds : List Deed} (hki : kind = "list" ∨ kind = "tuple")
    (B : Below A₀ base outer h₀) (F : Fr h₀ L s.heap m) (X : (Mine.hd.heap_39 w.params).In h₀) (N : News h₀ L s.heap tl) (T : Top p loose mean mg mb h₀) (hk : cs.kind = .function)
    (sb : SqAt kind h₀ tl ab vb.toArray) (eb : Each RowV vb rows) (sd : SqAt kind h₀ tl ad vd.toArray) (ed : Each (DeedV h₀ tl) vd ds)
    (su : SqAt kind h₀ tl au vu.toArray) (eu : Each (AnsV h₀ tl) vu (frun md (fopen md rows) ds).1) (se : SqAt kind h₀ tl ae ve.toArray) (ee : Each RowV ve (frun md (fopen md rows) ds).2.rows)
    (hz1 : rows.length < 100) (hz2 : ds.length < 100) (hsl : 1000 ≤ sizeLine) (hdp : dp + 10 < recursionLimit) (hu : un + 64 < cLine)
    (ret : ∀ h' tks, Fr h₀ L h' m → News h₀ L h' tl → Q (.bool true) { s with heap := h', toks := tks }) :
    wpAny (model prog w) (ktrTop dp un gd cn cs L a ccd cl outer) (call (.ref 164) [.str (mdStr md) tm, .ref ab, .ref ad, .ref au, .ref ae]) Q E s := by
  have lb := eb.1
  have ld := ed.1
  refine wpAny_call ?_
  (refine' code_defC ?k1 ?k2 ?k3 ?k4 ?k5 ?kA ?kF ?kK ?k6 ?k7 ?k8 ?k9 ?kB ?kD ?_ ?c2 ?c3 ?c4; (case kA => exact rfl); (case kF => exact rfl); (case kK => assumption); (case k1 => k_asm); (case k2 => k_asm); (case k3 => k_asm); (case k4 => k_asm); (case k5 => k_asm); (case k6 => k_is); (case k7 => k_is); (case k8 => ktr_room); (case k9 => exact BindsTo.of_eq rfl); (case kB => exact rfl); (case kD => decide +kernel); (case c2 => exact rfl); (case c3 => exact rfl); (case c4 => exact rfl); k_whole)
  intro g' L' h' tk' cells' FG' F' N' Y' B' X' T' l1
  have hoL := off_lt1 l1
  (try k_lt l1)
  k_cells Y'
  (try simp only [List.cons_append, List.nil_append] at N')
  (try dsimp only)
  (try k_lift B')
  (try k_fold)
  k_steps
  unfold Stop
  k_dflt (refine file_c (by assumption) (by assumption) (by assumption) (by assumption) (by assumption) rfl (by assumption) eb (by omega) (by ktr_room) ?_)
  intro I dx own h1 tk1 hF hoF F1 N1
  have hF0 := hF
  obtain ⟨⟨vs, n, t1, t2, t3, t4, t5, tm1, ta, tla, rfl, hR⟩, n1, n2, n3, lk⟩ := hF
  simp only [List.cons_append, List.nil_append, fileDict, ent] at N1
  replace n1 : @Ne Nat I dx := n1
  replace n2 : @Ne Nat _ dx := n2
  replace n3 : @Ne Nat _ I := n3
  have e1 : @Ne Nat (L' + 1) I := hoF _ (.head _) I (.head _)
  have e2 : @Ne Nat (L' + 1) dx := hoF _ (.head _) dx (.tail _ (.head _))
  have o1 : OwnOff tl [I, dx, D', L' + 1] := off_app (off_sub hoF fun _ h => .tail _ h) (off_app (off_sub hoD fun _ h => .tail _ h) hoL)
  clear hoF hoD hoL
  change wpAny _ _ _ _ _ _
  k_steps
  unfold Stop
  rename News g' L' _ _ => N2
  rename Fr g' L' _ _ => F2
  k_dflt (refine ListComp_S hki F2 (by with_unfolding_all rfl) (by decide) (by rfl) (by decide) (by rfl) ?_)
  walk1
  obtain ⟨oc, hoc, N3⟩ := ex_cell (by assumption) N2
  have sb' := sq_up FG' sb
  have sd' := sq_up FG' sd
  have su' := sq_up FG' su
  have se' := sq_up FG' se
  have ed' : Each (DeedV g' tl) vd ds := ed.mono fun _ _ r => r.mono FG'.keep fun _ h => h
  have eu' : Each (AnsV g' tl) vu _ := eu.mono fun _ _ r => r.mono FG'.keep fun _ h => h
  have subT : ∀ p ∈ tl, p ∈ (L' + 1, oc) :: tl := fun p hp => .tail _ hp
  have hsz : vd.toArray.size = ds.length := by rw [List.size_toArray]; exact ld
  have hoffT : OwnOff ((L' + 1, oc) :: tl) [I, dx, D'] := by
    intro q hq b hb
    rcases List.mem_cons.mp hq with rfl | hq
    · rcases List.mem_cons.mp hb with rfl | hb
      · exact e1
      · rcases List.mem_cons.mp hb with rfl | hb
        · exact e2
        · rw [List.mem_singleton.mp hb]; exact Nat.ne_of_lt l1.1
    · exact o1 q hq b (by
        rcases List.mem_cons.mp hb with rfl | hb
        · exact .head _
        · rcases List.mem_cons.mp hb with rfl | hb
          · exact .tail _ (.head _)
          · rw [List.mem_singleton.mp hb]; exact .tail _ (.tail _ (.head _)))
  refine ⟨ad, vd.toArray, [(_, _), (_, _), (_, _)] ++ ([] ++ (L' + 1, oc) :: tl), rfl, rfl, F2, N3, sd'.mono (fun _ _ e => e) (fun p hp => .tail _ (.tail _ (.tail _ (.tail _ hp)))), by rw [hsz]; omega, ?_⟩
  rintro s₂ ⟨h2, rfl⟩
  rw [hsz]
  refine ask_rest (I := I) (dx := dx) (md := md) (tl := (L' + 1, oc) :: tl) (fun nw hs => sd'.mono (fun _ _ e => e) fun p hp => hs p (.tail _ hp)) hoffT ?turn ds (fopen md rows) 0 [] [] _ [] ?hP hF0 .nil (fun _ h => nomatch h) ?hz ?fin
  case hz =>
    have : (fopen md rows).rows.length ≤ rows.length := by cases md <;> simp [fopen]
    omega
  case hP =>
    intro j v d hj hv
    have hv' : vd[j]? = some v := by simpa using hv
    exact (ed'.2 j v d hv' hj).mono (fun _ _ e => e) subT
  case turn =>
    intro d v f own tl2 C oC m₂ h tk Q' E' hdv hF hzf ho2 sub hCm hC hx Fa Na ret2
    have hCm2 : (C, oC) ∈ own ++ tl2 := List.mem_append_right _ hCm
    have hcm2 : (L' + 1, oc) ∈ own ++ tl2 := List.mem_append_right _ (sub _ (.head _))
    k_steps
    unfold Stop
    k_dflt (refine asked_c (by assumption) Fa (by assumption) Na (by assumption) rfl hF ho2 hdv hzf (by ktr_room) ?_)
    exact fun y new own' h' tks a b c d e => ret2 y new own' h' tks a b c d e
  case fin =>
    intro ys own new hF hE hO D h tk Fa Na off1
    obtain ⟨⟨vs, n, t1, t2, t3, t4, t5, tm1, ta, tla, rfl, hR⟩, n1, n2, n3, lk⟩ := hF
    simp only [List.cons_append, List.nil_append, fileDict, ent] at Na off1
    obtain ⟨tx, htx⟩ : ∃ tx, tx = new ++ (L' + 1, oc) :: tl := ⟨_, rfl⟩
    rw [← htx] at Na off1
    have subN : ∀ p ∈ new, p ∈ tx := fun p hp => htx ▸ List.mem_append_left _ hp
    have subX : ∀ p ∈ tl, p ∈ tx := fun p hp => htx ▸ List.mem_append_right _ (.tail _ hp)
    have hcx : (L' + 1, oc) ∈ tx := htx ▸ List.mem_append_right _ (.head _)
    have suX := su'.mono (fun _ _ e => e) subX
    have seX := se'.mono (fun _ _ e => e) subX
    have euX : Each (AnsV g' tx) vu _ := eu'.mono fun _ _ r => r.mono (fun _ _ e => e) subX
    replace hE : Each (AnsV g' tx) ys _ := hE.mono fun _ _ r => r.mono (fun _ _ e => e) subN
    have lu := eu.1
    have le := ee.1
    have lR := hR.1
    rw [frun_len] at lu
    have lf := frun_rows md ds (fopen md rows)
    have lo : (fopen md rows).rows.length ≤ rows.length := by cases md <;> simp [fopen]
    clear sb' sd' su' se' eu' sb sd su se eu ed ed' hO subT
    change wpAny _ _ _ _ _ _
    k_steps
    rename News h₀ L _ _ => Nz
    rename Fr h₀ L _ _ => Fz
    refine ret _ _ Fz fun p hp => Nz p ?_
    have hpx := subX p hp
    k_mem
end
end
section
open PySem.Calls PySem.Spec
set_option maxHeartbeats 4000000
section
variable {prog : Program} {w : World} {A : Around} {E : Value → Shared → Prop} {s : Shared} {env : Env} {h₀ : Heap} {x : Str} {body : List Stmt} {Q : Flow → Shared → Prop}
theorem range_J {r : Addr} {b₀ : Int} {t₀ u₀ v₀ : Tok} {n : Nat} {m₀ : Str → Option Value} {news : List (Addr × Obj)} (J : Nat → (Str → Option Value) → List (Addr × Obj) → Prop)
    (hh : A.handled = none) (hr : IsRange s.heap r 0 b₀ 1 t₀ u₀ v₀) (hsmall : Builtin.Range.small 0 b₀ 1 = true) (hsz : Builtin.Range.rangeSize 0 b₀ 1 = (n : Int)) (F : Fr h₀ env.locals s.heap m₀) (N : News h₀ env.locals s.heap news) (hj : J 0 m₀ news)
    (turn : ∀ (i : Nat) t m₁ nx h tk own, i < n → OwnOff own (nx.map (·.1)) → J i m₁ nx → Fr h₀ env.locals h (fun y => if y = x then some (.int (i : Int) t) else m₁ y) → News h₀ env.locals h (nx ++ own) →
      wpAny (model prog w) A (execs body env) (InvPostG h₀ env.locals (J (i + 1)) own { s with heap := h, toks := tk } Q) E { s with heap := h, toks := tk })
    (done : ∀ m₁ nx h tk, J n m₁ nx → Fr h₀ env.locals h m₁ → News h₀ env.locals h nx → Q .next { s with heap := h, toks := tk }) :
    wpAny (model prog w) A (pyIter (.ref r)) (fun it s₂ => LoopAtV prog w A h₀ env x body Q E it s₂) E s := by
  refine wpAny_pyIter_range hr hsmall ?_
  have W : Walks prog w A s.heap.objs.size [s.heap.objs.size] [s.heap.objs.size] n (fun i v => i < n ∧ ∃ t, v = .int (0 + i * 1) t)
      (fun i h => IsRangeIter h s.heap.objs.size (0 + (i : Nat) * 1) ((n : Int) - (i : Nat)) 1) := (Walks.range hh _ 0 1 n).bound
  refine kdr_loop J W (fun _ h => h) (fun _ h => h) ?_ ?_ ?_ ?_ (by show IsRangeIter _ _ _ _ _; rw [hsz]; simpa using Heap.get?_push_size _ rfl) (F.push _) (fun p hp => ⟨Heap.get?_push_of_some _ (N p hp).1, (N p hp).2⟩) hj ?_ done
  · intro i h hi b hb
    rw [List.mem_singleton.mp hb]
    exact ⟨_, hi⟩
  · intro hm
    exact absurd F.ns.lt ((List.mem_singleton.mp hm) ▸ Nat.lt_irrefl _)
  · intro b hb
    rw [List.mem_singleton.mp hb]
    exact next_is_new F
  · intro p hp hI
    exact absurd (Heap.lt_size (N p hp).1) ((List.mem_singleton.mp hI) ▸ Nat.lt_irrefl _)
  · rintro i v m₁ nx h tk own hi ⟨_, t, rfl⟩ hoff hJ F₁ N₁
    have e1 : (0 : Int) + (i : Int) * 1 = (i : Int) := by omega
    rw [e1] at F₁
    exact turn i t m₁ nx h tk own hi hoff hJ F₁ N₁
end
theorem fr_know {h₀ h : Heap} {L : Addr} {m : Str → Option Value} {x : Str} {v : Value} (F : Fr h₀ L h m) (e : m x = some v) : Fr h₀ L h (fun y => if y = x then some v else m y) := by
  have q : (fun y => if y = x then some v else m y) = m := funext fun y => by
    by_cases hy : y = x
    · rw [if_pos hy, hy, e]
    · rw [if_neg hy]
  rw [q]; exact F
noncomputable def readStep (md : Md) : Deed → Nat
  | .read => if canRead md then 1 else 0
  | _ => 0
structure DInv (md : Md) (f : FSt) (r i : Nat) (ds : List Deed) (acc : List Ans) : Prop where
  len : acc.length = i
  cr : canRead md = true → f.at_ = min r f.rows.length ∧ f.valid = decide (r ≤ f.rows.length)
  nr : canRead md = false → r = 0 ∧ f.at_ = 0 ∧ f.valid = true
  ls : ∀ j, f.last = some j → r = j + 1 ∧ r ≤ f.rows.length ∧ ∃ k b, i = k + 1 ∧ ds[k]? = some .read ∧ acc[k]? = some (.p "00" b)
  ln : f.last = none → ∀ k, i = k + 1 → ds[k]? = some .read → ∃ x b, acc[k]? = some (.p x b) ∧ (x = "47" ∨ x = "46" ∨ x = "10")
theorem DInv.start (md : Md) (rows : List Bt) (ds : List Deed) : DInv md (fopen md rows) 0 0 ds [] where
  len := rfl
  cr := fun _ => by cases md <;> simp [fopen]
  nr := fun _ => by cases md <;> simp [fopen]
  ls := fun j h => by cases md <;> simp [fopen] at h
  ln := fun _ k h => by omega
theorem frewrite_keep (md : Md) (f : FSt) (b : Bt) : (frewrite md f b).2.at_ = f.at_ ∧ (frewrite md f b).2.valid = f.valid ∧ (frewrite md f b).2.rows.length = f.rows.length ∧ (frewrite md f b).2.last = none := by
  obtain ⟨rows, at_, valid, last⟩ := f
  cases md <;> simp only [frewrite, and_self]
  cases last with
  | none => exact ⟨rfl, rfl, rfl, rfl⟩
  | some i =>
    dsimp only
    split
    · exact ⟨rfl, rfl, List.length_set, rfl⟩
    · exact ⟨rfl, rfl, rfl, rfl⟩
theorem fwrite_keep (md : Md) (f : FSt) (b : Bt) : (fwrite md f b).2.at_ = f.at_ ∧ (fwrite md f b).2.valid = f.valid ∧ (fwrite md f b).2.last = none ∧ (canRead md = true → (fwrite md f b).2.rows = f.rows) := by
  unfold fwrite
  split
  · exact ⟨rfl, rfl, rfl, fun _ => rfl⟩
  · rename_i h
    exact ⟨rfl, rfl, rfl, fun e => absurd e h⟩
theorem fread_cases {md : Md} {f : FSt} (h : canRead md = true) : (f.valid = false ∧ fread md f = (.p "46" #[], { f with last := none })) ∨ (f.valid = true ∧ f.rows.length ≤ f.at_ ∧ fread md f = (.p "10" #[], { f with valid := false, last := none }))
    ∨ (f.valid = true ∧ f.at_ < f.rows.length ∧ fread md f = (.p "00" (f.rows.getD f.at_ #[]), { f with at_ := f.at_ + 1, last := some f.at_ })) := by
  unfold fread
  rw [if_neg (by rw [h]; decide)]
  by_cases hv : f.valid = false
  · exact .inl ⟨hv, by rw [if_pos hv]⟩
  · rw [if_neg hv]
    have hv' : f.valid = true := by simpa using hv
    by_cases hl : f.rows.length ≤ f.at_
    · exact .inr (.inl ⟨hv', hl, by rw [if_pos hl]⟩)
    · exact .inr (.inr ⟨hv', Nat.lt_of_not_le hl, by rw [if_neg hl]⟩)
theorem fread_no {md : Md} {f : FSt} (h : canRead md = false) : fread md f = (.p "47" #[], { f with last := none }) := by
  unfold fread; rw [if_pos h]
theorem DInv.step {md : Md} {f : FSt} {r i : Nat} {ds : List Deed} {acc : List Ans} {d : Deed} (D : DInv md f r i ds acc) (hd : ds[i]? = some d) :
    DInv md (fstep md f d).2 (r + readStep md d) (i + 1) ds (acc ++ [(fstep md f d).1]) := by
  obtain ⟨len, cr, nr, ls, ln⟩ := D
  have hg : (acc ++ [(fstep md f d).1])[i]? = some (fstep md f d).1 := by rw [← len, List.getElem?_append_right (Nat.le_refl _), Nat.sub_self]; rfl
  have hl : (acc ++ [(fstep md f d).1]).length = i + 1 := by rw [List.length_append, len]; rfl
  clear ls ln
  cases d with
  | read =>
    cases hc : canRead md with
    | false =>
      obtain ⟨h1, h2, h3⟩ := nr hc
      have hs : readStep md .read = 0 := by simp [readStep, hc]
      have e := fread_no (f := f) hc
      rw [hs]
      refine ⟨hl, fun k => absurd (hc.symm.trans k) (by decide), fun _ => ?_, fun j hj => ?_, fun _ k hk _ => ?_⟩
      · rw [show (fstep md f .read) = _ from e]; exact ⟨h1, h2, h3⟩
      · rw [show (fstep md f .read) = _ from e] at hj; exact nomatch hj
      · cases hk
        rw [show (fstep md f .read) = _ from e] at hg ⊢
        exact ⟨_, _, hg, .inl rfl⟩
    | true =>
      obtain ⟨h1, h2⟩ := cr hc
      have hs : readStep md .read = 1 := by simp [readStep, hc]
      rw [hs]
      rcases fread_cases (f := f) hc with ⟨v, e⟩ | ⟨v, hlen, e⟩ | ⟨v, hlen, e⟩
      · rw [v] at h2
        have hr : ¬ r ≤ f.rows.length := of_decide_eq_false h2.symm
        refine ⟨hl, fun _ => ?_, fun k => absurd (hc.symm.trans k) (by decide), fun j hj => ?_, fun _ k hk _ => ?_⟩
        · rw [show (fstep md f .read) = _ from e]
          exact ⟨by rw [h1]; show min r f.rows.length = min (r + 1) f.rows.length; omega, by rw [v]; exact (decide_eq_false (fun k => hr (Nat.le_of_succ_le k))).symm⟩
        · rw [show (fstep md f .read) = _ from e] at hj; exact nomatch hj
        · cases hk
          rw [show (fstep md f .read) = _ from e] at hg ⊢
          exact ⟨_, _, hg, .inr (.inl rfl)⟩
      · rw [v] at h2
        have hr : r ≤ f.rows.length := of_decide_eq_true h2.symm
        refine ⟨hl, fun _ => ?_, fun k => absurd (hc.symm.trans k) (by decide), fun j hj => ?_, fun _ k hk _ => ?_⟩
        · rw [show (fstep md f .read) = _ from e]
          exact ⟨by show f.at_ = min (r + 1) f.rows.length; omega, (decide_eq_false (show ¬ r + 1 ≤ f.rows.length by omega)).symm⟩
        · rw [show (fstep md f .read) = _ from e] at hj; exact nomatch hj
        · cases hk
          rw [show (fstep md f .read) = _ from e] at hg ⊢
          exact ⟨_, _, hg, .inr (.inr rfl)⟩
      · rw [v] at h2
        have hr : r ≤ f.rows.length := of_decide_eq_true h2.symm
        have ha : f.at_ = r := by omega
        rw [ha] at hlen
        refine ⟨hl, fun _ => ?_, fun k => absurd (hc.symm.trans k) (by decide), fun j hj => ?_, fun k => ?_⟩
        · rw [show (fstep md f .read) = _ from e]
          exact ⟨by show f.at_ + 1 = min (r + 1) f.rows.length; rw [ha]; exact (Nat.min_eq_left hlen).symm, by rw [v]; exact (decide_eq_true (show r + 1 ≤ f.rows.length from hlen)).symm⟩
        · rw [show (fstep md f .read) = _ from e] at hj hg ⊢
          cases hj
          exact ⟨by rw [ha], hlen, i, _, rfl, hd, hg⟩
        · rw [show (fstep md f .read) = _ from e] at k; exact nomatch k
  | write b =>
    obtain ⟨e1, e2, e3, e4⟩ := fwrite_keep md f b
    refine ⟨hl, fun h => ?_, fun h => ?_, fun j hj => ?_, fun _ k hk hrd => ?_⟩
    · obtain ⟨h1, h2⟩ := cr h
      have e5 := e4 h
      exact ⟨by show (fwrite md f b).2.at_ = min r (fwrite md f b).2.rows.length; rw [e1, e5]; exact h1, by show (fwrite md f b).2.valid = decide (r ≤ (fwrite md f b).2.rows.length); rw [e2, e5]; exact h2⟩
    · obtain ⟨h1, h2, h3⟩ := nr h
      exact ⟨h1, e1.trans h2, e2.trans h3⟩
    · exact nomatch e3.symm.trans hj
    · cases hk; rw [hd] at hrd; exact nomatch hrd
  | rewrite b =>
    obtain ⟨e1, e2, e3, e4⟩ := frewrite_keep md f b
    refine ⟨hl, fun h => ?_, fun h => ?_, fun j hj => ?_, fun _ k hk hrd => ?_⟩
    · obtain ⟨h1, h2⟩ := cr h
      exact ⟨by show (frewrite md f b).2.at_ = min r (frewrite md f b).2.rows.length; rw [e1, e3]; exact h1, by show (frewrite md f b).2.valid = decide (r ≤ (frewrite md f b).2.rows.length); rw [e2, e3]; exact h2⟩
    · obtain ⟨h1, h2, h3⟩ := nr h
      exact ⟨h1, e1.trans h2, e2.trans h3⟩
    · exact nomatch e4.symm.trans hj
    · cases hk; rw [hd] at hrd; exact nomatch hrd
theorem frun_snoc (md : Md) : ∀ (ds : List Deed) (f : FSt) (d : Deed), frun md f (ds ++ [d]) = ((frun md f ds).1 ++ [(fstep md (frun md f ds).2 d).1], (fstep md (frun md f ds).2 d).2)
  | [], f, d => rfl
  | e :: ds, f, d => by
    show frun md f (e :: (ds ++ [d])) = _
    simp only [frun]
    rw [frun_snoc md ds]
    rfl
theorem take_snoc {ds : List Deed} {i : Nat} {d : Deed} (h : ds[i]? = some d) : ds.take (i + 1) = ds.take i ++ [d] := by
  rw [List.take_add_one, h]; rfl
end
section
open PySem.Calls PySem.Spec
set_option maxHeartbeats 4000000
section
variable {prog : Program} {w : World} {A : Around} {E : Value → Shared → Prop} {s : Shared}
theorem item_at {value slice : PySem.Expr} {l : Addr} {vs : List Value} {k : Int} {j : Nat} {u : Tok} {x : Value} {Q : Value → Shared → Prop} (hl : s.heap.IsList l vs.toArray) (hx : vs[j]? = some x) (hk : k = (j : Int)) (hj : j < 4000) (h : Q x s)
    (hs : subscripted slice false (.ref l) (.int k u) = operate [.ref l, .int k u] (getItem (.ref l) (.int k u)) := by with_unfolding_all rfl) (hg : ∀ r, letTemporaryGo value (.ref l) r = pure () := by intro _; with_unfolding_all rfl) :
    wpAny (model prog w) A (subscriptTail value slice (.ref l) (.int k u)) Q E s := by
  subst hk
  exact item_list hl (by omega) (by omega) (by simpa using hx) h hs hg
end
noncomputable def rwAns (md : Md) (f : FSt) (b : Bt) : String :=
  match md with
  | .io => match f.last with
    | none => "43"
    | some i => if b.size = (f.rows.getD i #[]).size then "00" else "44"
  | _ => "49"
theorem frewrite_ans (md : Md) (f : FSt) (b : Bt) : (frewrite md f b).1 = .s (rwAns md f b) := by
  cases md <;> simp only [frewrite, rwAns]
  cases f.last with
  | none => rfl
  | some i => dsimp only; split <;> rfl
theorem frewrite_rows (md : Md) (f : FSt) (b : Bt) : (frewrite md f b).2.rows = if rwAns md f b = "00" then f.rows.set (f.last.getD 0) b else f.rows := by
  obtain ⟨rows, at_, valid, last⟩ := f
  cases md <;> cases last <;> simp only [frewrite, rwAns] <;> first | rfl | (split <;> simp)
section
set_option hygiene false in
local macro_rules | `(tactic| walk_at "subscriptTail") => `(tactic| (k_here; k_dflt (first
  | ((walk_at "u:sub dA"); first | refine item_at (SqAt.lst sdU (by assumption) (by assumption)) hd1 (by omega) (by omega) ?_ | refine item_at (SqAt.lst sdU (by assumption) (by assumption)) hd2 (by omega) (by omega) ?_)
  | ((walk_at "u:sub fa"); refine item_at (SqAt.lst sfU (by assumption) (by assumption)) hf1 (by omega) (by omega) ?_)
  | ((walk_at "u:sub ra"); refine item_at (SqAt.lst srU (by assumption) (by assumption)) hr1 (by omega) (by omega) ?_)
  | ((walk_at "u:int 0"); refine tup_i0 (SqAt.tup (by assumption) (by assumption) (by assumption)) ?_)
  | ((walk_at "u:int 1"); refine tup_i1 (SqAt.tup (by assumption) (by assumption) (by assumption)) ?_))))
set_option hygiene false in
local macro_rules | `(tactic| walk_at "call builtin:len") => `(tactic| (k_here; k_dflt (first
  | ((with_reducible show wpAny _ _ (call _ [Value.bytes _ _]) _ _ _); refine len_bytes (by omega) ?_))))
set_option hygiene false in
local macro_rules | `(tactic| walk_at "subscriptTail") => `(tactic| walk_at "u:1")
set_option hygiene false in
local macro_rules | `(tactic| walk_at "compareOp NotEq str str") => `(tactic| (k_here; k_dflt (first | refine ne_str_is (r := true) (md_nio (by assumption)) ?_ | refine ne_str_is (r := true) (by assumption) ?_)))
variable {prog : Program} {w : World} {p : Program} {loose : List Str} {mean : ExcName → Option Value} {mg mb : Str → Option Value} {dp un : Nat} {gd : Option (List Code)} {cn : Str} {cs : Scope} {L a : Addr} {ccd : Value} {cl : List (Str × Addr)} {outer : List Env}
    {A₀ : Around} {base h₀ : Heap} {m : Str → Option Value} {nw : List (Addr × Obj)} {s : Shared} {Q E : Value → Shared → Prop}
theorem repl_c {md : Md} {tm ti tr : Tok} {dA ra fa : Addr} {dvs vsR vsF : List Value} {i r : Nat} {ds : List Deed} {acc : List Ans} {f : FSt} {b : Bt}
    (B : Below A₀ base outer h₀) (F : Fr h₀ L s.heap m) (X : (Mine.hd.heap_39 w.params).In h₀) (N : News h₀ L s.heap nw) (T : Top p loose mean mg mb h₀) (hk : cs.kind = .function)
    (sd : SqAt "list" h₀ nw dA dvs.toArray) (ed : Each (DeedV h₀ nw) dvs ds) (sr : SqAt "list" h₀ nw ra vsR.toArray) (er : Each RowV vsR f.rows) (sf : SqAt "list" h₀ nw fa vsF.toArray) (ef : Each (AnsV h₀ nw) vsF acc)
    (D : DInv md f r i ds acc) (hdi : ds[i]? = some (.rewrite b)) (hz1 : ds.length < 1000) (hz2 : f.rows.length < 1000) (hdp : dp + 3 < recursionLimit)
    (ret : ∀ t h' tks, Fr h₀ L h' m → News h₀ L h' nw → Q (.str (Str.ofString (rwAns md f b)) t) { s with heap := h', toks := tks }) :
    wpAny (model prog w) (ktrTop dp un gd cn cs L a ccd cl outer) (call (.ref 152) [.str (mdStr md) tm, .ref dA, .int (i : Int) ti, .ref ra, .int (r : Int) tr, .ref fa]) Q E s := by
  have hil : i < ds.length := (List.getElem?_eq_some_iff.mp hdi).1
  refine wpAny_call ?_
  (refine' code_def ?k1 ?k2 ?k3 ?k4 ?k5 ?kA ?kF ?kK ?k6 ?k7 ?k8 ?k9 ?kB ?_ ?c2 ?c3 ?c4 ?c5; (case kA => exact rfl); (case kF => exact rfl); (case kK => assumption); (case k1 => k_asm); (case k2 => k_asm); (case k3 => k_asm); (case k4 => k_asm); (case k5 => k_asm); (case k6 => k_is); (case k7 => k_is); (case k8 => ktr_room); (case k9 => exact BindsTo.of_eq rfl); (case c5 => decide); (case kB => exact locs rfl); (case c2 => exact rfl); (case c3 => exact rfl); (case c4 => exact rfl); k_whole)
  intro g' L' h' FG' F' N' B' X' T'
  (try dsimp only)
  (try k_lift B')
  (try k_fold)
  have sdU := sq_up FG' sd
  have sfU := sq_up FG' sf
  have srU := sq_up FG' sr
  obtain ⟨dv2, hd2, hD2⟩ := ed.at hil
  have hdi2 : ds[i] = .rewrite b := by rw [List.getElem?_eq_getElem hil] at hdi; exact Option.some.inj hdi
  rw [hdi2] at hD2
  obtain ⟨da2, t2, u2, rfl, hq2, ⟨bt, rfl⟩, hb⟩ := hD2
  have hq2U := sq_up FG' hq2
  by_cases hio : md = .io
  · subst hio
    cases hl : f.last with
    | some j =>
      obtain ⟨hr, hrl, k, b0, rfl, hk1, hk2⟩ := D.ls j hl
      have hkl : k < ds.length := (List.getElem?_eq_some_iff.mp hk1).1
      obtain ⟨dv1, hd1, hD1⟩ := ed.at hkl
      have hdi1 : ds[k] = .read := by rw [List.getElem?_eq_getElem hkl] at hk1; exact Option.some.inj hk1
      rw [hdi1] at hD1
      obtain ⟨da1, t1, rfl, hq1⟩ := hD1
      have hq1U := sq_up FG' hq1
      have hfl : k < acc.length := (List.getElem?_eq_some_iff.mp hk2).1
      obtain ⟨fv1, hf1, hF1⟩ := ef.at hfl
      have hfi1 : acc[k] = .p "00" b0 := by rw [List.getElem?_eq_getElem hfl] at hk2; exact Option.some.inj hk2
      rw [hfi1] at hF1
      obtain ⟨fa1, tf1, uf1, rfl, hqf1, _⟩ := hF1
      have hqf1U := sq_up FG' hqf1
      have hjl : j < f.rows.length := by omega
      obtain ⟨rv1, hr1, ⟨rbt, rfl⟩, hrb⟩ := er.at hjl
      have hgd : f.rows.getD j #[] = f.rows[j] := by simp [List.getD, hjl]
      generalize f.rows[j] = rb at hr1 hrb hgd
      have hans : rwAns .io f b = if b.size = rb.size then "00" else "44" := by simp only [rwAns, hl, hgd]
      dsimp only [mdStr]
      by_cases hsz : b.size = rb.size
      · rw [if_pos hsz] at hans
        rw [hans] at ret
        k_steps
        all_goals first | (exfalso; omega) | exact ret _ _ _ (by assumption) (by assumption)
      · rw [if_neg hsz] at hans
        rw [hans] at ret
        k_steps
        all_goals first | (exfalso; omega) | exact ret _ _ _ (by assumption) (by assumption)
    | none =>
      have hans : rwAns .io f b = "43" := by simp only [rwAns, hl]
      rw [hans] at ret
      dsimp only [mdStr]
      cases i with
      | zero =>
        k_steps
        all_goals first | (exfalso; omega) | exact ret _ _ _ (by assumption) (by assumption)
      | succ k =>
        have hkl : k < ds.length := by omega
        obtain ⟨dv1, hd1, hD1⟩ := ed.at hkl
        have hcs : (∃ aD tD, dv1 = .ref aD ∧ SqAt "tuple" h₀ nw aD #[.str (Str.ofString "read") tD] ∧ ∃ x fv1 aF tF uF, vsF[k]? = some fv1 ∧ (Str.ofString x != Str.ofString "00") = true ∧ fv1 = .ref aF ∧ SqAt "tuple" h₀ nw aF #[.str (Str.ofString x) tF, uF])
            ∨ ∃ y aD tD uD, (Str.ofString y != Str.ofString "read") = true ∧ dv1 = .ref aD ∧ SqAt "tuple" h₀ nw aD #[.str (Str.ofString y) tD, uD] := by
          cases hdk : ds[k] with
          | read =>
            rw [hdk] at hD1
            obtain ⟨da1, t1, rfl, hq1⟩ := hD1
            obtain ⟨x, b0, hk2, hx⟩ := D.ln hl k rfl (by rw [List.getElem?_eq_getElem hkl, hdk])
            have hfl : k < acc.length := (List.getElem?_eq_some_iff.mp hk2).1
            obtain ⟨fv1, hf1, hF1⟩ := ef.at hfl
            have hfi1 : acc[k] = .p x b0 := by rw [List.getElem?_eq_getElem hfl] at hk2; exact Option.some.inj hk2
            rw [hfi1] at hF1
            obtain ⟨fa1, tf1, uf1, rfl, hqf1, _⟩ := hF1
            exact .inl ⟨da1, t1, rfl, hq1, x, _, fa1, tf1, uf1, hf1, by rcases hx with rfl | rfl | rfl <;> decide +kernel, rfl, hqf1⟩
          | write b1 =>
            rw [hdk] at hD1
            obtain ⟨da1, t1, u1, rfl, hq1, _⟩ := hD1
            exact .inr ⟨_, da1, t1, u1, by decide +kernel, rfl, hq1⟩
          | rewrite b1 =>
            rw [hdk] at hD1
            obtain ⟨da1, t1, u1, rfl, hq1, _⟩ := hD1
            exact .inr ⟨_, da1, t1, u1, by decide +kernel, rfl, hq1⟩
        clear hD1
        rcases hcs with ⟨da1, t1, rfl, hq1, x, fv1, fa1, tf1, uf1, hf1, hne, rfl, hqf1⟩ | ⟨y, da1, t1, u1, hne, rfl, hq1⟩
        · have hq1U := sq_up FG' hq1
          have hqf1U := sq_up FG' hqf1
          k_steps
          all_goals first | (exfalso; omega) | exact ret _ _ _ (by assumption) (by assumption)
        · have hq1U := sq_up FG' hq1
          k_steps
          all_goals first | (exfalso; omega) | exact ret _ _ _ (by assumption) (by assumption)
  · have hans : rwAns md f b = "49" := by cases md <;> first | exact absurd rfl hio | rfl
    rw [hans] at ret
    k_steps
    exact ret _ _ _ (by assumption) (by assumption)
end
end
section
open PySem.Calls PySem.Spec
set_option maxHeartbeats 4000000
noncomputable def Kept (p : Prop) : Prop := p
theorem Kept.to {p : Prop} (h : Kept p) : p := h
structure DueJ (g : Heap) (md : Md) (tm : Tok) (f0 : FSt) (ds : List Deed) (dA fa ra : Addr) (tl : List (Addr × Obj)) (i : Nat) (m : Str → Option Value) (nx : List (Addr × Obj)) : Prop where
  ex : ∃ (r : Nat) (tr : Tok) (vsF vsR : List Value) (nF nR : Nat) (tx : List (Addr × Obj)), nx = (fa, listOf vsF.toArray nF) :: (ra, listOf vsR.toArray nR) :: tx ∧ (∀ p ∈ tl, p ∈ tx) ∧ OwnOff tx [fa, ra] ∧
    Each (AnsV g tx) vsF (frun md f0 (ds.take i)).1 ∧ Each RowV vsR (frun md f0 (ds.take i)).2.rows ∧ DInv md (frun md f0 (ds.take i)).2 r i ds (frun md f0 (ds.take i)).1 ∧ m "reads" = some (.int (r : Int) tr)
  m1 : m "mode" = some (.str (mdStr md) tm)
  m2 : m "deeds" = some (.ref dA)
  m3 : m "rows" = some (.ref ra)
  m4 : m "found" = some (.ref fa)
theorem lst_use {h₀ h : Heap} {L : Addr} {m : Str → Option Value} {tl news : List (Addr × Obj)} {a : Addr} {its : Array Value} (x : SqAt "list" h₀ tl a its) (F : Fr h₀ L h m) (N : News h₀ L h news) (s : ∀ p ∈ tl, p ∈ news) : h.IsList a its :=
  x.lst F fun p hp => N p (s p hp)
noncomputable def RowsMade (g : Heap) (L : Addr) (m : Str → Option Value) (tl : List (Addr × Obj)) (md : Md) (rows : List Bt) (s : Shared) (v : Value) (s' : Shared) : Prop :=
  ∃ ra vs n h' tk, v = .ref ra ∧ s' = { s with heap := h', toks := tk } ∧ Fr g L h' m ∧ News g L h' ((ra, listOf vs.toArray n) :: tl) ∧ Each RowV vs (fopen md rows).rows ∧ OwnOff tl [ra]
theorem RowsMade.mk {g : Heap} {L : Addr} {m : Str → Option Value} {tl : List (Addr × Obj)} {md : Md} {rows : List Bt} {s : Shared} {ra : Addr} {vs : List Value} {n : Nat} {h' : Heap} {tk : Nat} (F : Fr g L h' m) (N : News g L h' ((ra, listOf vs.toArray n) :: tl))
    (E : Each RowV vs (fopen md rows).rows) (l : OwnOff tl [ra]) : RowsMade g L m tl md rows s (.ref ra) { s with heap := h', toks := tk } := ⟨ra, vs, n, h', tk, rfl, rfl, F, N, E, l⟩
theorem made_step {M : Model} {A : Around} {t : Sem Value} {Q E : Value → Shared → Prop} {s : Shared} {g : Heap} {L : Addr} {m : Str → Option Value} {tl : List (Addr × Obj)} {md : Md} {rows : List Bt} (_F : Fr g L s.heap m) (made : wpAny M A t (RowsMade g L m tl md rows s) E s)
    (rest : ∀ ra vs n h' tk, Fr g L h' m → News g L h' ((ra, listOf vs.toArray n) :: tl) → Each RowV vs (fopen md rows).rows → OwnOff tl [ra] → Q (.ref ra) { s with heap := h', toks := tk }) : wpAny M A t Q E s :=
  wpAny_mono made (fun _ _ ⟨ra, vs, n, h', tk, e1, e2, F, N, e, o⟩ => by subst e1 e2; exact rest ra vs n h' tk F N e o) fun _ _ e => e
theorem know3 {m : Str → Option Value} {x1 x2 x3 : Str} {v1 v2 v3 : Value} (e1 : m x1 = some v1) (e2 : m x2 = some v2) (e3 : m x3 = some v3) :
    m = fun y => if y = x1 then some v1 else if y = x2 then some v2 else if y = x3 then some v3 else m y := funext fun y => by
  by_cases h1 : y = x1
  · rw [if_pos h1, h1, e1]
  · rw [if_neg h1]
    by_cases h2 : y = x2
    · rw [if_pos h2, h2, e2]
    · rw [if_neg h2]
      by_cases h3 : y = x3
      · rw [if_pos h3, h3, e3]
      · rw [if_neg h3]
theorem know5 {m : Str → Option Value} {x1 x2 x3 x4 x5 : Str} {v1 v2 v3 v4 v5 : Value} (e1 : m x1 = some v1) (e2 : m x2 = some v2) (e3 : m x3 = some v3) (e4 : m x4 = some v4) (e5 : m x5 = some v5) :
    m = fun y => if y = x1 then some v1 else if y = x2 then some v2 else if y = x3 then some v3 else if y = x4 then some v4 else if y = x5 then some v5 else m y := funext fun y => by
  by_cases h1 : y = x1
  · rw [if_pos h1, h1, e1]
  · rw [if_neg h1]
    by_cases h2 : y = x2
    · rw [if_pos h2, h2, e2]
    · rw [if_neg h2]
      exact congrFun (know3 e3 e4 e5) y
theorem due_end {g h₀ h' : Heap} {L : Addr} {md : Md} {tm : Tok} {f0 : FSt} {ds : List Deed} {dA fa ra : Addr} {tl tx own all pre : List (Addr × Obj)} {i r : Nat} {tr' : Tok} {d : Deed} {v : Value} {vsF vsR' : List Value} {itsF itsR : Array Value} {nF' nR' : Nat} {m' : Str → Option Value} {s₁ : Shared} {tk : Nat}
    (sub : ∀ p ∈ tl, p ∈ tx) (off : OwnOff tx [fa, ra]) (hown : OwnOff own (fa :: ra :: tx.map (·.1))) (eF : Each (AnsV h₀ tx) vsF (frun md f0 (ds.take i)).1) (D : DInv md (frun md f0 (ds.take i)).2 r i ds (frun md f0 (ds.take i)).1) (hd : ds[i]? = some d)
    (F : Fr g L h' m') (N : News g L h' all) (hpre : ∀ p ∈ pre, p ∈ all) (hfa : (fa, listOf itsF nF') ∈ all) (hra : (ra, listOf itsR nR') ∈ all) (hty : ∀ p ∈ tx ++ own, p ∈ all) (preOff : OwnOff pre [fa, ra]) (preOwn : OwnOff own (pre.map (·.1)))
    (eqF : itsF = (vsF ++ [v]).toArray) (eqR : itsR = vsR'.toArray) (hA : AnsV h₀ pre v (fstep md (frun md f0 (ds.take i)).2 d).1) (eR' : Each RowV vsR' (fstep md (frun md f0 (ds.take i)).2 d).2.rows)
    (hr : m' "reads" = some (.int ((r + readStep md d : Nat) : Int) tr')) (q1 : m' "mode" = some (.str (mdStr md) tm)) (q2 : m' "deeds" = some (.ref dA)) (q3 : m' "rows" = some (.ref ra)) (q4 : m' "found" = some (.ref fa)) :
    InvEndG g L (DueJ h₀ md tm f0 ds dA fa ra tl (i + 1)) own s₁ { s₁ with heap := h', toks := tk } := by
  subst eqF eqR
  refine InvEndG.intro F N (nx := (fa, listOf (vsF ++ [v]).toArray nF') :: (ra, listOf vsR'.toArray nR') :: (pre ++ tx)) ⟨⟨r + readStep md d, tr', vsF ++ [v], vsR', nF', nR', pre ++ tx, rfl, fun p hp => List.mem_append_right _ (sub p hp), ?_, ?_, ?_, ?_, hr⟩, q1, q2, q3, q4⟩ ?_ ?_ fun p hp => hty p (List.mem_append_right _ hp)
  · intro q hq b hb
    exact (List.mem_append.mp hq).elim (fun k => preOff q k b hb) fun k => off q k b hb
  · rw [take_snoc hd, frun_snoc]
    exact (eF.mono fun _ _ r => r.mono (fun _ _ e => e) fun _ hp => List.mem_append_right _ hp).snoc (hA.mono (fun _ _ e => e) fun _ hp => List.mem_append_left _ hp)
  · rw [take_snoc hd, frun_snoc]; exact eR'
  · rw [take_snoc hd, frun_snoc]; exact D.step hd
  · intro q hq b hb
    rcases List.mem_cons.mp hb with rfl | hb
    · exact hown q hq _ (.head _)
    · rcases List.mem_cons.mp hb with rfl | hb
      · exact hown q hq _ (.tail _ (.head _))
      · rw [List.map_append] at hb
        exact (List.mem_append.mp hb).elim (preOwn q hq b) fun k => hown q hq b (.tail _ (.tail _ k))
  · intro p hp
    rcases List.mem_cons.mp hp with rfl | hp
    · exact hfa
    · rcases List.mem_cons.mp hp with rfl | hp
      · exact hra
      · exact (List.mem_append.mp hp).elim (hpre p) fun k => hty p (List.mem_append_left _ k)
theorem push_eq (vs : List Value) (x : Value) : vs.toArray.push x = (vs ++ [x]).toArray := by simp
section
variable {g h₀ h' : Heap} {L : Addr} {md : Md} {tm : Tok} {f0 : FSt} {ds : List Deed} {dA fa ra DD : Addr} {tl tx ty own all : List (Addr × Obj)} {i r : Nat} {tr' tq : Tok} {d : Deed} {vsF vsR' : List Value} {itsR : Array Value} {nF' nR' nT : Nat} {m' : Str → Option Value} {s₁ : Shared} {tk : Nat} {x : String} {b : Bt} {u : Value}
theorem due_end1 (hty : ty = tx ++ own) (sub : ∀ p ∈ tl, p ∈ tx) (off : OwnOff tx [fa, ra]) (hown : OwnOff own (fa :: ra :: tx.map (·.1))) (eF : Each (AnsV h₀ tx) vsF (frun md f0 (ds.take i)).1) (D : DInv md (frun md f0 (ds.take i)).2 r i ds (frun md f0 (ds.take i)).1) (hd : ds[i]? = some d)
    (F : Fr g L h' m') (N : News g L h' all) (hfa : (fa, listOf (vsF.toArray.push (.ref DD)) nF') ∈ all) (hra : (ra, listOf itsR nR') ∈ all) (hsub : ∀ p ∈ ty, p ∈ all) (hD : (DD, ({ cls := .type "tuple", data := .seq #[.str (Str.ofString x) tq, u] nT } : Obj)) ∈ all) (l : AllLt DD ty) (lf : @LT.lt Nat _ fa DD) (lr : @LT.lt Nat _ ra DD)
    (hu : RowV u b) (eqR : itsR = vsR'.toArray) (e1 : (fstep md (frun md f0 (ds.take i)).2 d).1 = .p x b) (eR' : Each RowV vsR' (fstep md (frun md f0 (ds.take i)).2 d).2.rows)
    (hr : m' "reads" = some (.int ((r + readStep md d : Nat) : Int) tr')) (q1 : m' "mode" = some (.str (mdStr md) tm)) (q2 : m' "deeds" = some (.ref dA)) (q3 : m' "rows" = some (.ref ra)) (q4 : m' "found" = some (.ref fa)) :
    InvEndG g L (DueJ h₀ md tm f0 ds dA fa ra tl (i + 1)) own s₁ { s₁ with heap := h', toks := tk } := by
  have l' := allLt_off l
  refine due_end (pre := [(DD, _)]) sub off hown eF D hd F N (fun p hp => by rw [List.mem_singleton.mp hp]; exact hD) hfa hra (fun p hp => hsub p (hty ▸ hp)) ?_ ?_ (push_eq _ _) eqR (by rw [e1]; exact ⟨DD, tq, u, rfl, ⟨_, _, .inr (.head _), rfl, rfl⟩, hu⟩) eR' hr q1 q2 q3 q4
  · intro q hq b hb
    rw [List.mem_singleton.mp hq]
    rcases List.mem_cons.mp hb with rfl | hb
    · exact Nat.ne_of_gt lf
    · rw [List.mem_singleton.mp hb]; exact Nat.ne_of_gt lr
  · intro q hq b hb
    rw [List.mem_singleton.mp hb]
    exact Nat.ne_of_lt (l' q (hty ▸ List.mem_append_right _ hq))
theorem due_end0 (hty : ty = tx ++ own) (sub : ∀ p ∈ tl, p ∈ tx) (off : OwnOff tx [fa, ra]) (hown : OwnOff own (fa :: ra :: tx.map (·.1))) (eF : Each (AnsV h₀ tx) vsF (frun md f0 (ds.take i)).1) (D : DInv md (frun md f0 (ds.take i)).2 r i ds (frun md f0 (ds.take i)).1) (hd : ds[i]? = some d)
    (F : Fr g L h' m') (N : News g L h' all) (hfa : (fa, listOf (vsF.toArray.push (.str (Str.ofString x) tq)) nF') ∈ all) (hra : (ra, listOf itsR nR') ∈ all) (hsub : ∀ p ∈ ty, p ∈ all)
    (eqR : itsR = vsR'.toArray) (e1 : (fstep md (frun md f0 (ds.take i)).2 d).1 = .s x) (eR' : Each RowV vsR' (fstep md (frun md f0 (ds.take i)).2 d).2.rows)
    (hr : m' "reads" = some (.int ((r + readStep md d : Nat) : Int) tr')) (q1 : m' "mode" = some (.str (mdStr md) tm)) (q2 : m' "deeds" = some (.ref dA)) (q3 : m' "rows" = some (.ref ra)) (q4 : m' "found" = some (.ref fa)) :
    InvEndG g L (DueJ h₀ md tm f0 ds dA fa ra tl (i + 1)) own s₁ { s₁ with heap := h', toks := tk } :=
  due_end (pre := []) sub off hown eF D hd F N (fun _ h => nomatch h) hfa hra (fun p hp => hsub p (hty ▸ hp)) (fun _ h => nomatch h) (fun _ _ _ h => nomatch h) (push_eq _ _) eqR (by rw [e1]; exact ⟨tq, rfl⟩) eR' hr q1 q2 q3 q4
end
theorem read_rows (md : Md) (f : FSt) : (fstep md f .read).2.rows = f.rows := by
  simp only [fstep, fread]; split
  · rfl
  · split
    · rfl
    · split <;> rfl
theorem read_no {md : Md} {f : FSt} (hc : canRead md = false) : (fstep md f .read).1 = .p "47" #[] := by simp [fstep, fread, hc]
theorem read_lt {md : Md} {f : FSt} {r : Nat} (hc : canRead md = true) (h : f.at_ = min r f.rows.length ∧ f.valid = decide (r ≤ f.rows.length)) (hl : r < f.rows.length) : (fstep md f .read).1 = .p "00" (f.rows.getD r #[]) := by
  have e : f.at_ = r := by omega
  have e2 : f.valid = true := by rw [h.2]; exact decide_eq_true (by omega)
  have e3 : ¬ f.rows.length ≤ f.at_ := by omega
  simp [fstep, fread, hc, e2, e3]
  simp [e]
theorem read_eq {md : Md} {f : FSt} {r : Nat} (hc : canRead md = true) (h : f.at_ = min r f.rows.length ∧ f.valid = decide (r ≤ f.rows.length)) (hl : r = f.rows.length) : (fstep md f .read).1 = .p "10" #[] := by
  have e2 : f.valid = true := by rw [h.2]; exact decide_eq_true (by omega)
  have e3 : f.rows.length ≤ f.at_ := by omega
  simp [fstep, fread, hc, e2, e3]
theorem read_gt {md : Md} {f : FSt} {r : Nat} (hc : canRead md = true) (h : f.at_ = min r f.rows.length ∧ f.valid = decide (r ≤ f.rows.length)) (hl : f.rows.length < r) : (fstep md f .read).1 = .p "46" #[] := by
  have e2 : f.valid = false := by rw [h.2]; exact decide_eq_false (by omega)
  simp [fstep, fread, hc, e2]
theorem rw_cases (md : Md) (f : FSt) (b : Bt) : rwAns md f b = "43" ∨ rwAns md f b = "44" ∨ rwAns md f b = "49" ∨ (rwAns md f b = "00" ∧ ∃ j, f.last = some j) := by
  obtain ⟨rows, at_, valid, last⟩ := f
  cases md <;> cases last <;> simp only [rwAns] <;> first | (simp; done) | (split <;> simp)
section
variable {prog : Program} {w : World} {A : Around} {E : Value → Shared → Prop} {s : Shared}
theorem notin_T {l : Addr} {x a b : Str} {u ta tb : Tok} {r : Bool} {Q : Value → Shared → Prop} (ht : IsTup s.heap l #[.str a ta, .str b tb]) (hb : (!([a, b].any (· == x))) = r) (h : Q (.bool r) s) : wpAny (model prog w) A (compareOp .NotIn (.str x u) (.ref l)) Q E s := by
  subst hb
  exact notin_tuple_strs ht (.cons a ta (.cons b tb .nil)) h
theorem in_T {l : Addr} {x a b : Str} {u ta tb : Tok} {r : Bool} {Q : Value → Shared → Prop} (ht : IsTup s.heap l #[.str a ta, .str b tb]) (hb : ([a, b].any (· == x)) = r) (h : Q (.bool r) s) : wpAny (model prog w) A (compareOp .In (.str x u) (.ref l)) Q E s := by
  subst hb
  exact in_tuple_strs ht (.cons a ta (.cons b tb .nil)) h
end
theorem md_adY' {md : Md} (h : canRead md = false) : [Str.ofString "output", Str.ofString "extend"].any (· == mdStr md) = true := by cases md <;> first | (cases h; done) | decide +kernel
theorem md_adN' {md : Md} (h : canRead md = true) : [Str.ofString "output", Str.ofString "extend"].any (· == mdStr md) = false := by cases md <;> first | (cases h; done) | decide +kernel
theorem gen_post {α : Type} {M : Model} {A : Around} {t : Sem α} {Q : α → Shared → Prop} {E : Value → Shared → Prop} {s : Shared} (h : ∀ Q' E', (∀ x s', Q x s' → Q' x s') → (∀ e s', E e s' → E' e s') → wpAny M A t Q' E' s) : wpAny M A t Q E s := h Q E (fun _ _ h => h) (fun _ _ h => h)
theorem item_push {prog : Program} {w : World} {A : Around} {E : Value → Shared → Prop} {s : Shared} {value slice : PySem.Expr} {l : Addr} {vs : List Value} {k : Int} {u : Tok} {x : Value} {Q : Value → Shared → Prop} (hl : s.heap.IsList l (vs.toArray.push x)) (hk : k = (vs.length : Int)) (hj : vs.length < 4000) (h : Q x s)
    (hs : subscripted slice false (.ref l) (.int k u) = operate [.ref l, .int k u] (getItem (.ref l) (.int k u)) := by with_unfolding_all rfl) (hg : ∀ r, letTemporaryGo value (.ref l) r = pure () := by intro _; with_unfolding_all rfl) :
    wpAny (model prog w) A (subscriptTail value slice (.ref l) (.int k u)) Q E s := by
  subst hk
  exact item_list hl (by omega) (by omega) (by simp) h hs hg
section
set_option hygiene false in
local macro_rules | `(tactic| walk_at "call ref") => `(tactic| walk_at "u:ref 152")
set_option hygiene false in
local macro_rules | `(tactic| walk_at "call type:list") => `(tactic| (k_here; k_dflt (refine list_sq (.inl rfl) (by assumption) (by assumption) sbU (fun _ _ => by k_mem) (by simp only [List.size_toArray]; omega) ?_); intro D' c' h' F' N' l1; have hoD := off_lt l1; (try k_lt l1)))
set_option hygiene false in
local macro_rules | `(tactic| walk_at "newList") => `(tactic| (k_here; k_dflt (refine' newList_K ?k1 ?k2 ?_; (case k1 => k_asm); (case k2 => k_asm); k_whole); intro fa h' F' N' l1; have hofa := off_lt l1; (try k_lt l1)))
set_option hygiene false in
local macro_rules | `(tactic| walk_at "call builtin:len") => `(tactic| (k_here; k_dflt (first
  | ((with_reducible show wpAny _ _ (call _ [Value.ref dA]) _ _ _); refine len_list (lst_use sdU (by assumption) (by assumption) (fun _ _ => by k_mem)) (by simp only [List.size_toArray]; omega) ?_; simp only [List.size_toArray]))))
set_option hygiene false in
local macro_rules | `(tactic| walk_at "call builtin:len") => `(tactic| (k_here; k_dflt (first
  | ((with_reducible show wpAny _ _ (call _ [Value.ref ra]) _ _ _); refine len_list (News.isList (by assumption) (by k_mem)) (by simp only [List.size_toArray]; omega) ?_; simp only [List.size_toArray]))))
set_option hygiene false in
local macro_rules | `(tactic| walk_at "subscriptTail") => `(tactic| (k_here; k_dflt (first
  | ((walk_at "u:sub dA"); refine item_at (lst_use sdW (by assumption) (by assumption) (fun _ _ => by k_mem)) hdv (by omega) (by omega) ?_)
  | ((walk_at "u:sub ra"); refine item_at (News.isList (by assumption) (by k_mem)) hr1 (by omega) (by omega) ?_)
  | ((walk_at "u:sub fa"); refine item_push (News.isList (by assumption) (by k_mem)) (by omega) (by omega) ?_)
  | ((walk_at "u:int 0"); refine tup_i0 (tup_use0 hqW (by assumption) (by assumption) (fun _ _ => by k_mem)) ?_)
  | ((walk_at "u:int 1"); refine tup_i1 (tup_use0 hqW (by assumption) (by assumption) (fun _ _ => by k_mem)) ?_))))
set_option hygiene false in
local macro_rules | `(tactic| walk_at "setItem ref int") => `(tactic| walk_at "u:0")
set_option hygiene false in
local macro_rules | `(tactic| walk_at "compareOp NotIn str ref") => `(tactic| (k_here; k_dflt (first
  | refine notin_T (r := true) (News.isTup (by assumption) (by k_mem)) (md_rdN (by assumption)) ?_
  | refine notin_T (r := false) (News.isTup (by assumption) (by k_mem)) (md_rdY (by assumption)) ?_)))
set_option hygiene false in
local macro_rules | `(tactic| walk_at "compareOp In str ref") => `(tactic| (k_here; k_dflt (first
  | refine in_T (r := true) (News.isTup (by assumption) (by k_mem)) (md_adY' (by assumption)) ?_
  | refine in_T (r := false) (News.isTup (by assumption) (by k_mem)) (md_adN' (by assumption)) ?_)))
set_option hygiene false in
local macro_rules | `(tactic| walk_at "compareOp Eq str str") => `(tactic| (k_here; k_dflt (first | refine eq_str_is (r := false) (md_nout (by assumption)) ?_ | refine eq_str_is (r := false) (by assumption) ?_)))
local macro_rules | `(tactic| walk_at $s:str) => if ["exec For Name Call cons nil", "pyIter ref"].contains s.getString then `(tactic| (k_here; refine Stop.mk ?_)) else Lean.Macro.throwUnsupported
set_option hygiene false in
local macro_rules | `(tactic| walk_at "eval IfExp") => `(tactic| (k_here; (with_reducible show wpAny _ _ (eval (Expr.IfExp _ (Expr.List _ _) _ _) _) _ _ _); refine Stop.mk ?_))
variable {prog : Program} {w : World} {p : Program} {loose : List Str} {mean : ExcName → Option Value} {mg mb : Str → Option Value} {dp un : Nat} {gd : Option (List Code)} {cn : Str} {cs : Scope} {L a : Addr} {ccd : Value} {cl : List (Str × Addr)} {outer : List Env}
    {A₀ : Around} {base h₀ : Heap} {m : Str → Option Value} {tl : List (Addr × Obj)} {s : Shared} {Q E : Value → Shared → Prop}
theorem due_c {md : Md} {tm : Tok} {ab dA : Addr} {vb dvs : List Value} {rows : List Bt} {ds : List Deed}
    (B : Below A₀ base outer h₀) (F : Fr h₀ L s.heap m) (X : (Mine.hd.heap_39 w.params).In h₀) (N : News h₀ L s.heap tl) (T : Top p loose mean mg mb h₀) (hk : cs.kind = .function)
    (sb : SqAt "list" h₀ tl ab vb.toArray) (eb : Each RowV vb rows) (sd : SqAt "list" h₀ tl dA dvs.toArray) (ed : Each (DeedV h₀ tl) dvs ds)
    (hz1 : rows.length < 100) (hz2 : ds.length < 100) (hsl : 1000 ≤ sizeLine) (hdp : dp + 10 < recursionLimit)
    (ret : ∀ TT fa ra vsF vsR nT nF nR (r : Nat) tr tx h' tks, DInv md (frun md (fopen md rows) ds).2 r ds.length ds (frun md (fopen md rows) ds).1 → Each (AnsV h₀ tx) vsF (frun md (fopen md rows) ds).1 → Each RowV vsR (frun md (fopen md rows) ds).2.rows →
      (∀ p ∈ tl, p ∈ tx) → Fr h₀ L h' m → News h₀ L h' ((TT, { cls := .type "tuple", data := .seq #[.ref fa, .ref ra, .int (r : Int) tr] nT }) :: (fa, listOf vsF.toArray nF) :: (ra, listOf vsR.toArray nR) :: tx) → Q (.ref TT) { s with heap := h', toks := tks }) :
    wpAny (model prog w) (ktrTop dp un gd cn cs L a ccd cl outer) (call (.ref 159) [.str (mdStr md) tm, .ref ab, .ref dA]) Q E s := by
  have lb := eb.1
  have ld := ed.1
  refine wpAny_call ?_
  (refine' code_def ?k1 ?k2 ?k3 ?k4 ?k5 ?kA ?kF ?kK ?k6 ?k7 ?k8 ?k9 ?kB ?_ ?c2 ?c3 ?c4 ?c5; (case kA => exact rfl); (case kF => exact rfl); (case kK => assumption); (case k1 => k_asm); (case k2 => k_asm); (case k3 => k_asm); (case k4 => k_asm); (case k5 => k_asm); (case k6 => k_is); (case k7 => k_is); (case k8 => ktr_room); (case k9 => exact BindsTo.of_eq rfl); (case c5 => decide); (case kB => exact locs rfl); (case c2 => exact rfl); (case c3 => exact rfl); (case c4 => exact rfl); k_whole)
  intro g' L' h' FG' F' N' B' X' T' 
  (try dsimp only)
  (try k_lift B')
  (try k_fold)
  have sbU := sq_up FG' sb
  have sdU := sq_up FG' sd
  have edU : Each (DeedV g' tl) dvs ds := ed.mono fun _ _ r => r.mono FG'.keep fun _ h => h
  k_steps
  unfold Stop
  k_dflt (refine made_step (tl := tl) (md := md) (rows := rows) F' ?made ?rest)
  case made =>
    by_cases ho : md = .out
    · subst ho
      dsimp only [mdStr]
      refine IfExp_ ?_
      k_steps
      exact RowsMade.mk (by assumption) (by assumption) .nil (by first | assumption | exact off_lt (by assumption))
    · have eb' : Each RowV vb (fopen md rows).rows := by cases md <;> first | exact absurd rfl ho | exact eb
      refine IfExp_ ?_
      k_steps
      exact RowsMade.mk (by assumption) (by assumption) eb' (by first | assumption | exact off_lt (by assumption))
  case rest =>
    intro ra vr nr h1 tk1 F1 N1 eR oR
    change wpAny _ _ _ _ _ _
    k_steps
    unfold Stop
    rename Fr g' L' _ _ => F2
    rename News g' L' _ _ => N2
    rename _ ∧ _ ∧ AllLt _ tl => l2
    rename _ ∧ AllLt _ tl => l3
    with_unfolding_all refine' For_invVF F2 ?k1 ?k2 ?_
    case k1 => exact rfl
    case k2 => exact rfl
    k_steps
    unfold Stop
    rename IsRange _ _ _ _ _ _ _ _ => rg
    rename Fr g' L' _ _ => F3
    rename News g' L' _ _ => N3
    have hra : @LT.lt Nat _ ra fa := l3.1
    have hoT : OwnOff tl [fa, ra] := off_app (as := [fa]) (off_sub hofa fun _ h => .tail _ h) oR
    refine range_J (n := ds.length) (DueJ h₀ md tm (fopen md rows) ds dA fa ra tl) rfl rg ?sm ?sz F3 (fun p hp => N3 p (.tail _ hp)) ?J0 ?turn ?done
    case sm => rw [ld]; exact small_one (by omega) (by omega) (by omega) (by omega)
    case sz => rw [ld]; exact rangeSize_nat _ _
    case J0 => exact ⟨⟨0, _, [], vr, _, _, tl, rfl, fun _ h => h, hoT, .nil, eR, DInv.start _ _ _, rfl⟩, rfl, rfl, rfl, rfl⟩
    case turn =>
      intro i t m1 nx h tk own hi hown hJ Fa Na
      obtain ⟨⟨r, tr, vsF, vsR, nF, nR, tx, rfl, sub, off, eF, eR', D, q5⟩, q1, q2, q3, q4⟩ := hJ
      rw [know5 q1 q2 q3 q4 q5] at Fa
      dsimp only at Fa
      obtain ⟨d, hd⟩ : ∃ d, ds[i]? = some d := ⟨_, List.getElem?_eq_getElem hi⟩
      have hdi : ds[i] = d := by rw [List.getElem?_eq_getElem hi] at hd; exact Option.some.inj hd
      obtain ⟨dv, hdv, hD⟩ := edU.at hi
      rw [hdi] at hD
      simp only [List.cons_append] at Na
      obtain ⟨ty, hty⟩ : ∃ ty, ty = tx ++ own := ⟨_, rfl⟩
      rw [← hty] at Na
      have subY : ∀ p ∈ tl, p ∈ ty := fun p hp => hty ▸ List.mem_append_left _ (sub p hp)
      have offY : OwnOff ty [fa, ra] := by
        intro q hq b hb
        rw [hty] at hq
        rcases List.mem_append.mp hq with hq | hq
        · exact off q hq b hb
        · exact hown q hq b (by
            rcases List.mem_cons.mp hb with rfl | hb
            · exact .head _
            · rw [List.mem_singleton.mp hb]; exact .tail _ (.head _))
      have sdW := sdU.mono (fun _ _ e => e) subY
      have lF := eF.1
      have lR := eR'.1
      rw [frun_len, List.length_take] at lF
      have lR2 := frun_rows md (ds.take i) (fopen md rows)
      rw [List.length_take] at lR2
      have lo : (fopen md rows).rows.length ≤ rows.length := by cases md <;> simp [fopen]
      have hownL : OwnOff own (fa :: ra :: tx.map (·.1)) := hown
      have hcr := D.cr
      have bF : vsF.length = i := by omega
      have bi : i < 100 := by omega
      have bR : vsR.length < 200 := by omega
      have kR : Kept (vsR.length = (frun md (fopen md rows) (ds.take i)).2.rows.length) := lR
      have kz1 : Kept (ds.length < 1000) := by show ds.length < 1000; omega
      have kz2 : Kept ((frun md (fopen md rows) (ds.take i)).2.rows.length < 1000) := by show _ < _; omega
      clear hdi hi lb ld lR lR2 lF lo hz1 hz2
      refine gen_post fun Q' E' hQ' hE' => ?_
      cases d with
      | read =>
        obtain ⟨da, dt, rfl, hq⟩ := hD
        have hqW := hq.mono (fun _ _ e => e) subY
        have hrw := read_rows md (frun md (fopen md rows) (ds.take i)).2
        by_cases hc : canRead md = true
        · have hcr' := hcr hc
          have e0 := read_lt (r := r) hc hcr'
          have e1 := read_eq (r := r) hc hcr'
          have e2 := read_gt (r := r) hc hcr'
          clear hcr' hcr
          have hrs : r + readStep md .read = r + 1 := by simp [readStep, hc]
          rcases Nat.lt_trichotomy r (frun md (fopen md rows) (ds.take i)).2.rows.length with hlt | heq | hgt
          · obtain ⟨rv, hr1, ⟨rbt, rfl⟩, hrb⟩ := eR'.at hlt
            have hgd : (frun md (fopen md rows) (ds.take i)).2.rows.getD r #[] = (frun md (fopen md rows) (ds.take i)).2.rows[r] := by simp [List.getD, hlt]
            replace e0 := e0 hlt
            rw [hgd] at e0
            have hlt2 : r < vsR.length := by rw [kR.to]; exact hlt
            clear hgd e1 e2
            generalize (frun md (fopen md rows) (ds.take i)).2.rows[r] = rb at hr1 hrb e0
            clear hlt
            k_steps
            rename (_ ∧ _ ∧ _ ∧ AllLt _ ty) => l9
            rename Fr g' _ _ _ => F9
            rename News g' _ _ _ => N9
            refine hQ' _ _ ?_
            exact due_end1 hty sub off hownL eF D hd F9 N9 (by k_mem) (by k_mem) (fun _ _ => by k_mem) (by k_mem) l9.2.2.2 l9.2.1 l9.2.2.1 ⟨⟨_, rfl⟩, hrb⟩ rfl e0 (hrw ▸ eR') (by rw [hrs]; k_dflt (exact rfl)) (by k_dflt (exact rfl)) (by k_dflt (exact rfl)) (by k_dflt (exact rfl)) (by k_dflt (exact rfl))
          · replace e1 := e1 heq
            have heq2 : r = vsR.length := by rw [kR.to]; exact heq
            clear heq e0 e2
            k_steps
            all_goals try (exfalso; omega)
            rename (_ ∧ _ ∧ _ ∧ AllLt _ ty) => l9
            rename Fr g' _ _ _ => F9
            rename News g' _ _ _ => N9
            refine hQ' _ _ ?_
            exact due_end1 hty sub off hownL eF D hd F9 N9 (by k_mem) (by k_mem) (fun _ _ => by k_mem) (by k_mem) l9.2.2.2 l9.2.1 l9.2.2.1 ⟨⟨_, rfl⟩, by decide⟩ rfl e1 (hrw ▸ eR') (by rw [hrs]; k_dflt (exact rfl)) (by k_dflt (exact rfl)) (by k_dflt (exact rfl)) (by k_dflt (exact rfl)) (by k_dflt (exact rfl))
          · replace e2 := e2 hgt
            have hgt2 : vsR.length < r := by rw [kR.to]; exact hgt
            clear hgt e0 e1
            k_steps
            all_goals try (exfalso; omega)
            rename (_ ∧ _ ∧ _ ∧ AllLt _ ty) => l9
            rename Fr g' _ _ _ => F9
            rename News g' _ _ _ => N9
            refine hQ' _ _ ?_
            exact due_end1 hty sub off hownL eF D hd F9 N9 (by k_mem) (by k_mem) (fun _ _ => by k_mem) (by k_mem) l9.2.2.2 l9.2.1 l9.2.2.1 ⟨⟨_, rfl⟩, by decide⟩ rfl e2 (hrw ▸ eR') (by rw [hrs]; k_dflt (exact rfl)) (by k_dflt (exact rfl)) (by k_dflt (exact rfl)) (by k_dflt (exact rfl)) (by k_dflt (exact rfl))
        · replace hc := Bool.eq_false_iff.mpr hc
          have hrs0 : r + readStep md .read = r := by simp [readStep, hc]
          have e3 := read_no (f := (frun md (fopen md rows) (ds.take i)).2) hc
          k_steps
          rename (_ ∧ _ ∧ _ ∧ AllLt _ ty) => l9
          rename Fr g' _ _ _ => F9
          rename News g' _ _ _ => N9
          refine hQ' _ _ ?_
          exact due_end1 hty sub off hownL eF D hd F9 N9 (by k_mem) (by k_mem) (fun _ _ => by k_mem) (by k_mem) l9.2.2.2 l9.2.1 l9.2.2.1 ⟨⟨_, rfl⟩, by decide⟩ rfl e3 (hrw ▸ eR') (by rw [hrs0]; k_dflt (exact rfl)) (by k_dflt (exact rfl)) (by k_dflt (exact rfl)) (by k_dflt (exact rfl)) (by k_dflt (exact rfl))
      | write b =>
        obtain ⟨da, dt, du, rfl, hq, ⟨bt, rfl⟩, hb⟩ := hD
        have hqW := hq.mono (fun _ _ e => e) subY
        clear hcr
        cases hc : canRead md with
        | true =>
          k_steps
          rename Fr g' _ _ _ => F9
          rename News g' _ _ _ => N9
          refine hQ' _ _ ?_
          exact due_end0 hty sub off hownL eF D hd F9 N9 (by k_mem) (by k_mem) (fun _ _ => by k_mem) rfl (by simp [fstep, fwrite, hc]) (by simpa [fstep, fwrite, hc] using eR') (by k_dflt (exact rfl)) (by k_dflt (exact rfl)) (by k_dflt (exact rfl)) (by k_dflt (exact rfl)) (by k_dflt (exact rfl))
        | false =>
          k_steps
          rename Fr g' _ _ _ => F9
          rename News g' _ _ _ => N9
          refine hQ' _ _ ?_
          exact due_end0 hty sub off hownL eF D hd F9 N9 (by k_mem) (by k_mem) (fun _ _ => by k_mem) (push_eq _ _) (by simp [fstep, fwrite, hc]) (by simpa [fstep, fwrite, hc] using eR'.snoc ⟨⟨bt, rfl⟩, hb⟩) (by k_dflt (exact rfl)) (by k_dflt (exact rfl)) (by k_dflt (exact rfl)) (by k_dflt (exact rfl)) (by k_dflt (exact rfl))
      | rewrite b =>
        obtain ⟨da, dt, du, rfl, hq, ⟨bt, rfl⟩, hb⟩ := hD
        have hqW := hq.mono (fun _ _ e => e) subY
        have hans := frewrite_ans md (frun md (fopen md rows) (ds.take i)).2 b
        have hrow := frewrite_rows md (frun md (fopen md rows) (ds.take i)).2 b
        have hcs := rw_cases md (frun md (fopen md rows) (ds.take i)).2 b
        k_steps
        unfold Stop
        rename Fr g' _ _ _ => F7
        rename News g' _ _ _ => N7
        have ef7 : Each (AnsV g' ((fa, listOf vsF.toArray nF) :: (ra, listOf vsR.toArray nR) :: ty)) vsF _ := eF.mono fun _ _ q => q.mono FG'.keep fun p hp => .tail _ (.tail _ (hty ▸ List.mem_append_left _ hp))
        have ed7 : Each (DeedV g' ((fa, listOf vsF.toArray nF) :: (ra, listOf vsR.toArray nR) :: ty)) dvs ds := edU.mono fun _ _ q => q.mono (fun _ _ e => e) fun p hp => .tail _ (.tail _ (subY p hp))
        k_dflt (refine repl_c (by assumption) F7 (by assumption) N7 (by assumption) rfl (sdW.mono (fun _ _ e => e) fun p hp => .tail _ (.tail _ hp)) ed7 ⟨_, nR, .inr (.tail _ (.head _)), rfl, rfl⟩ eR' ⟨_, nF, .inr (.head _), rfl, rfl⟩ ef7 D hd kz1.to kz2.to (by ktr_room) ?_)
        intro t8 h8 tk8 F8 N8
        change wpAny _ _ _ _ _ _
        rcases Classical.em (rwAns md (frun md (fopen md rows) (ds.take i)).2 b = "00") with e8 | e8
        · obtain ⟨j, hj⟩ : ∃ j, (frun md (fopen md rows) (ds.take i)).2.last = some j := by
            rcases hcs with e9 | e9 | e9 | ⟨_, h9⟩
            · exact absurd (e9.symm.trans e8) (by decide)
            · exact absurd (e9.symm.trans e8) (by decide)
            · exact absurd (e9.symm.trans e8) (by decide)
            · exact h9
          obtain ⟨hr8, hrl8, _⟩ := D.ls j hj
          have hrl9 : r ≤ vsR.length := by rw [kR.to]; exact hrl8
          clear hrl8
          rw [e8] at hans hrow
          rw [e8]
          rw [hj, if_pos rfl] at hrow
          k_steps
          rename Fr g' _ _ _ => F9
          rename News g' _ _ _ => N9
          refine hQ' _ _ ?_
          exact due_end0 (vsR' := vsR.set j (.bytes b bt)) hty sub off hownL eF D hd F9 N9 (by k_mem) (by k_mem) (fun _ _ => by k_mem) (by rw [show ((r : Int) - 1).toNat = j by omega]) hans (by rw [show (fstep md (frun md (fopen md rows) (ds.take i)).2 (.rewrite b)).2.rows = _ from hrow]; exact eR'.set ⟨⟨bt, rfl⟩, hb⟩) (by k_dflt (exact rfl)) (by k_dflt (exact rfl)) (by k_dflt (exact rfl)) (by k_dflt (exact rfl)) (by k_dflt (exact rfl))
        · rw [if_neg e8] at hrow
          have hne : (Str.ofString (rwAns md (frun md (fopen md rows) (ds.take i)).2 b) == Str.ofString "00") = false := by
            rcases hcs with e9 | e9 | e9 | ⟨e9, _⟩
            · rw [e9]; decide +kernel
            · rw [e9]; decide +kernel
            · rw [e9]; decide +kernel
            · exact absurd e9 e8
          clear hcs e8
          generalize rwAns md (frun md (fopen md rows) (ds.take i)).2 b = ax at hans hne
          k_steps
          rename Fr g' _ _ _ => F9
          rename News g' _ _ _ => N9
          refine hQ' _ _ ?_
          exact due_end0 hty sub off hownL eF D hd F9 N9 (by k_mem) (by k_mem) (fun _ _ => by k_mem) rfl hans (by rw [show (fstep md (frun md (fopen md rows) (ds.take i)).2 (.rewrite b)).2.rows = _ from hrow]; exact eR') (by k_dflt (exact rfl)) (by k_dflt (exact rfl)) (by k_dflt (exact rfl)) (by k_dflt (exact rfl)) (by k_dflt (exact rfl))
    case done =>
      intro m1 nx h tk hJ Fa Na
      obtain ⟨⟨r, tr, vsF, vsR, nF, nR, tx, rfl, sub, off, eF, eR', D, q5⟩, q1, q2, q3, q4⟩ := hJ
      rw [know3 q3 q4 q5] at Fa
      rw [List.take_length] at eF eR' D
      k_steps
      exact ret _ _ _ _ _ _ _ _ _ _ _ _ _ D eF eR' sub (by assumption) (by assumption)
end
end
section
open PySem.Calls PySem.Spec
set_option maxHeartbeats 4000000
theorem TakeIn.mono {tl tl' : List (Addr × Obj)} {q ap : Addr} (h : TakeIn tl q ap) (s : ∀ p ∈ tl, p ∈ tl') : TakeIn tl' q ap := by
  obtain ⟨cc, cp, c', ac, doc, pm, ctv, oc, oC, oP, cvs, ct, nn, vs, ns, h1, h2, h3, h4, h5, h6, h7, h8, h9, h10, h11, h12⟩ := h.ex
  exact ⟨⟨cc, cp, c', ac, doc, pm, ctv, oc, oC, oP, cvs, ct, nn, vs, ns, s _ h1, s _ h2, h3, h4, s _ h5, h6, s _ h7, h8, s _ h9, h10, h11, h12⟩⟩
section
variable {prog : Program} {w : World} {p : Program} {loose : List Str} {mean : ExcName → Option Value} {mg mb : Str → Option Value} {dp un : Nat} {gd : Option (List Code)} {cn : Str} {cs : Scope} {L a : Addr} {ccd : Value} {cl : List (Str × Addr)} {outer : List Env}
    {A₀ : Around} {base h₀ : Heap} {m : Str → Option Value} {tl : List (Addr × Obj)} {s : Shared} {Q E : Value → Shared → Prop}
theorem take_u {q ap : Addr} {k lim : Int} {tk tlim : Tok} {n : Nat} {news : List (Addr × Obj)} {gf : Obj → List (Addr × Obj)}
    (B : Below A₀ base outer h₀) (F : Fr h₀ L s.heap m) (X : (Mine.hd.heap_39 w.params).In h₀) (N : News h₀ L s.heap news) (U : UpdF ap (listOf #[.int k tk] n) news gf) (T : Top p loose mean mg mb h₀) (hk : cs.kind = .function)
    (hT : TakeIn tl q ap) (hoff : OwnOff tl [ap]) (sub : ∀ p ∈ tl, p ∈ news) (hk0 : 0 ≤ k) (hk1 : k < 400) (hl0 : 0 < lim) (hdp : dp + 1 < recursionLimit) (hu : un + 8 < cLine)
    (ret : ∀ r t tk' n' h' tks, 0 ≤ r → r < lim → Fr h₀ L h' m → News h₀ L h' (gf (listOf #[.int (k + 1) tk'] n')) → Q (.int r t) { s with heap := h', toks := tks }) :
    wpAny (model prog w) (ktrTop dp un gd cn cs L a ccd cl outer) (call (.ref q) [.int lim tlim]) Q E s := by
  obtain ⟨pre, post, rfl, hg, h1, h2⟩ := U.split
  have sub' : ∀ p ∈ tl, p ∈ pre ++ post := fun p hp => by
    have z := sub p hp
    rcases List.mem_append.mp z with z | z
    · exact List.mem_append_left _ z
    · rcases List.mem_cons.mp z with rfl | z
      · exact absurd rfl (hoff _ hp ap (.head _))
      · exact List.mem_append_right _ z
  have off' : OwnOff (pre ++ post) [ap] := fun x hx b hb => by
    rw [List.mem_singleton.mp hb]
    exact (List.mem_append.mp hx).elim (h1 x) (h2 x)
  refine take_c (tl := pre ++ post) (tk := tk) (n := n) B F X (fun x hx => N x ?_) T hk (hT.mono sub') off' hk0 hk1 hl0 hdp hu fun r t tk' n' h' tks a1 a2 F' N' => ret r t tk' n' h' tks a1 a2 F' fun x hx => N' x ?_
  · rcases List.mem_cons.mp hx with rfl | hx
    · exact List.mem_append_right _ (.head _)
    · exact (List.mem_append.mp hx).elim (fun z => List.mem_append_left _ z) fun z => List.mem_append_right _ (.tail _ z)
  · rw [hg] at hx
    rcases List.mem_append.mp hx with hx | hx
    · exact .tail _ (List.mem_append_left _ hx)
    · rcases List.mem_cons.mp hx with rfl | hx
      · exact .head _
      · exact .tail _ (List.mem_append_right _ hx)
end
section
variable {prog : Program} {w : World} {A : Around} {s : Shared} {h₀ : Heap} {L : Addr} {m : Str → Option Value} {env : Env} {elt : PySem.Expr} {x : Str} {scope : Scope} {cl : List (Str × Addr)} {P : Nat → Value → Prop} {Fin : List Value → List (Addr × Obj) → Prop}
  {ap : Addr} {tl : List (Addr × Obj)}
theorem take_rest (hoff : OwnOff tl [ap])
    (turn : ∀ (k : Int) (tk : Tok) (n : Nat) (tl2 : List (Addr × Obj)) (C : Addr) (oC : Obj) (h : Heap) (tk0 : Tok) (Q' E' : Value → Shared → Prop), 0 ≤ k → k < 400 → (∀ p ∈ tl, p ∈ tl2) → OwnOff tl2 [ap] → (C, oC) ∈ tl2 → Fr h₀ L h m → News h₀ L h ((ap, listOf #[.int k tk] n) :: tl2) →
      (∀ r t tk' n' h' tks, 0 ≤ r → r < 256 → Fr h₀ L h' m → News h₀ L h' ((ap, listOf #[.int (k + 1) tk'] n') :: tl2) → Q' (.int r t) { s with heap := h', toks := tks }) →
      wpAny (model prog w) A (eval elt (compEnvC scope cl C env)) Q' E' { s with heap := h, toks := tk0 }) :
    ∀ (j i : Nat) (ys : List Value) (zs : List Int) (k : Int) (tk : Tok) (n : Nat), IntsAre ys zs → (∀ z ∈ zs, 0 ≤ z ∧ z < 256) → 0 ≤ k → k + j < 400 →
      (∀ ys' zs' tk' n', IntsAre ys' zs' → (∀ z ∈ zs', 0 ≤ z ∧ z < 256) → zs'.length = zs.length + j → Fin ys' ((ap, listOf #[.int (k + j) tk'] n') :: tl)) →
      LCg.CompRest prog w A h₀ L m env elt x scope cl s (fun _ => True) P Fin j i ys ((ap, listOf #[.int k tk] n) :: tl) := by
  intro j
  induction j with
  | zero =>
    intro i ys zs k tk n hi hz h0 hk fin
    have := fin ys zs tk n hi hz rfl
    rw [show k + ((0 : Nat) : Int) = k by omega] at this
    exact LCg.CompRest.zero this
  | succ j ih =>
    intro i ys zs k tk n hi hz h0 hk fin
    refine LCg.CompRest.succ ?_
    intro v I0 oI C oC D m₂ h tk0 E' hv hC hx F N off ne
    have offm := off.mem
    have hap := offm _ (.head _)
    have o2 : OwnOff ((I0, oI) :: (C, oC) :: (D, LCg.lst ys) :: tl) [ap] := by
      intro q hq b hb
      rw [List.mem_singleton.mp hb]
      rcases List.mem_cons.mp hq with rfl | hq
      · exact Ne.symm hap.1
      · rcases List.mem_cons.mp hq with rfl | hq
        · exact Ne.symm hap.2.1
        · rcases List.mem_cons.mp hq with rfl | hq
          · exact Ne.symm hap.2.2
          · exact hoff q hq ap (.head _)
    refine turn k tk n ((I0, oI) :: (C, oC) :: (D, LCg.lst ys) :: tl) C oC h tk0 _ E' h0 (by omega) (fun p hp => .tail _ (.tail _ (.tail _ hp))) o2 (.tail _ (.head _)) F (fun p hp => N p ?_) ?_
    · rcases List.mem_cons.mp hp with rfl | hp
      · exact .tail _ (.tail _ (.tail _ (.head _)))
      · rcases List.mem_cons.mp hp with rfl | hp
        · exact .head _
        · rcases List.mem_cons.mp hp with rfl | hp
          · exact .tail _ (.head _)
          · rcases List.mem_cons.mp hp with rfl | hp
            · exact .tail _ (.tail _ (.head _))
            · exact .tail _ (.tail _ (.tail _ (.tail _ hp)))
    · intro r t tk' n' h' tks hr0 hr1 F' N'
      refine LCg.CompEnd.intro F' N' ((ap, listOf #[.int (k + 1) tk'] n') :: tl) ?_ ?_ True.intro ?_
      · intro p hp
        rcases List.mem_cons.mp hp with rfl | hp
        · exact .tail _ (.head _)
        · rcases List.mem_cons.mp hp with rfl | hp
          · exact .tail _ (.tail _ (.head _))
          · rcases List.mem_cons.mp hp with rfl | hp
            · exact .tail _ (.tail _ (.tail _ (.head _)))
            · rcases List.mem_cons.mp hp with rfl | hp
              · exact .head _
              · exact .tail _ (.tail _ (.tail _ (.tail _ hp)))
      · refine LCg.Off3.of fun p hp => ?_
        rcases List.mem_cons.mp hp with rfl | hp
        · exact hap
        · exact offm p (.tail _ hp)
      · refine ih (i + 1) (ys ++ [.int r t]) (zs ++ [r]) (k + 1) tk' n' (IntsAre.append hi (.cons r t .nil)) (fun z hz' => ?_) (by omega) (by omega) ?_
        · rcases List.mem_append.mp hz' with hz' | hz'
          · exact hz z hz'
          · rw [List.mem_singleton.mp hz']; exact ⟨hr0, hr1⟩
        · intro ys' zs' tk2 n2 a1 a2 a3
          have := fin ys' zs' tk2 n2 a1 a2 (by rw [a3, List.length_append, List.length_singleton]; omega)
          rw [show k + 1 + (j : Int) = k + ((j + 1 : Nat) : Int) by omega]
          exact this
end
end
section
open PySem.Calls PySem.Spec
set_option maxHeartbeats 4000000
theorem TakeIn.fnAt {h₀ h : Heap} {L q ap : Addr} {tl news : List (Addr × Obj)} (hT : TakeIn tl q ap) (N : News h₀ L h news) (s : ∀ p ∈ tl, p ∈ news) : FnAt q h := by
  obtain ⟨cc, cp, c', ac, doc, pm, ctv, oc, oC, oP, cvs, ct, nn, vs, ns, h1, _⟩ := hT.ex
  exact FnAt.of N (s _ h1)
theorem news_swap {g h : Heap} {L : Addr} {a b : Addr × Obj} {tl : List (Addr × Obj)} (N : News g L h (a :: b :: tl)) : News g L h (b :: a :: tl) := fun p hp => N p (by
  rcases List.mem_cons.mp hp with rfl | hp
  · exact .tail _ (.head _)
  · rcases List.mem_cons.mp hp with rfl | hp
    · exact .head _
    · exact .tail _ (.tail _ hp))
theorem ex_cell0 {g h : Heap} {L c : Addr} {o : Obj} {v : Value} {tl : List (Addr × Obj)} (d : o.data = .cell (some v)) (N : News g L h ((c, o) :: tl)) : ∃ oc : Obj, oc.data = .cell (some v) ∧ News g L h ((c, oc) :: tl) := ⟨o, d, N⟩
section
set_option hygiene false in
local macro_rules | `(tactic| walk_at "call ref") => `(tactic| walk_at "u:2")
set_option hygiene false in
local macro_rules | `(tactic| walk_at "callWith ref") => `(tactic| walk_at "u:3")
set_option hygiene false in
local macro_rules | `(tactic| walk_at "FnAt") => `(tactic| walk_at "u:4")
set_option hygiene false in
local macro_rules | `(tactic| walk_at "call type:bytes") => `(tactic| walk_at "u:5")
local macro_rules | `(tactic| walk_at $s:str) => if ["CompSrc", "eval ListComp"].contains s.getString then `(tactic| (k_here; refine Stop.mk ?_)) else Lean.Macro.throwUnsupported
variable {prog : Program} {w : World} {p : Program} {loose : List Str} {mean : ExcName → Option Value} {mg mb : Str → Option Value} {dp un : Nat} {gd : Option (List Code)} {cn : Str} {cs : Scope} {L a : Addr} {ccd : Value} {cl : List (Str × Addr)} {outer : List Env}
    {A₀ : Around} {base h₀ : Heap} {m : Str → Option Value} {tl : List (Addr × Obj)} {s : Shared} {Q E : Value → Shared → Prop}
theorem deed_fin {D' ap : Addr} {o : Obj} {dl cx : Addr × Obj} {d : Deed} {k k' : Int} {tk' : Tok} {n' : Nat} {h' : Heap} {tks : Nat} (N : News h₀ L h' ((D', o) :: dl :: (ap, listOf #[.int k' tk'] n') :: cx :: tl)) (l : @LT.lt Nat _ dl.1 D' ∧ @LT.lt Nat _ ap D' ∧ @LT.lt Nat _ cx.1 D' ∧ AllLt D' tl) (F : Fr h₀ L h' m) (hd : DeedV h₀ [(D', o)] (.ref D') d) (h1 : k ≤ k') (h2 : k' ≤ k + 5)
    (ret : ∀ v d k' tk' n' new h' tks, k ≤ k' → k' ≤ k + 5 → DeedV h₀ new v d → OwnOff new (ap :: tl.map (·.1)) → Fr h₀ L h' m → News h₀ L h' ((ap, listOf #[.int k' tk'] n') :: (new ++ tl)) → Q v { s with heap := h', toks := tks }) : Q (.ref D') { s with heap := h', toks := tks } := by
  refine ret (.ref D') d k' tk' n' [(D', o)] h' tks h1 h2 hd ?_ F fun p hp => N p ?_
  · intro q hq b hb
    rw [List.mem_singleton.mp hq]
    rcases List.mem_cons.mp hb with rfl | hb
    · exact Nat.ne_of_gt l.2.1
    · obtain ⟨z, hz, rfl⟩ := List.mem_map.mp hb
      exact Nat.ne_of_gt (allLt_off l.2.2.2 z hz)
  · rcases List.mem_cons.mp hp with rfl | hp
    · exact .tail _ (.tail _ (.head _))
    · rcases List.mem_append.mp hp with hp | hp
      · rw [List.mem_singleton.mp hp]; exact .head _
      · exact .tail _ (.tail _ (.tail _ (.tail _ hp)))
theorem deed_c {q ap : Addr} {k : Int} {tk tal : Tok} {n : Nat} {al : Bt}
    (B : Below A₀ base outer h₀) (F : Fr h₀ L s.heap m) (X : (Mine.hd.heap_39 w.params).In h₀) (N : News h₀ L s.heap ((ap, listOf #[.int k tk] n) :: tl)) (T : Top p loose mean mg mb h₀) (hk : cs.kind = .function)
    (hT : TakeIn tl q ap) (hoff : OwnOff tl [ap]) (hk0 : 0 ≤ k) (hk1 : k < 300) (hal : al.size < 1000) (hdp : dp + 10 < recursionLimit) (hu : un + 64 < cLine)
    (ret : ∀ v d k' tk' n' new h' tks, k ≤ k' → k' ≤ k + 5 → DeedV h₀ new v d → OwnOff new (ap :: tl.map (·.1)) → Fr h₀ L h' m → News h₀ L h' ((ap, listOf #[.int k' tk'] n') :: (new ++ tl)) → Q v { s with heap := h', toks := tks }) :
    wpAny (model prog w) (ktrTop dp un gd cn cs L a ccd cl outer) (call (.ref 169) [.ref q, .bytes al tal]) Q E s := by
  refine wpAny_call ?_
  (refine' code_defC ?k1 ?k2 ?k3 ?k4 ?k5 ?kA ?kF ?kK ?k6 ?k7 ?k8 ?k9 ?kB ?kD ?_ ?c2 ?c3 ?c4; (case kA => exact rfl); (case kF => exact rfl); (case kK => assumption); (case k1 => k_asm); (case k2 => k_asm); (case k3 => k_asm); (case k4 => k_asm); (case k5 => k_asm); (case k6 => k_is); (case k7 => k_is); (case k8 => ktr_room); (case k9 => exact BindsTo.of_eq rfl); (case kB => exact rfl); (case kD => decide +kernel); (case c2 => exact rfl); (case c3 => exact rfl); (case c4 => exact rfl); k_whole)
  intro g' L' h' tk' cells' FG' F' N' Y' B' X' T' l1
  have hoL := off_lt1 l1
  (try k_lt l1)
  k_cells Y'
  (try simp only [List.cons_append, List.nil_append] at N')
  (try dsimp only)
  (try k_lift B')
  (try k_fold)
  have o1 : OwnOff tl [ap, L' + 1] := off_app hoff (off_sub hoL fun _ h => .tail _ h)
  k_steps
  unfold Stop
  rename News g' L' _ _ => N2
  rename Fr g' L' _ _ => F2
  obtain ⟨oc, hoc, N3⟩ := ex_cell0 (by assumption) N2
  have hap : @LT.lt Nat _ ap L' := l1.1
  have offT : OwnOff ((L' + 1, oc) :: tl) [ap] := by
    intro x hx b hb
    rw [List.mem_singleton.mp hb]
    rcases List.mem_cons.mp hx with rfl | hx
    · exact Nat.ne_of_gt (Nat.lt_succ_of_lt hap)
    · exact hoff x hx ap (.head _)
  k_dflt (refine LCg.ListComp_U F2 (by with_unfolding_all rfl) (by decide) (by rfl) (by decide) (by rfl) ?_)
  clear N2
  k_steps
  unfold Stop
  rename IsRange _ _ _ _ _ _ _ _ => rg
  rename News g' L' _ _ => N4
  rename Fr g' L' _ _ => F4
  have offU : OwnOff tl [ap, L' + 1] := o1
  have N5 := news_swap N4
  k_dflt (refine LCg.CompSrc.range (n := r'.toNat) rfl F4 N5 rg (small_one (by omega) (by omega) (by omega) (by omega)) ?sz (by rw [sizeLine_eq]; omega) ?rest)
  case sz =>
    rw [rangeSize_nat]
    simp
  case rest =>
    intro g2
    refine take_rest (ap := ap) (tl := (L' + 1, oc) :: tl) offT ?turn r'.toNat 0 [] [] (k + 1 + 1) _ _ .nil (fun z hz => nomatch hz) (by omega) (by omega) ?fin
    case turn =>
      intro k2 tk2 n2 tl2 C oC h2 tk0 Q' E' hk20 hk21 sub2 off2 hC Fa Na ret2
      have hcx : (L' + 1, oc) ∈ tl2 := sub2 _ (.head _)
      have subT : ∀ p ∈ tl, p ∈ tl2 := fun p hp => sub2 p (.tail _ hp)
      have hT2 := hT
      replace hT := hT2.mono subT
      replace hoff := off2
      k_steps
      exact ret2 _ _ _ _ _ _ hr0 hr1 (by assumption) (by assumption)
    case fin =>
      intro ys zs tk9 n9 hiz hzz hlz
      intro D h9 tk8 Fa Na off1
      simp only [List.length_nil, Nat.zero_add] at hlz
      change wpAny _ _ _ _ _ _
      k_steps
      all_goals (
        rename (_ ∧ _ ∧ _ ∧ AllLt _ tl) => l8
        rename News h₀ L _ _ => N8
        rename Fr h₀ L _ _ => F8)
      · exact deed_fin (d := .read) N8 l8 F8 ⟨_, _, rfl, _, _, .inr (.head _), rfl, rfl⟩ (by omega) (by omega) ret
      · exact deed_fin (d := .write (byteArr zs)) N8 l8 F8 ⟨_, _, _, rfl, ⟨_, _, .inr (.head _), rfl, rfl⟩, ⟨_, rfl⟩, by rw [byteArr_size]; omega⟩ (by omega) (by omega) ret
      · exact deed_fin (d := .rewrite (byteArr zs)) N8 l8 F8 ⟨_, _, _, rfl, ⟨_, _, .inr (.head _), rfl, rfl⟩, ⟨_, rfl⟩, by rw [byteArr_size]; omega⟩ (by omega) (by omega) ret
      · exact deed_fin (d := .rewrite al) N8 l8 F8 ⟨_, _, _, rfl, ⟨_, _, .inr (.head _), rfl, rfl⟩, ⟨_, rfl⟩, hal⟩ (by omega) (by omega) ret
end
end
section
open PySem.Calls PySem.Spec
set_option maxHeartbeats 4000000
section
open PySem.SeqAt
theorem eq_nil {prog : Program} {w : World} {A : Around} {E : Value → Shared → Prop} {s : Shared} {Q : Value → Shared → Prop} {a b : Addr} {vs : List Value} (ha : s.heap.IsList a vs.toArray) (hb : s.heap.IsList b #[]) (hu : A.units < cLine) (hq : Q (.bool vs.isEmpty) s) :
    wpAny (model prog w) A (compareOp .Eq (.ref a) (.ref b)) Q E s := by
  cases vs with
  | nil => exact rc_lsts ha hb rfl hu (fun j h1 => absurd h1 (Nat.not_lt_zero _)) prog w E Q hq
  | cons v vs => exact RcAt.lists_lengths ha hb (by simp) hu prog w E Q hq
end
section
set_option hygiene false in
local macro_rules | `(tactic| walk_at "compareOp Eq ref ref") => `(tactic| (k_here; (walk_at "u:cmp Eq"); k_dflt (refine eq_nil (News.isList (by assumption) (by k_mem)) (News.isList (by assumption) (by k_mem)) (by ktr_units) ?_)))
variable {prog : Program} {w : World} {p : Program} {loose : List Str} {mean : ExcName → Option Value} {mg mb : Str → Option Value} {dp un : Nat} {gd : Option (List Code)} {cn : Str} {cs : Scope} {L a : Addr} {ccd : Value} {cl : List (Str × Addr)} {outer : List Env}
    {A₀ : Around} {base h₀ : Heap} {m : Str → Option Value} {tl : List (Addr × Obj)} {s : Shared} {Q E : Value → Shared → Prop}
theorem taker_end {f c' pl ac cc cp L' : Addr} {fo oc oC oP : Obj} {doc pm ctv : Value} {cvs : Array Value} {ct : Tok} {vs : List Value} {ns : List Int} {n nn : Nat} {tk : Tok} {ps : Array Value} {h' : Heap} {tks : Nat} {qual : Str} (r1 : List (Addr × Obj))
    (N : News h₀ L h' ((f, fo) :: (c', oc) :: (pl, listOf #[.int 0 tk] n) :: (r1 ++ tl))) (hfo : fo = fnMade (Str.ofString "take") qual (fArgs takeStmt) (fBody takeStmt) (fScope takeStmt) [(Str.ofString "place", cp), (Str.ofString "cells", cc)] doc pm c' ctv) (hqual : qual = takeQual) (d1 : oc.data = .fields cvs) (d2 : cvs[1]? = some (.str qual ct)) (hcc : (cc, oC) ∈ r1) (dC : oC.data = .cell (some (.ref ac))) (hcp : (cp, oP) ∈ r1) (dP : oP.data = .cell (some (.ref pl)))
    (hac : (ac, listOf vs.toArray nn) ∈ r1) (hI : IntsAre vs ns) (h0 : 0 < ns.length) (h63 : ns.length ≤ 63) (lf : @LT.lt Nat _ c' f) (lc : @LT.lt Nat _ pl c') (lp : AllLt pl (r1 ++ tl)) (htab : (133, tabObj ps) ∈ r1) (F : Fr h₀ L h' m)
    (hL : AllLt L' tl) (hoff : OwnOff tl [133]) (hr1 : ∀ p ∈ r1, @Eq Nat p.1 133 ∨ @LT.lt Nat _ L' p.1) (hpl : @LT.lt Nat _ L' pl)
    (ret : ∀ q ap t n' ps tn h' tks, TakeIn tn q ap → OwnOff tn (ap :: tl.map (·.1)) → (∀ p ∈ tl, p.1 ≠ ap) → (133, tabObj ps) ∈ tn → Fr h₀ L h' m → News h₀ L h' ((ap, listOf #[.int 0 t] n') :: (tn ++ tl)) → Q (.ref q) { s with heap := h', toks := tks }) : Q (.ref f) { s with heap := h', toks := tks } := by
  subst hqual
  subst hfo
  have hlp := allLt_off lp
  have hlL := allLt_off hL
  have fresh : ∀ a, L' < a → ∀ b ∈ tl.map (·.1), a ≠ b := fun a ha b hb => by
    obtain ⟨z, hz, rfl⟩ := List.mem_map.mp hb
    exact Nat.ne_of_gt (Nat.lt_trans (hlL z hz) ha)
  refine ret f pl tk n ps ((f, takeObj cc cp c' doc pm ctv) :: (c', oc) :: r1) h' tks ⟨⟨cc, cp, c', ac, doc, pm, ctv, oc, oC, oP, cvs, ct, nn, vs, ns, .head _, .tail _ (.head _), d1, d2, .tail _ (.tail _ hcc), dC, .tail _ (.tail _ hcp), dP, .tail _ (.tail _ hac), hI, h0, h63⟩⟩ ?_
    (fun p hp => Nat.ne_of_lt (hlp p (List.mem_append_right _ hp))) (.tail _ (.tail _ htab)) F fun p hp => N p ?_
  · intro x hx b hb
    rcases List.mem_cons.mp hb with rfl | hb
    · rcases List.mem_cons.mp hx with rfl | hx
      · exact Nat.ne_of_gt (Nat.lt_trans lc lf)
      · rcases List.mem_cons.mp hx with rfl | hx
        · exact Nat.ne_of_gt lc
        · exact Nat.ne_of_lt (hlp x (List.mem_append_left _ hx))
    · rcases List.mem_cons.mp hx with rfl | hx
      · exact fresh _ (Nat.lt_trans hpl (Nat.lt_trans lc lf)) b hb
      · rcases List.mem_cons.mp hx with rfl | hx
        · exact fresh _ (Nat.lt_trans hpl lc) b hb
        · rcases hr1 x hx with e | e
          · obtain ⟨z, hz, rfl⟩ := List.mem_map.mp hb
            intro q
            exact hoff z hz 133 (.head _) (q.symm.trans e)
          · exact fresh _ e b hb
  · rcases List.mem_cons.mp hp with rfl | hp
    · exact .tail _ (.tail _ (.head _))
    · rcases List.mem_cons.mp hp with rfl | hp
      · exact .head _
      · rcases List.mem_cons.mp hp with rfl | hp
        · exact .tail _ (.head _)
        · exact .tail _ (.tail _ (.tail _ hp))
theorem taker_c {l : Addr} {ws : List Value} {ns : List Int}
    (B : Below A₀ base outer h₀) (F : Fr h₀ L s.heap m) (X : (Mine.hd.heap_39 w.params).In h₀) (N : News h₀ L s.heap ((133, tabObj #[]) :: tl)) (T : Top p loose mean mg mb h₀) (hk : cs.kind = .function)
    (hcode : CodeHd base 137 133) (hl : base.IsList l ws.toArray) (hI : IntsAre ws ns) (hlen : ¬ ((63 : Nat) : Int) < (ns.length : Int)) (hoff : OwnOff tl [133]) (hdp : dp + 10 < recursionLimit) (hu : un + 64 < cLine)
    (ret : ∀ q ap t n' ps tn h' tks, TakeIn tn q ap → OwnOff tn (ap :: tl.map (·.1)) → (∀ p ∈ tl, p.1 ≠ ap) → (133, tabObj ps) ∈ tn → Fr h₀ L h' m → News h₀ L h' ((ap, listOf #[.int 0 t] n') :: (tn ++ tl)) → Q (.ref q) { s with heap := h', toks := tks }) :
    wpAny (model prog w) (ktrTop dp un gd cn cs L a ccd cl outer) (call (.ref 138) [.ref l]) Q E s := by
  refine wpAny_call ?_
  (refine' code_defC ?k1 ?k2 ?k3 ?k4 ?k5 ?kA ?kF ?kK ?k6 ?k7 ?k8 ?k9 ?kB ?kD ?_ ?c2 ?c3 ?c4; (case kA => exact rfl); (case kF => exact rfl); (case kK => assumption); (case k1 => k_asm); (case k2 => k_asm); (case k3 => k_asm); (case k4 => k_asm); (case k5 => k_asm); (case k6 => k_is); (case k7 => k_is); (case k8 => ktr_room); (case k9 => exact BindsTo.of_eq rfl); (case kB => exact rfl); (case kD => decide +kernel); (case c2 => exact rfl); (case c3 => exact rfl); (case c4 => exact rfl); k_whole)
  intro g' L' h' tk' cells' FG' F' N' Y' B' X' T' l1
  have hoL := off_lt1 l1
  (try k_lt l1)
  k_cells Y'
  (try simp only [List.cons_append, List.nil_append] at N')
  (try dsimp only)
  (try k_lift B')
  (try k_fold)
  have o1 : OwnOff tl [133, L' + 1, L' + 1 + 1] := by
    intro x hx b hb
    have hxl := allLt_off l1.2 x hx
    rcases List.mem_cons.mp hb with rfl | hb
    · exact hoff x hx _ (.head _)
    · rcases List.mem_cons.mp hb with rfl | hb
      · exact Nat.ne_of_lt (Nat.lt_succ_of_lt hxl)
      · rw [List.mem_singleton.mp hb]; exact Nat.ne_of_lt (Nat.lt_succ_of_lt (Nat.lt_succ_of_lt hxl))
  clear hoL
  have hoff9 := hoff
  have hL9 := l1.2
  clear hoff
  have o1' := o1
  k_steps
  all_goals (
    rename News h₀ L _ _ => N8
    rename Fr h₀ L _ _ => F8
    rename IntsAre _ (List.take 40 ns) => hI2
    have hl2 := hI2.length
    rename _ ∧ _ => lc
    replace lc := lc.1
    rename _ ∧ _ => lp)
  · exact taker_end [_, _, _, _, _, _] N8 rfl (by kernel_rfl) (by assumption) (by assumption) (by k_mem) (by assumption) (by k_mem) (by assumption) (by k_mem) (vs := [.int 1 _]) (.cons 1 _ .nil) (by decide) (by decide) (by assumption) lc lp (by k_mem) F8 hL9 hoff9 (by (repeat' (refine List.forall_mem_cons.mpr ⟨?_, ?_⟩)); all_goals first | exact List.forall_mem_nil _ | exact .inl rfl | (refine .inr ?_; dsimp only; omega)) (by omega) ret
  · exact taker_end [_, _, _, _, _] N8 rfl (by kernel_rfl) (by assumption) (by assumption) (by k_mem) (by assumption) (by k_mem) (by assumption) (by k_mem) hI2 (by have := hI2.length; rename List.isEmpty _ = false => he; cases hw : List.take 40 ns with | nil => rw [hw] at this hI2; cases hI2; simp at he | cons a b => simp) (by rw [List.length_take]; omega) (by assumption) lc lp (by k_mem) F8 hL9 hoff9 (by (repeat' (refine List.forall_mem_cons.mpr ⟨?_, ?_⟩)); all_goals first | exact List.forall_mem_nil _ | exact .inl rfl | (refine .inr ?_; dsimp only; omega)) (by omega) ret
end
end
section
open PySem.Calls PySem.Spec
set_option maxHeartbeats 4000000
noncomputable def rdRow : Value → Option Bt
  | .bytes b _ => if b.size < 1000 then some b else none
  | _ => none
noncomputable def rdSeq (K : Frag) (a : Addr) : Option (List Value) :=
  match K.lookup a with
  | some o => if o.cls = .type "tuple" then (match o.data with | .seq its _ => some its.toList | _ => none) else none
  | none => none
noncomputable def rdDeed (K : Frag) : Value → Option Deed
  | .ref a => match rdSeq K a with
    | some [.str x _] => if x = Str.ofString "read" then some .read else none
    | some [.str x _, u] => match rdRow u with
      | some b => if x = Str.ofString "write" then some (.write b) else if x = Str.ofString "rewrite" then some (.rewrite b) else none
      | none => none
    | _ => none
  | _ => none
noncomputable def ansName (x : Str) : Option String := ["00", "10", "46", "47", "43", "44", "48", "49"].find? fun y => decide (Str.ofString y = x)
noncomputable def rdAns (K : Frag) : Value → Option Ans
  | .str x _ => (ansName x).map .s
  | .ref a => match rdSeq K a with
    | some [.str x _, u] => match rdRow u, ansName x with
      | some b, some y => some (.p y b)
      | _, _ => none
    | _ => none
  | _ => none
noncomputable def ansEq : Ans → Ans → Bool
  | .s x, .s y => decide (x = y)
  | .p x b, .p y c => decide (x = y) && decide (b = c)
  | _, _ => false
theorem ansEq_eq : ∀ {a b : Ans}, ansEq a b = true → a = b
  | .s x, .s y, h => by simp [ansEq] at h; rw [h]
  | .p x b, .p y c, h => by simp [ansEq] at h; rw [h.1, h.2]
  | .s _, .p _ _, h => by simp [ansEq] at h
  | .p _ _, .s _, h => by simp [ansEq] at h
noncomputable def allEq : List Ans → List Ans → Bool
  | [], [] => true
  | a :: r, b :: q => ansEq a b && allEq r q
  | _, _ => false
theorem allEq_eq : ∀ {a b : List Ans}, allEq a b = true → a = b
  | [], [], _ => rfl
  | a :: r, b :: q, h => by
    simp only [allEq, Bool.and_eq_true] at h
    rw [ansEq_eq h.1, allEq_eq h.2]
  | [], _ :: _, h => by simp [allEq] at h
  | _ :: _, [], h => by simp [allEq] at h
noncomputable def rdAll {α : Type} (f : Value → Option α) : List Value → Option (List α)
  | [] => some []
  | v :: r => match f v, rdAll f r with
    | some d, some q => some (d :: q)
    | _, _ => none
theorem rdAll_each {α : Type} {R : Value → α → Prop} {f : Value → Option α} (h : ∀ v d, f v = some d → R v d) : ∀ {vs : List Value} {ds : List α}, rdAll f vs = some ds → Each R vs ds
  | [], ds, e => by simp [rdAll] at e; subst e; exact .nil
  | v :: r, ds, e => by
    unfold rdAll at e
    split at e
    · rename_i d q h1 h2
      cases e
      exact (Each.one (h v d h1)).append (rdAll_each h h2)
    · cases e
section
variable {K : Frag} {g : Heap} {tl : List (Addr × Obj)}
theorem rdRow_ok {v : Value} {b : Bt} (e : rdRow v = some b) : RowV v b := by
  unfold rdRow at e
  split at e
  · split at e
    · cases e; exact ⟨⟨_, rfl⟩, by assumption⟩
    · cases e
  · cases e
theorem rdSeq_ok {a : Addr} {vs : List Value} (X : K.In g) (e : rdSeq K a = some vs) : SqAt "tuple" g tl a vs.toArray := by
  unfold rdSeq at e
  split at e
  · rename_i o ho
    split at e
    · rename_i hc
      split at e
      · rename_i its n hd
        cases e
        exact ⟨o, n, .inl (X _ _ ho), hc, by rw [hd]⟩
      · cases e
    · cases e
  · cases e
theorem rdDeed_ok (X : K.In g) (v : Value) (d : Deed) (e : rdDeed K v = some d) : DeedV g tl v d := by
  unfold rdDeed at e
  split at e
  · rename_i a
    split at e
    · rename_i x t hs
      split at e
      · rename_i hx
        cases e
        subst hx
        exact ⟨a, t, rfl, rdSeq_ok X hs⟩
      · cases e
    · rename_i x t u hs
      split at e
      · rename_i b hb
        split at e
        · rename_i hx
          cases e
          subst hx
          exact ⟨a, t, u, rfl, rdSeq_ok X hs, rdRow_ok hb⟩
        · split at e
          · rename_i hx
            cases e
            subst hx
            exact ⟨a, t, u, rfl, rdSeq_ok X hs, rdRow_ok hb⟩
          · cases e
      · cases e
    · cases e
  · cases e
theorem ansName_ok {x : Str} {y : String} (e : ansName x = some y) : Str.ofString y = x := by
  unfold ansName at e
  exact of_decide_eq_true (List.find?_some (p := fun y => decide (Str.ofString y = x)) e)
theorem rdAns_ok (X : K.In g) (v : Value) (d : Ans) (e : rdAns K v = some d) : AnsV g tl v d := by
  unfold rdAns at e
  split at e
  · rename_i x t
    cases hn : ansName x with
    | none => rw [hn] at e; cases e
    | some y =>
      rw [hn] at e
      cases e
      exact ⟨t, by rw [ansName_ok hn]⟩
  · rename_i a
    split at e
    · rename_i x t u hs
      split at e
      · rename_i b y hb hn
        cases e
        refine ⟨a, t, u, rfl, ?_, rdRow_ok hb⟩
        rw [ansName_ok hn]
        exact rdSeq_ok X hs
      · cases e
    · cases e
  · cases e
end
noncomputable def rowsEq : List Bt → List Bt → Bool
  | [], [] => true
  | a :: r, b :: q => decide (a = b) && rowsEq r q
  | _, _ => false
theorem rowsEq_eq : ∀ {a b : List Bt}, rowsEq a b = true → a = b
  | [], [], _ => rfl
  | a :: r, b :: q, h => by
    simp only [rowsEq, Bool.and_eq_true, decide_eq_true_eq] at h
    rw [h.1, rowsEq_eq h.2]
  | [], _ :: _, h => by simp [rowsEq] at h
  | _ :: _, [], h => by simp [rowsEq] at h
noncomputable def sessOk (K : Frag) (md : Md) (ab ad au ae : Addr) : Bool :=
  match rdSeq K ab, rdSeq K ad, rdSeq K au, rdSeq K ae with
  | some vb, some vd, some vu, some ve => (match rdAll rdRow vb, rdAll (rdDeed K) vd, rdAll (rdAns K) vu, rdAll rdRow ve with
    | some rows, some ds, some us, some es => allEq us (frun md (fopen md rows) ds).1 && rowsEq es (frun md (fopen md rows) ds).2.rows && decide (rows.length < 100) && decide (ds.length < 100)
    | _, _, _, _ => false)
  | _, _, _, _ => false
section
variable {prog : Program} {w : World} {p : Program} {loose : List Str} {mean : ExcName → Option Value} {mg mb : Str → Option Value} {dp un : Nat} {gd : Option (List Code)} {cn : Str} {cs : Scope} {L a : Addr} {ccd : Value} {cl : List (Str × Addr)} {outer : List Env}
    {A₀ : Around} {base h₀ : Heap} {m : Str → Option Value} {tl : List (Addr × Obj)} {s : Shared} {Q E : Value → Shared → Prop}
theorem sess_w {md : Md} {tm : Tok} {ab ad au ae : Addr}
    (B : Below A₀ base outer h₀) (F : Fr h₀ L s.heap m) (X : (Mine.hd.heap_39 w.params).In h₀) (N : News h₀ L s.heap tl) (T : Top p loose mean mg mb h₀) (hk : cs.kind = .function)
    (ok : sessOk (Mine.hd.heap_39 w.params) md ab ad au ae = true) (hsl : 1000 ≤ sizeLine) (hdp : dp + 10 < recursionLimit) (hu : un + 64 < cLine)
    (ret : ∀ h' tks, Fr h₀ L h' m → News h₀ L h' tl → Q (.bool true) { s with heap := h', toks := tks }) :
    wpAny (model prog w) (ktrTop dp un gd cn cs L a ccd cl outer) (call (.ref 164) [.str (mdStr md) tm, .ref ab, .ref ad, .ref au, .ref ae]) Q E s := by
  unfold sessOk at ok
  split at ok
  · rename_i vb vd vu ve h1 h2 h3 h4
    split at ok
    · rename_i rows ds us es k1 k2 k3 k4
      simp only [Bool.and_eq_true, decide_eq_true_eq] at ok
      obtain ⟨⟨⟨e1, e2⟩, e3⟩, e4⟩ := ok
      have e1' := allEq_eq e1
      have e2' := rowsEq_eq e2
      exact sess_c (.inr rfl) B F X N T hk (rdSeq_ok X h1) (rdAll_each (fun v d => rdRow_ok) k1) (rdSeq_ok X h2) (rdAll_each (rdDeed_ok X) k2) (rdSeq_ok X h3) (e1' ▸ rdAll_each (rdAns_ok X) k3) (rdSeq_ok X h4) (e2' ▸ rdAll_each (fun v d => rdRow_ok) k4) e3 e4 hsl hdp hu ret
    · cases ok
  · cases ok
end
end
section
open PySem.Calls PySem.Spec
set_option maxHeartbeats 4000000
section
variable {prog : Program} {w : World} {A : Around} {E : Value → Shared → Prop} {s : Shared} {h₀ : Heap} {L : Addr} {m : Str → Option Value} {env : Env}
theorem filt_rest {ct elt : PySem.Expr} {x : Str} {scope : Scope} {cl : List (Str × Addr)} {S : List (Addr × Obj) → Prop} {P : Nat → Value → Prop} {Fin : List Value → List (Addr × Obj) → Prop} {news : List (Addr × Obj)} (hS : S news)
    (turn : ∀ i v I oI C oC D m₂ ys h tk (E' KT KF : Value → Shared → Prop), P i v → LCg.NsObj oC m₂ → m₂ x = some v → Fr h₀ L h m → News h₀ L h ((I, oI) :: (C, oC) :: (D, LCg.lst ys) :: news) →
      (∀ y h' tk', Fr h₀ L h' m → News h₀ L h' ((I, oI) :: (C, oC) :: (D, LCg.lst ys) :: news) → KT y { s with heap := h', toks := tk' }) → (∀ h' tk', Fr h₀ L h' m → News h₀ L h' ((I, oI) :: (C, oC) :: (D, LCg.lst ys) :: news) → KF .none { s with heap := h', toks := tk' }) →
      wpAny (model prog w) A (isTrue ct (compEnvC scope cl C env) (eval ct (compEnvC scope cl C env))) (fun ok s' => if ok = true then wpAny (model prog w) A (eval elt (compEnvC scope cl C env)) KT E' s' else KF Value.none s') E' { s with heap := h, toks := tk }) :
    ∀ (j i : Nat) (ys : List Value), (∀ ys', ys'.length ≤ ys.length + j → Fin ys' news) → LCt.CompRestT prog w A h₀ L m env ct elt x scope cl s S P Fin j i ys news := by
  intro j
  induction j with
  | zero => intro i ys fin; exact LCt.CompRestT.zero (fin ys (Nat.le_refl _))
  | succ j ih =>
    intro i ys fin
    refine LCt.CompRestT.succ ?_
    intro v I oI C oC D m₂ h tk E' hv hC hx F N off ne
    refine turn i v I oI C oC D m₂ ys h tk E' _ _ hv hC hx F N (fun y h' tk' F' N' => ?_) fun h' tk' F' N' => ?_
    · exact LCg.CompEnd.intro F' N' news (fun _ hp => hp) off hS (ih (i + 1) (ys ++ [y]) fun ys' hl => fin ys' (by rw [List.length_append, List.length_singleton] at hl; omega))
    · exact LCg.CompEnd.intro F' N' news (fun _ hp => hp) off hS (ih (i + 1) ys fun ys' hl => fin ys' (by omega))
noncomputable def SrcB (prog : Program) (w : World) (A : Around) (h₀ : Heap) (L : Addr) (m : Str → Option Value) (env : Env) (elt : PySem.Expr) (x : Str) (scope : Scope) (cl : List (Str × Addr)) (Fin : Shared → List Value → List (Addr × Obj) → Prop) (xv : Value) (s₁ : Shared) : Prop :=
  ∃ b t news, xv = .bytes b t ∧ A.handled = none ∧ Fr h₀ L s₁.heap m ∧ News h₀ L s₁.heap news ∧ b.size ≤ sizeLine ∧
    ∀ s₂ : Shared, (∃ h, s₂ = { s₁ with heap := h }) → LCg.CompRest prog w A h₀ L m env elt x scope cl s₂ (fun _ => True) (fun i v => ∃ c u, b[i]? = some c ∧ v = .int (c.toNat : Int) u) (Fin s₂) b.size 0 [] news
theorem bytes_st {I : Addr} {b : Bt} {t : Tok} : ∀ i (h h' : Heap) (o : Obj) (nw : List (Addr × Obj)), KBw.IsBytesIter h I b t i → h.get? I = some o → h'.get? I = some o → (∀ b o, h₀.get? b = some o → h'.get? b = some o) → News h₀ L h' nw → True → KBw.IsBytesIter h' I b t i :=
  fun i h h' o nw st e e' k N S => by obtain ⟨o', q, r⟩ := st; rw [e] at q; cases q; exact ⟨o, e', r⟩
theorem ListComp_B {elt iter : PySem.Expr} {x : Str} {px : Pos} {scope : Scope} {cl : List (Str × Addr)} {pos : Pos} {Q : Value → Shared → Prop} (F₀ : Fr h₀ L s.heap m)
    (hclos : closureFor scope env = pure cl) (hcell : ∀ y ∈ scope.names, y.2 ≠ .cell) (hkind : scope.kind = .function)
    (hnames : ∀ y ∈ scope.names, y.2 = .local → scope.names.lookup y.1 = some .local) (hx : scope.names.lookup x = some .local)
    (h : wpAny (model prog w) A (eval iter env) (SrcB prog w A h₀ L m env elt x scope cl (fun s₂ => LCg.FinE h₀ L m s₂ Q)) E s)
    (hs : ∀ x, foldedSetIterable iter env x = pure x := by intro _; rfl) :
    wpAny (model prog w) A (eval (.ListComp elt [⟨.Name x px, iter, [], 0⟩] scope pos) env) Q E s := by
  rw [eval_ListComp]
  refine wpAny_comprehension_free (use := none) rfl hs hclos hkind hnames (wpAny_mono h (fun xv s₁ h₁ => ?_) fun _ _ e => e)
  obtain ⟨b, t, news, rfl, hh, F, N, hsz, R⟩ := h₁
  refine KBw.pyIter_bytes ?_
  have up : ∀ c o, s₁.heap.get? c = some o → (s₁.heap.push { cls := .type "bytes_iterator", data := .fields #[.bytes b t, .int 0 0] }).get? c = some o := fun c o e => Heap.get?_push_of_some _ e
  refine LCg.block_U (KBw.walks hh s₁.heap.objs.size b t) hsz (fun i h st => by obtain ⟨o, e, _⟩ := st; exact ⟨o, e⟩) bytes_st hcell hkind hx ⟨_, Heap.get?_push_size _ rfl, rfl, rfl⟩ (fun c hc => ?_)
    (F.keeps up) (N.grown up) (Nat.ne_of_lt F.ns.lt) (next_is_new F) (fun p hp => Nat.ne_of_lt (Heap.lt_size (N p hp).1)) trivial (R _ ⟨_, rfl⟩) ?_
  · show c < (s₁.heap.push _).objs.size
    rw [Heap.size_push, List.mem_singleton.mp hc]
    exact Nat.lt_succ_self _
  · intro D C h tk m' ys news' F' N' o1 hn hC₀ hD₀ hCL hDL hCD offC fin
    refine ⟨m', hn, fun h'' hs'' => fin D h'' tk (F'.change hs'' hCL hC₀) (fun p hp => ?_) o1⟩
    refine ⟨hs''.extBut _ _ ?_ (N' p hp).1, (N' p hp).2⟩
    rcases List.mem_cons.mp hp with rfl | hp
    · exact Ne.symm hCD
    · exact offC p hp
end
section
variable {prog : Program} {w : World} {A : Around} {s : Shared} {h₀ : Heap} {L : Addr} {m : Str → Option Value} {env : Env} {elt : PySem.Expr} {x : Str} {scope : Scope} {cl : List (Str × Addr)} {P : Nat → Value → Prop} {Fin : List Value → List (Addr × Obj) → Prop}
  {ap : Addr} {tl : List (Addr × Obj)}
theorem rows_rest (hoff : OwnOff tl [ap])
    (turn : ∀ (k : Int) (tk : Tok) (n : Nat) (tl2 : List (Addr × Obj)) (C : Addr) (oC : Obj) (h : Heap) (tk0 : Tok) (Q' E' : Value → Shared → Prop), 0 ≤ k → k < 300 → (∀ p ∈ tl, p ∈ tl2) → OwnOff tl2 [ap] → (C, oC) ∈ tl2 → Fr h₀ L h m → News h₀ L h ((ap, listOf #[.int k tk] n) :: tl2) →
      (∀ v b k' tk' n' h' tks, RowV v b → k ≤ k' → k' ≤ k + 4 → Fr h₀ L h' m → News h₀ L h' ((ap, listOf #[.int k' tk'] n') :: tl2) → Q' v { s with heap := h', toks := tks }) →
      wpAny (model prog w) A (eval elt (compEnvC scope cl C env)) Q' E' { s with heap := h, toks := tk0 }) :
    ∀ (j i : Nat) (ys : List Value) (rows : List Bt) (k : Int) (tk : Tok) (n : Nat), Each RowV ys rows → 0 ≤ k → k + 4 * j < 300 →
      (∀ ys' rows' k' tk' n', Each RowV ys' rows' → rows'.length = rows.length + j → k ≤ k' → k' ≤ k + 4 * j → Fin ys' ((ap, listOf #[.int k' tk'] n') :: tl)) →
      LCg.CompRest prog w A h₀ L m env elt x scope cl s (fun _ => True) P Fin j i ys ((ap, listOf #[.int k tk] n) :: tl) := by
  intro j
  induction j with
  | zero =>
    intro i ys zs k tk n hi h0 hk fin
    exact LCg.CompRest.zero (fin ys zs k tk n hi rfl (Int.le_refl _) (by omega))
  | succ j ih =>
    intro i ys zs k tk n hi h0 hk fin
    refine LCg.CompRest.succ ?_
    intro v I0 oI C oC D m₂ h tk0 E' hv hC hx F N off ne
    have offm := off.mem
    have hap := offm _ (.head _)
    have o2 : OwnOff ((I0, oI) :: (C, oC) :: (D, LCg.lst ys) :: tl) [ap] := by
      intro q hq b hb
      rw [List.mem_singleton.mp hb]
      rcases List.mem_cons.mp hq with rfl | hq
      · exact Ne.symm hap.1
      · rcases List.mem_cons.mp hq with rfl | hq
        · exact Ne.symm hap.2.1
        · rcases List.mem_cons.mp hq with rfl | hq
          · exact Ne.symm hap.2.2
          · exact hoff q hq ap (.head _)
    refine turn k tk n ((I0, oI) :: (C, oC) :: (D, LCg.lst ys) :: tl) C oC h tk0 _ E' h0 (by omega) (fun p hp => .tail _ (.tail _ (.tail _ hp))) o2 (.tail _ (.head _)) F (fun p hp => N p ?_) ?_
    · rcases List.mem_cons.mp hp with rfl | hp
      · exact .tail _ (.tail _ (.tail _ (.head _)))
      · rcases List.mem_cons.mp hp with rfl | hp
        · exact .head _
        · rcases List.mem_cons.mp hp with rfl | hp
          · exact .tail _ (.head _)
          · rcases List.mem_cons.mp hp with rfl | hp
            · exact .tail _ (.tail _ (.head _))
            · exact .tail _ (.tail _ (.tail _ (.tail _ hp)))
    · intro r bb k' tk' n' h' tks hr0 hk1 hk2 F' N'
      refine LCg.CompEnd.intro F' N' ((ap, listOf #[.int k' tk'] n') :: tl) ?_ ?_ True.intro ?_
      · intro p hp
        rcases List.mem_cons.mp hp with rfl | hp
        · exact .tail _ (.head _)
        · rcases List.mem_cons.mp hp with rfl | hp
          · exact .tail _ (.tail _ (.head _))
          · rcases List.mem_cons.mp hp with rfl | hp
            · exact .tail _ (.tail _ (.tail _ (.head _)))
            · rcases List.mem_cons.mp hp with rfl | hp
              · exact .head _
              · exact .tail _ (.tail _ (.tail _ (.tail _ hp)))
      · refine LCg.Off3.of fun p hp => ?_
        rcases List.mem_cons.mp hp with rfl | hp
        · exact hap
        · exact offm p (.tail _ hp)
      · refine ih (i + 1) (ys ++ [r]) (zs ++ [bb]) k' tk' n' (hi.snoc hr0) (by omega) (by omega) ?_
        intro ys' zs' k2 tk2 n2 a1 a2 a3 a4
        exact fin ys' zs' k2 tk2 n2 a1 (by rw [a2, List.length_append, List.length_singleton]; omega) (by omega) (by omega)
end
end
section
open PySem.Calls PySem.Spec
set_option maxHeartbeats 4000000
theorem news_last {g h : Heap} {L : Addr} {a c : Addr × Obj} {tn : List (Addr × Obj)} (N : News g L h (a :: (tn ++ [c]))) : News g L h (c :: a :: tn) := fun p hp => N p (by
  rcases List.mem_cons.mp hp with rfl | hp
  · exact .tail _ (List.mem_append_right _ (.head _))
  · rcases List.mem_cons.mp hp with rfl | hp
    · exact .head _
    · exact .tail _ (List.mem_append_left _ hp))
theorem unr_end {h₀ h' : Heap} {L i : Addr} {o : Obj} {tl' : List (Addr × Obj)} {m' : Str → Option Value} {s₁ : Shared} {tk : Nat} {rest : (Str → Option Value) → List (Addr × Obj) → Prop} (F : Fr h₀ L h' m') (N : News h₀ L h' ((i, o) :: tl')) (l : AllLt i tl') (r : rest m' tl') :
    UnrEndW h₀ L s₁ [(i, o)] rest { s₁ with heap := h', toks := tk } :=
  ⟨h', tk, m', tl', rfl, F, N, fun p hp q hq => by rw [List.mem_singleton.mp hq]; exact Nat.ne_of_lt (allLt_off l p hp), r⟩
theorem mode_item {prog : Program} {w : World} {A : Around} {E : Value → Shared → Prop} {s : Shared} {value slice : PySem.Expr} {l : Addr} {k : Int} {u t1 t2 t3 t4 t5 : Tok} {Q : Value → Shared → Prop}
    (hl : IsTup s.heap l #[.str (Str.ofString "i-o") t1, .str (Str.ofString "input") t2, .str (Str.ofString "i-o") t3, .str (Str.ofString "output") t4, .str (Str.ofString "extend") t5]) (h0 : 0 ≤ k) (h1 : k < 5) (h : ∀ (md : Md) (t : Tok), Q (.str (mdStr md) t) s)
    (hs : subscripted slice false (.ref l) (.int k u) = operate [.ref l, .int k u] (getItem (.ref l) (.int k u)) := by with_unfolding_all rfl) (hg : ∀ r, letTemporaryGo value (.ref l) r = pure () := by intro _; with_unfolding_all rfl) :
    wpAny (model prog w) A (subscriptTail value slice (.ref l) (.int k u)) Q E s := by
  have hk : k = 0 ∨ k = 1 ∨ k = 2 ∨ k = 3 ∨ k = 4 := by omega
  rcases hk with rfl | rfl | rfl | rfl | rfl
  · exact item_tuple (j := 0) hl (by omega) (by decide) (seqIndex_of (by decide) (by show (_ : Int) < ((5 : Nat) : Int); decide)) (by rfl) (h .io t1) hs hg
  · exact item_tuple (j := 1) hl (by omega) (by decide) (seqIndex_of (by decide) (by show (_ : Int) < ((5 : Nat) : Int); decide)) (by rfl) (h .inp t2) hs hg
  · exact item_tuple (j := 2) hl (by omega) (by decide) (seqIndex_of (by decide) (by show (_ : Int) < ((5 : Nat) : Int); decide)) (by rfl) (h .io t3) hs hg
  · exact item_tuple (j := 3) hl (by omega) (by decide) (seqIndex_of (by decide) (by show (_ : Int) < ((5 : Nat) : Int); decide)) (by rfl) (h .out t4) hs hg
  · exact item_tuple (j := 4) hl (by omega) (by decide) (seqIndex_of (by decide) (by show (_ : Int) < ((5 : Nat) : Int); decide)) (by rfl) (h .ext t5) hs hg
theorem mode_news {prog : Program} {w : World} {A : Around} {E : Value → Shared → Prop} {s : Shared} {value slice : PySem.Expr} {l : Addr} {k : Int} {u t1 t2 t3 t4 t5 : Tok} {Q : Value → Shared → Prop} {h₀ : Heap} {L : Addr} {news : List (Addr × Obj)} {its : Array Value} {n : Nat} (N : News h₀ L s.heap news) (hm : (l, ({ cls := .type "tuple", data := .seq its n } : Obj)) ∈ news)
    (hi : its = #[.str (Str.ofString "i-o") t1, .str (Str.ofString "input") t2, .str (Str.ofString "i-o") t3, .str (Str.ofString "output") t4, .str (Str.ofString "extend") t5]) (h0 : 0 ≤ k) (h1 : k < 5) (h : ∀ (md : Md) (t : Tok), Q (.str (mdStr md) t) s)
    (hs : subscripted slice false (.ref l) (.int k u) = operate [.ref l, .int k u] (getItem (.ref l) (.int k u)) := by with_unfolding_all rfl) (hg : ∀ r, letTemporaryGo value (.ref l) r = pure () := by intro _; with_unfolding_all rfl) :
    wpAny (model prog w) A (subscriptTail value slice (.ref l) (.int k u)) Q E s := mode_item (hi ▸ N.isTup hm) h0 h1 h hs hg
theorem ex_cell1 {g h : Heap} {L c : Addr} {o : Obj} {v : Value} {p1 : Addr × Obj} {tl : List (Addr × Obj)} (d : o.data = .cell (some v)) (N : News g L h (p1 :: (c, o) :: tl)) : ∃ oc : Obj, oc.data = .cell (some v) ∧ News g L h (p1 :: (c, oc) :: tl) := ⟨o, d, N⟩
theorem news_drop {g h : Heap} {L : Addr} {a : Addr × Obj} {tl : List (Addr × Obj)} (N : News g L h (a :: tl)) : News g L h tl := fun p hp => N p (.tail _ hp)
theorem off_cons {a b : Addr} {o : Obj} {tl : List (Addr × Obj)} (e : @Ne Nat a b) (h : OwnOff tl [b]) : OwnOff ((a, o) :: tl) [b] := by
  intro x hx c hc
  rw [List.mem_singleton.mp hc]
  rcases List.mem_cons.mp hx with rfl | hx
  · exact e
  · exact h x hx b (.head _)
structure DeedsJ (g : Heap) (md : Md) (tmd : Tok) (bA dA ap : Addr) (tl0 : List (Addr × Obj)) (k5 : Int) (i : Nat) (m : Str → Option Value) (nx : List (Addr × Obj)) : Prop where
  ex : ∃ (k : Int) (tk : Tok) (n : Nat) (dvs : List Value) (nD : Nat) (ds : List Deed) (tx : List (Addr × Obj)), nx = (dA, listOf dvs.toArray nD) :: (ap, listOf #[.int k tk] n) :: tx ∧ (∀ p ∈ tl0, p ∈ tx) ∧ OwnOff tx [dA, ap] ∧ Each (DeedV g tx) dvs ds ∧ ds.length = i ∧ k5 ≤ k ∧ k ≤ k5 + 5 * i
  m1 : m "mode" = some (.str (mdStr md) tmd)
  m2 : m "begin" = some (.ref bA)
  m3 : m "deeds" = some (.ref dA)
noncomputable def LikeMade (g : Heap) (L : Addr) (m : Str → Option Value) (news : List (Addr × Obj)) (s : Shared) (v : Value) (s' : Shared) : Prop := ∃ b h' tk, RowV v b ∧ s' = { s with heap := h', toks := tk } ∧ Fr g L h' m ∧ News g L h' news
theorem like_step {M : Model} {A : Around} {t : Sem Value} {Q E : Value → Shared → Prop} {s : Shared} {g : Heap} {L : Addr} {m : Str → Option Value} {news : List (Addr × Obj)} (_F : Fr g L s.heap m) (_N : News g L s.heap news) (made : wpAny M A t (LikeMade g L m news s) E s)
    (rest : ∀ v b h' tk, RowV v b → Fr g L h' m → News g L h' news → Q v { s with heap := h', toks := tk }) : wpAny M A t Q E s :=
  wpAny_mono made (fun _ _ ⟨b, h', tk, r, e, F, N⟩ => by subst e; exact rest _ b h' tk r F N) fun _ _ e => e
theorem off_pair {a b : Addr} {tl : List (Addr × Obj)} (h : OwnOff tl [a]) (k : OwnOff tl [b]) : OwnOff tl [a, b] := off_app (as := [a]) h k
theorem swap_bcd {a b c : Addr × Obj} {tl : List (Addr × Obj)} {p : Addr × Obj} (hp : p ∈ a :: c :: b :: tl) : p ∈ a :: b :: c :: tl := by
  rcases List.mem_cons.mp hp with rfl | hp
  · exact .head _
  · rcases List.mem_cons.mp hp with rfl | hp
    · exact .tail _ (.tail _ (.head _))
    · rcases List.mem_cons.mp hp with rfl | hp
      · exact .tail _ (.head _)
      · exact .tail _ (.tail _ (.tail _ hp))
theorem range_D {prog : Program} {w : World} {A : Around} {E : Value → Shared → Prop} {s : Shared} {env : Env} {g : Heap} {x : Str} {body : List Stmt} {Q : Flow → Shared → Prop} {r : Addr} {b₀ : Int} {t₀ u₀ v₀ tmd tk0 : Tok} {n nD0 n0 : Nat} {m₀ : Str → Option Value} {md : Md} {D dL ap c : Addr} {k5 : Int} {oc : Obj} {bvs : List Value} {tn : List (Addr × Obj)}
    (hh : A.handled = none) (hr : IsRange s.heap r 0 b₀ 1 t₀ u₀ v₀) (hsmall : Builtin.Range.small 0 b₀ 1 = true) (hsz : Builtin.Range.rangeSize 0 b₀ 1 = (n : Int)) (F : Fr g env.locals s.heap m₀)
    (N : News g env.locals s.heap ((dL, listOf #[] nD0) :: (D, LCg.lst bvs) :: (ap, listOf #[.int k5 tk0] n0) :: (c, oc) :: tn)) (off : OwnOff ((D, LCg.lst bvs) :: (c, oc) :: tn) [dL, ap])
    (q1 : m₀ "mode" = some (.str (mdStr md) tmd)) (q2 : m₀ "begin" = some (.ref D)) (q3 : m₀ "deeds" = some (.ref dL))
    (turn : ∀ (i : Nat) t m₁ nx h tk own, i < n → OwnOff own (nx.map (·.1)) → DeedsJ g md tmd D dL ap ((D, LCg.lst bvs) :: (c, oc) :: tn) k5 i m₁ nx → Fr g env.locals h (fun y => if y = x then some (.int (i : Int) t) else m₁ y) → News g env.locals h (nx ++ own) →
      wpAny (model prog w) A (execs body env) (InvPostG g env.locals (DeedsJ g md tmd D dL ap ((D, LCg.lst bvs) :: (c, oc) :: tn) k5 (i + 1)) own { s with heap := h, toks := tk } Q) E { s with heap := h, toks := tk })
    (done : ∀ m₁ nx h tk, DeedsJ g md tmd D dL ap ((D, LCg.lst bvs) :: (c, oc) :: tn) k5 n m₁ nx → Fr g env.locals h m₁ → News g env.locals h nx → Q .next { s with heap := h, toks := tk }) :
    wpAny (model prog w) A (pyIter (.ref r)) (fun it s₂ => LoopAtV prog w A g env x body Q E it s₂) E s :=
  range_J (DeedsJ g md tmd D dL ap ((D, LCg.lst bvs) :: (c, oc) :: tn) k5) hh hr hsmall hsz F (fun p hp => N p (swap_bcd hp)) ⟨⟨_, _, _, [], _, [], _, rfl, fun _ h => h, off, .nil, rfl, Int.le_refl _, by omega⟩, q1, q2, q3⟩ turn done
theorem ne_nat {a b : Addr} (h : a ≠ b) : @Ne Nat a b := h
end
section
open PySem.Calls PySem.Spec
set_option maxHeartbeats 4000000
noncomputable def forBody : Stmt → List Stmt
  | .For _ _ b _ _ => b
  | _ => []
noncomputable def lawBody : List Stmt := fBody (topStmt 12)
noncomputable def turnBody : List Stmt := forBody ((lawBody[5]?).getD (.Pass default))
noncomputable abbrev lawEnv (L fa : Addr) (cd : Value) : Env := envOfC (Str.ofString "law") (fScope (topStmt 12)) L fa cd
end
section
open PySem.Calls PySem.Spec
set_option maxHeartbeats 20000000
section
open PySem.SeqAt
variable {prog : Program} {w : World} {A : Around} {E : Value → Shared → Prop} {s : Shared} {Q : Value → Shared → Prop}
theorem ne_nil_yes {a b : Addr} {vs : List Value} (ha : s.heap.IsList a vs.toArray) (hb : s.heap.IsList b #[]) (hu : A.units < cLine) (h0 : 0 < vs.length) (hq : Q (.bool true) s) : wpAny (model prog w) A (compareOp .NotEq (.ref a) (.ref b)) Q E s :=
  RcNeAt.lists_lengths ha hb (by simp; intro q; rw [q] at h0; exact absurd h0 (Nat.lt_irrefl _)) hu prog w E Q hq
theorem ne_nil_no {a b : Addr} {vs : List Value} (ha : s.heap.IsList a vs.toArray) (hb : s.heap.IsList b #[]) (hu : A.units < cLine) (h0 : vs.length = 0) (hq : Q (.bool false) s) : wpAny (model prog w) A (compareOp .NotEq (.ref a) (.ref b)) Q E s :=
  rcne_lsts ha hb (by simp [List.length_eq_zero_iff.mp h0]) hu (fun j h1 h2 => absurd h2 (Nat.not_lt_zero _)) prog w E Q hq
theorem item_last {value slice : PySem.Expr} {l : Addr} {vs : List Value} {u : Tok} {x : Value} (hl : s.heap.IsList l vs.toArray) (h0 : 0 < vs.length) (h1 : vs.length < 4000) (hx : vs[vs.length - 1]? = some x) (h : Q x s)
    (hs : subscripted slice false (.ref l) (.int (-1) u) = operate [.ref l, .int (-1) u] (getItem (.ref l) (.int (-1) u)) := by with_unfolding_all rfl) (hg : ∀ r, letTemporaryGo value (.ref l) r = pure () := by intro _; with_unfolding_all rfl) :
    wpAny (model prog w) A (subscriptTail value slice (.ref l) (.int (-1) u)) Q E s :=
  subscriptTail_builtin hl.typeIs slot_list_getitem.lookup (wpAny_getItem_list_neg hl (by decide) (by simp; omega) (by decide) (by
    have e : ((-1 : Int) + (vs.toArray.size : Int)).toNat = vs.length - 1 := by rw [List.size_toArray]; omega
    rw [e]; simpa using hx) h) hs hg
theorem eq5 {a b p1 p2 : Addr} {x : Str} {t1 t2 t3 u1 u2 u3 : Tok} {i1 i2 j1 j2 : Int} {b1 b2 : Bool} {vs ws : List Value} {rs : List Bt}
    (ha : IsTup s.heap a #[.str x t1, .int i1 t2, .bool b1, .int j1 t3, .ref p1]) (hb : IsTup s.heap b #[.str x u1, .int i2 u2, .bool b2, .int j2 u3, .ref p2]) (ei : i1 = i2) (eb : b1 = b2) (ej : j1 = j2)
    (hp : IsTup s.heap p1 vs.toArray) (hr : IsTup s.heap p2 ws.toArray) (h : Each RowV vs rs) (k : Each RowV ws rs) (hu : A.units + 1 < cLine) (hq : Q (.bool true) s) : wpAny (model prog w) A (compareOp .Eq (.ref a) (.ref b)) Q E s := by
  subst ei eb ej
  refine rc_tups ha hb rfl (Nat.lt_of_succ_lt hu) (fun j h1 h2 => ?_) prog w E Q hq
  match j, h1, h2 with
  | 0, _, _ => exact eqAt_str _ _ _
  | 1, _, _ =>
    have := EqAt.int_int (A := A.in1) (s := s) i1 t2 i1 u2
    rwa [show (i1 == i1) = true from by simp] at this
  | 2, _, _ =>
    have := EqAt.bool_bool (A := A.in1) (s := s) b1 b1
    rwa [show (b1 == b1) = true from by simp] at this
  | 3, _, _ =>
    have := EqAt.int_int (A := A.in1) (s := s) j1 t3 j1 u3
    rwa [show (j1 == j1) = true from by simp] at this
  | 4, _, _ =>
    obtain ⟨e1, e2⟩ := each_pairs (B := A.in1.in1) (s := s) h k fun v w d => eqAt_row
    exact eqAt_ref (rc_tups hp hr e1 (by rw [units_in1]; exact hu) e2)
end
structure AskJ (w : World) (I dx ca : Addr) (md : Md) (tmd : Tok) (f0 : FSt) (ds : List Deed) (TL : List (Addr × Obj)) (dL fd rd : Addr) (r : Int) (tr : Tok) (i : Nat) (m : Str → Option Value) (nx : List (Addr × Obj)) : Prop where
  ex : ∃ own new, nx = own ++ (new ++ TL) ∧ FileIs w I dx ca md (frun md f0 (ds.take i)).2 own ∧ OwnOff new [I, dx, ca]
  m1 : m "mode" = some (.str (mdStr md) tmd)
  m2 : m "deeds" = some (.ref dL)
  m3 : m "dues" = some (.ref fd)
  m4 : m "ends" = some (.ref rd)
  m5 : m "reads" = some (.int r tr)
  m6 : m "open_file" = some (.ref I)
theorem ask_off {w : World} {I dx ca : Addr} {md : Md} {f : FSt} {ow new TL own2 : List (Addr × Obj)} (hF : FileIs w I dx ca md f ow) (hO : OwnOff new [I, dx, ca]) (hoA : OwnOff TL [I, dx, ca]) (hown : OwnOff own2 ((ow ++ (new ++ TL)).map (·.1))) : OwnOff ((new ++ TL) ++ own2) [I, dx, ca] := by
  intro x hx b hb
  rcases List.mem_append.mp hx with hx | hx
  · exact (List.mem_append.mp hx).elim (fun h => hO x h b hb) fun h => hoA x h b hb
  · refine hown x hx b ?_
    rw [List.map_append, hF.adr]
    exact List.mem_append_left _ hb
theorem ask_end {w : World} {g h' : Heap} {L I dx ca dL fd rd : Addr} {md : Md} {tmd tr : Tok} {f0 : FSt} {ds : List Deed} {d : Deed} {TL ow own' new new' own2 : List (Addr × Obj)} {oL : Obj} {r : Int} {i : Nat} {m' : Str → Option Value} {s₁ : Shared} {tk : Nat}
    (hd : ds[i]? = some d) (hdL : (dL, oL) ∈ TL) (hF : FileIs w I dx ca md (frun md f0 (ds.take i)).2 ow) (hF' : FileIs w I dx ca md (fstep md (frun md f0 (ds.take i)).2 d).2 own') (hO : OwnOff new [I, dx, ca]) (hO' : OwnOff new' (I :: dx :: ca :: ((new ++ TL) ++ own2).map (·.1))) (hown : OwnOff own2 ((ow ++ (new ++ TL)).map (·.1)))
    (F : Fr g L h' m') (N : News g L h' (own' ++ (new' ++ ((new ++ TL) ++ own2))))
    (q1 : m' "mode" = some (.str (mdStr md) tmd)) (q2 : m' "deeds" = some (.ref dL)) (q3 : m' "dues" = some (.ref fd)) (q4 : m' "ends" = some (.ref rd)) (q5 : m' "reads" = some (.int r tr)) (q6 : m' "open_file" = some (.ref I)) :
    InvEndG g L (fun m' nx => (dL, oL) ∈ nx ∧ AskJ w I dx ca md tmd f0 ds TL dL fd rd r tr (i + 1) m' nx) own2 s₁ { s₁ with heap := h', toks := tk } := by
  refine InvEndG.intro F N (nx := own' ++ ((new' ++ new) ++ TL)) ⟨List.mem_append_right _ (List.mem_append_right _ hdL), ⟨own', new' ++ new, rfl, ?_, ?_⟩, q1, q2, q3, q4, q5, q6⟩ ?_ ?_ ?_
  · rw [take_snoc hd, frun_snoc]; exact hF'
  · intro x hx b hb
    rcases List.mem_append.mp hx with hx | hx
    · exact hO' x hx b (by
        rcases List.mem_cons.mp hb with rfl | hb
        · exact .head _
        · rcases List.mem_cons.mp hb with rfl | hb
          · exact .tail _ (.head _)
          · rw [List.mem_singleton.mp hb]; exact .tail _ (.tail _ (.head _)))
    · exact hO x hx b hb
  · intro x hx b hb
    rw [List.map_append, hF'.adr] at hb
    rcases List.mem_append.mp hb with hb | hb
    · refine hown x hx b ?_
      rw [List.map_append, hF.adr]
      exact List.mem_append_left _ hb
    · obtain ⟨z, hz, rfl⟩ := List.mem_map.mp hb
      rw [List.append_assoc] at hz
      rcases List.mem_append.mp hz with hz | hz
      · exact Ne.symm (hO' z hz x.1 (.tail _ (.tail _ (.tail _ (List.mem_map_of_mem (List.mem_append_right _ hx))))))
      · exact hown x hx z.1 (List.mem_map_of_mem (List.mem_append_right _ hz))
  · intro p hp
    rcases List.mem_append.mp hp with hp | hp
    · exact List.mem_append_left _ hp
    · rw [List.append_assoc] at hp
      rcases List.mem_append.mp hp with hp | hp
      · exact List.mem_append_right _ (List.mem_append_left _ hp)
      · exact List.mem_append_right _ (List.mem_append_right _ (List.mem_append_left _ hp))
  · intro p hp
    exact List.mem_append_right _ (List.mem_append_right _ (List.mem_append_right _ hp))
section
set_option hygiene false in
local macro_rules | `(tactic| walk_at "call ref") => `(tactic| walk_at "u:ref 159")
set_option hygiene false in
local macro_rules | `(tactic| walk_at "call ref") => `(tactic| walk_at "u:ref 164")
set_option hygiene false in
local macro_rules | `(tactic| walk_at "call ref") => `(tactic| walk_at "u:ref 61")
set_option hygiene false in
local macro_rules | `(tactic| walk_at "call ref") => `(tactic| walk_at "u:ref 145")
local macro_rules | `(tactic| walk_at "exec For Name Name cons nil") => `(tactic| (k_here; refine Stop.mk ?_))
set_option hygiene false in
local macro_rules | `(tactic| walk_at "call type:list") => `(tactic| (k_here; k_dflt (refine list_sq (.inl rfl) (by assumption) (by assumption) sbX (fun _ _ => by k_mem) (by rw [List.size_toArray, sizeLine_eq]; omega) ?_); intro ca c' h' F' N' l1; have hoca := off_lt l1; (try k_lt l1)))
set_option hygiene false in
local macro_rules | `(tactic| walk_at "compareOp NotEq ref ref") => `(tactic| (k_here; (walk_at "u:cmp NotEq"); k_dflt (first
  | refine ne_nil_yes (News.isList (by assumption) (by k_mem)) (News.isList (by assumption) (by k_mem)) (by ktr_units) (by omega) ?_
  | refine ne_nil_no (News.isList (by assumption) (by k_mem)) (News.isList (by assumption) (by k_mem)) (by ktr_units) (by omega) ?_)))
set_option hygiene false in
local macro_rules | `(tactic| walk_at "subscriptTail") => `(tactic| (k_here; k_dflt (first
  | ((walk_at "u:sub dL"); refine item_last (News.isList (by assumption) (by k_mem)) (by omega) (by omega) hlD ?_)
  | ((walk_at "u:sub fd"); refine item_last (News.isList (by assumption) (by k_mem)) (by omega) (by omega) hlF ?_)
  | ((walk_at "u:sub aD"); refine tup_i0 (tup_use0 hqD (by assumption) (by assumption) (fun _ _ => by k_mem)) ?_)
  | ((walk_at "u:sub aF"); refine tup_i0 (tup_use0 hqF (by assumption) (by assumption) (fun _ _ => by k_mem)) ?_))))
set_option hygiene false in
local macro_rules | `(tactic| walk_at "subscriptTail") => `(tactic| walk_at "u:1")
set_option hygiene false in
local macro_rules | `(tactic| walk_at "call builtin:len") => `(tactic| walk_at "u:6")
set_option hygiene false in
local macro_rules | `(tactic| walk_at "call builtin:min") => `(tactic| (k_here; (with_reducible show wpAny _ _ (call (Value.builtin _) [Value.int _ _, Value.int _ _]) _ _ _); k_dflt (refine min_two_N rfl (by assumption) (by assumption) ?_); intro hm9 km9 Fm9 Nm9))
set_option hygiene false in
local macro_rules | `(tactic| walk_at "call type:tuple") => `(tactic| (k_here; k_dflt (refine kde_tupleOf (by assumption) (by assumption) (News.isList (by assumption) (by k_mem)) (by simp only [List.size_toArray]; omega) rfl ?_); intro D3 h3 F3 N3 l3; (try k_lt l3)))
set_option hygiene false in
local macro_rules | `(tactic| walk_at "compareOp Eq ref ref") => `(tactic| (k_here; (walk_at "u:cmp Eq"); k_dflt (refine eq5 (vs := vsC.toArray.toList) (ws := vsR.toArray.toList) (News.isTup (by assumption) (by k_mem)) (News.isTup (by assumption) (by k_mem)) hat.to hva.to (by first | exact hl1 (by assumption) | exact hl0 (by assumption)) (News.isTup (by assumption) (by k_mem)) (News.isTup (by assumption) (by k_mem)) hRC2 eR2 (by ktr_units) ?_)))
set_option hygiene false in
local macro_rules | `(tactic| walk_at "compareOp Eq str str") => `(tactic| (k_here; k_dflt (refine eq_str_is (r := false) (by assumption) ?_)))
theorem sess_if {prog : Program} {w : World} {p : Program} {loose : List Str} {mean : ExcName → Option Value} {mg mb : Str → Option Value} {g : Heap} {L fa : Addr} {cd : Value} {E : Value → Shared → Prop} {Q : Flow → Shared → Prop} {s : Shared}
    {md : Md} {tm : Tok} {ab ad au ae : Addr} {tl : List (Addr × Obj)} {m : Str → Option Value} {h : Heap} {tk : Tok}
    (K' : Below callerA g [] g) (F : Fr g L h m) (X : (Mine.hd.heap_39 w.params).In g) (N : News g L h tl) (T : Top p loose mean mg mb g)
    (q1 : m "mode" = some (.str (mdStr md) tm)) (q2 : m "begin" = some (.ref ab)) (q3 : m "deeds" = some (.ref ad)) (q4 : m "dues" = some (.ref au)) (q5 : m "ends" = some (.ref ae)) (ok : sessOk (Mine.hd.heap_39 w.params) md ab ad au ae = true)
    (ret : ∀ h' tks (m' : Str → Option Value), Fr g L h' m' → News g L h' tl → Q .next { s with heap := h', toks := tks }) :
    wpAny (model prog w) (callerA.deeper (lawEnv L fa cd)) (exec (((forBody ((lawBody[1]?).getD (.Pass default)))[0]?).getD (.Pass default)) (lawEnv L fa cd)) Q E { s with heap := h, toks := tk } := by
  have e := know5 q1 q2 q3 q4 q5
  rw [e] at F
  clear q1 q2 q3 q4 q5
  dsimp only [lawEnv, lawBody, fBody, forBody, topStmt, PySem.Challenge.pw_og0064_01, List.getElem?_cons_succ, List.getElem?_cons_zero, Option.getD_some, fScope]
  k_steps
  unfold Stop
  rename Fr g L _ _ => F2
  rename News g L _ _ => N2
  k_dflt (refine sess_w (by assumption) F2 X N2 T rfl ok (by rw [sizeLine_eq]; omega) (by ktr_room) (by ktr_units) ?_)
  intro h5 tk5 F5 N5
  change wpAny _ _ _ _ _ _
  k_steps
  rename Fr g L _ _ => F8
  exact ret _ _ _ F8 (by assumption)
theorem law_tail {prog : Program} {w : World} {p : Program} {loose : List Str} {mean : ExcName → Option Value} {mg mb : Str → Option Value} {g : Heap} {L fa : Addr} {cd : Value} {E : Value → Shared → Prop} {Q : Flow → Shared → Prop} {s : Shared}
    {md : Md} {tmd tr : Tok} {I dx ca rd eL : Addr} {f : FSt} {ow TY : List (Addr × Obj)} {vsR : List Value} {nR : Nat} {r : Int} {b : Bool} {m : Str → Option Value} {h : Heap} {tk : Tok} {oe : Obj}
    (K' : Below callerA g [] g) (X : (Mine.hd.heap_39 w.params).In g) (T : Top p loose mean mg mb g) (hF : FileIs w I dx ca md f ow) (hrdY : (rd, listOf vsR.toArray nR) ∈ TY) (eR : Each RowV vsR f.rows) (bR : vsR.length < 200)
    (hat : Kept (((f.at_ : Nat) : Int) = if (vsR.length : Int) < r then (vsR.length : Int) else r)) (hva : Kept (f.valid = decide (r ≤ (vsR.length : Int)))) (hl1 : b = true → lastI f.last = r - 1) (hl0 : b = false → lastI f.last = -1)
    (F : Fr g L h m) (N : News g L h ((eL, oe) :: (ow ++ TY))) (q1 : m "mode" = some (.str (mdStr md) tmd)) (q2 : m "ends" = some (.ref rd)) (q3 : m "reads" = some (.int r tr)) (q4 : m "open_file" = some (.ref I)) (q5 : m "is_read" = some (.bool b))
    (ret : ∀ h' tks m', Fr g L h' m' → News g L h' TY → Q (.ret (.bool true)) { s with heap := h', toks := tks }) :
    wpAny (model prog w) (callerA.deeper (lawEnv L fa cd)) (exec ((lawBody[11]?).getD (.Pass default)) (lawEnv L fa cd)) Q E { s with heap := h, toks := tk } := by
  rw [know3 q1 q2 q3] at F
  rw [know3 q4 q5 q5] at F
  clear q1 q2 q3 q4 q5
  have N9 := news_drop N
  clear N
  obtain ⟨⟨vsC, nC, t1, t2, t3, t4, t5, tm1, ta, tla, rfl, hRC⟩, z1, z2, z3, lk⟩ := hF
  have lC := hRC.1
  have lR := eR.1
  simp only [List.cons_append, List.nil_append, fileDict, ent] at N9
  have hRC2 : Each RowV vsC.toArray.toList f.rows := by simpa using hRC
  have eR2 : Each RowV vsR.toArray.toList f.rows := by simpa using eR
  have bC : vsC.length < 200 := by omega
  clear lR lC
  dsimp only [lawEnv, lawBody, fBody, topStmt, PySem.Challenge.pw_og0064_01, List.getElem?_cons_succ, List.getElem?_cons_zero, Option.getD_some, fScope]
  k_steps
  all_goals (
    rename News g _ _ _ => Nz
    rename Fr g _ _ _ => Fz
    exact ret _ _ _ Fz (fun p hp => Nz p (by k_mem)))
set_option hygiene false in
local macro_rules | `(tactic| walk_at "exec Return some") => `(tactic| (k_here; (with_reducible show wpAny _ _ (exec (Stmt.Return (some (PySem.Expr.Compare _ _ _ _)) _) _) _ _ _); refine Stop.mk ?_))
theorem law_done {prog : Program} {w : World} {p : Program} {loose : List Str} {mean : ExcName → Option Value} {mg mb : Str → Option Value} {g : Heap} {L fa : Addr} {cd : Value} {E : Value → Shared → Prop} {Q : Flow → Shared → Prop} {s : Shared}
    {md : Md} {tmd : Tok} {D dL ap : Addr} {oc : Obj} {bvs : List Value} {begin : List Bt} {tn : List (Addr × Obj)} {k5 : Int} {n : Nat} {m1 : Str → Option Value} {nx : List (Addr × Obj)} {h : Heap} {tk : Tok}
    (K' : Below callerA g [] g) (X : (Mine.hd.heap_39 w.params).In g) (T : Top p loose mean mg mb g) (hEb : Each RowV bvs begin) (hlb : begin.length < 100) (hn : n ≤ 13)
    (hJ : DeedsJ g md tmd D dL ap ((D, LCg.lst bvs) :: (L + 1, oc) :: tn) k5 n m1 nx) (Fa : Fr g L h m1) (Na : News g L h nx)
    (hE : PassesOwn (model prog w) (callerA.deeper (lawEnv L fa cd)) (lawEnv L fa cd) E) (ret : ∀ h' tks m', Fr g L h' m' → News g L h' tn → Q (.ret (.bool true)) { s with heap := h', toks := tks }) :
    wpAny (model prog w) (callerA.deeper (lawEnv L fa cd)) (execs (lawBody.drop 6) (lawEnv L fa cd)) Q E { s with heap := h, toks := tk } := by
  obtain ⟨⟨k, tk1, n1, dvs, nD, ds, tx, rfl, sub, off, eD, hdl, hk1, hk2⟩, q1, q2, q3⟩ := hJ
  rw [know3 q1 q2 q3] at Fa
  clear q1 q2 q3 off hk1 hk2
  have hbx := sub _ (.head _)
  have subT : ∀ p ∈ tn, p ∈ tx := fun p hp => sub p (.tail _ (.tail _ hp))
  have lb := hEb.1
  have ldv := eD.1
  dsimp only [lawEnv, lawBody, fBody, topStmt, PySem.Challenge.pw_og0064_01, List.getElem?_cons_succ, List.getElem?_cons_zero, Option.getD_some, fScope, List.drop_succ_cons, List.drop_zero]
  k_steps
  unfold Stop
  rename Fr g L _ _ => F2
  rename News g L _ _ => N2
  have sb2 : SqAt "list" g ((dL, listOf dvs.toArray nD) :: (ap, listOf #[.int k tk1] n1) :: tx) D bvs.toArray := ⟨_, _, .inr (.tail _ (.tail _ hbx)), rfl, rfl⟩
  have sd2 : SqAt "list" g ((dL, listOf dvs.toArray nD) :: (ap, listOf #[.int k tk1] n1) :: tx) dL dvs.toArray := ⟨_, _, .inr (.head _), rfl, rfl⟩
  have ed2 : Each (DeedV g ((dL, listOf dvs.toArray nD) :: (ap, listOf #[.int k tk1] n1) :: tx)) dvs ds := eD.mono fun _ _ r => r.mono (fun _ _ e => e) fun _ hp => .tail _ (.tail _ hp)
  k_dflt (refine due_c (by assumption) F2 X N2 T rfl sb2 hEb sd2 ed2 hlb (by omega) (by rw [sizeLine_eq]; omega) (by ktr_room) ?_)
  intro TT fd rd vsF vsR nT nF nR r tr tx2 h2 tk2 DI eF eR sub2 F3 N3
  change wpAny _ _ _ _ _ _
  k_steps
  unfold Stop
  rename Fr g L _ _ => F4
  rename News g L _ _ => N4
  obtain ⟨TL, hTL⟩ : ∃ TL, TL = (TT, ({ cls := .type "tuple", data := .seq #[.ref fd, .ref rd, .int (r : Int) tr] nT } : Obj)) :: (fd, listOf vsF.toArray nF) :: (rd, listOf vsR.toArray nR) :: tx2 := ⟨_, rfl⟩
  rw [← hTL] at N4
  have sT2 : ∀ p ∈ tx2, p ∈ TL := fun p hp => hTL ▸ .tail _ (.tail _ (.tail _ hp))
  have hfd : (fd, listOf vsF.toArray nF) ∈ TL := hTL ▸ .tail _ (.head _)
  have hrd : (rd, listOf vsR.toArray nR) ∈ TL := hTL ▸ .tail _ (.tail _ (.head _))
  have hdL : (dL, listOf dvs.toArray nD) ∈ TL := sT2 _ (sub2 _ (.head _))
  have hbD : (D, LCg.lst bvs) ∈ TL := sT2 _ (sub2 _ (.tail _ (.tail _ hbx)))
  have sTn : ∀ p ∈ tn, p ∈ TL := fun p hp => sT2 p (sub2 p (.tail _ (.tail _ (subT p hp))))
  have sbX : SqAt "list" g TL D bvs.toArray := ⟨_, _, .inr hbD, rfl, rfl⟩
  have edX : Each (DeedV g TL) dvs ds := eD.mono fun _ _ r => r.mono (fun _ _ e => e) fun p hp => sT2 p (sub2 p (.tail _ (.tail _ hp)))
  have euX : Each (AnsV g TL) vsF _ := eF.mono fun _ _ r => r.mono (fun _ _ e => e) sT2
  clear sb2 sd2 ed2 eD eF subT sub sub2 sT2
  (try clear N2)
  (try clear F2)
  (try clear F3)
  (try clear N3)
  k_dflt (refine sess_c (.inl rfl) (by assumption) F4 X N4 T rfl sbX hEb ⟨_, _, .inr hdL, rfl, rfl⟩ edX ⟨_, _, .inr hfd, rfl, rfl⟩ euX ⟨_, _, .inr hrd, rfl, rfl⟩ eR hlb (by omega) (by rw [sizeLine_eq]; omega) (by ktr_room) (by ktr_units) ?_)
  intro h5 tk5 F5 N5
  (try clear N4)
  (try clear F4)
  change wpAny _ _ _ _ _ _
  k_steps
  unfold Stop
  rename Fr g L _ _ => F6
  rename News g L _ _ => N6
  k_dflt (refine file_c (by assumption) F6 X N6 T rfl hoca hEb (by rw [sizeLine_eq]; omega) (by ktr_room) ?_)
  intro I dx own h7 tk7 hF hoF F7 N7
  (try clear N6)
  (try clear F6)
  (try clear N5)
  (try clear F5)
  change wpAny _ _ _ _ _ _
  k_steps
  unfold Stop
  rename Fr g L _ _ => F8
  rename News g L _ _ => N8
  with_unfolding_all refine' For_invVF (hE := hE) F8 ?k1 ?k2 ?_
  case k1 => exact rfl
  case k2 => exact rfl
  walk1
  have hoA : OwnOff TL [I, dx, ca] := off_app (as := [I, dx]) hoF hoca
  have hfl : (fopen md begin).rows.length ≤ begin.length := by cases md <;> simp [fopen]
  have N8' : News g L _ (own ++ ([] ++ TL)) := N8
  refine kdl_iter (vs := dvs) (nn := nD) (news := own ++ ([] ++ TL)) (AskJ w I dx ca md tmd (fopen md begin) ds TL dL fd rd r tr) rfl (List.mem_append_right _ hdL) F8 N8' ⟨⟨own, [], rfl, hF, fun _ h => nomatch h⟩, by k_dflt (exact rfl), by k_dflt (exact rfl), by k_dflt (exact rfl), by k_dflt (exact rfl), by k_dflt (exact rfl), by k_dflt (exact rfl)⟩ ?turn ?done
  case turn =>
    intro i v m2 nx h8 tk8 own2 hv hown hml hJ F9 N9
    obtain ⟨⟨ow, new, rfl, hF9, hO9⟩, q1, q2, q3, q4, q5, q6⟩ := hJ
    rw [know3 q6 q1 q2] at F9
    dsimp only at F9
    have hi9 : i < ds.length := by rw [← ldv]; exact (List.getElem?_eq_some_iff.mp hv).1
    have hdv := edX.2 i v _ hv (List.getElem?_eq_getElem hi9)
    have hrl := frun_rows md (ds.take i) (fopen md begin)
    rw [List.length_take] at hrl
    have hrl9 : (frun md (fopen md begin) (ds.take i)).2.rows.length < 1000 := by omega
    clear hrl hfl hlb lb hn
    refine gen_post fun Q' E' hQ' hE' => ?_
    k_steps
    unfold Stop
    rename Fr g _ _ _ => Fx
    rename News g _ _ _ => Nx
    rw [List.append_assoc] at Nx
    k_dflt (refine asked_c (by assumption) Fx X Nx T rfl hF9 (ask_off hF9 hO9 hoA hown) (hdv.mono (fun _ _ e => e) fun p hp => List.mem_append_left _ (List.mem_append_right _ hp)) hrl9 (by ktr_room) ?_)
    intro y new' own' h9 tks hF' hA' hO' Fy Ny
    change wpAny _ _ _ _ _ _
    k_steps
    rename Fr g _ _ _ => Fz
    refine hQ' _ _ ?_
    exact ask_end (List.getElem?_eq_getElem hi9) hdL hF9 hF' hO9 hO' hown Fz Ny (by k_dflt (exact rfl)) (by k_dflt (exact rfl)) (by k_dflt (exact q3)) (by k_dflt (exact q4)) (by k_dflt (exact q5)) (by k_dflt (exact rfl))
  case done =>
    intro m2 nx h8 tk8 hJ F9 N9
    obtain ⟨⟨ow, new, rfl, hF9, hO9⟩, q1, q2, q3, q4, q5, q6⟩ := hJ
    rw [know3 q1 q2 q3] at F9
    rw [know3 q4 q5 q6] at F9
    rw [ldv, List.take_length] at hF9
    change wpAny _ _ _ _ _ _
    obtain ⟨TY, hTY⟩ : ∃ TY, TY = new ++ TL := ⟨_, rfl⟩
    rw [← hTY] at N9
    have sY : ∀ p ∈ TL, p ∈ TY := fun p hp => hTY ▸ List.mem_append_right _ hp
    obtain ⟨TZ, hTZ⟩ : ∃ TZ, TZ = ow ++ TY := ⟨_, rfl⟩
    rw [← hTZ] at N9
    have sZ : ∀ p ∈ TL, p ∈ TZ := fun p hp => hTZ ▸ List.mem_append_right _ (sY p hp)
    have hfdZ := sZ _ hfd
    have hrdY := sY _ hrd
    have hdLZ := sZ _ hdL
    have sTnY : ∀ p ∈ tn, p ∈ TY := fun p hp => sY p (sTn p hp)
    have edY : Each (DeedV g TZ) dvs ds := edX.mono fun _ _ r => r.mono (fun _ _ e => e) sZ
    have euY : Each (AnsV g TZ) vsF _ := euX.mono fun _ _ r => r.mono (fun _ _ e => e) sZ
    have lF := euX.1
    have lR := eR.1
    rw [frun_len] at lF
    have lfr := frun_rows md ds (fopen md begin)
    clear edX euX hO9 hoA sbX hEb sY sZ
    have hat : (((frun md (fopen md begin) ds).2.at_ : Nat) : Int) = if (vsR.length : Int) < (r : Int) then (vsR.length : Int) else (r : Int) := by
      cases hc : canRead md with
      | true => have := (DI.cr hc).1; rw [this, lR]; split <;> omega
      | false => obtain ⟨a1, a2, _⟩ := DI.nr hc; rw [a2, a1]; split <;> omega
    have hva : (frun md (fopen md begin) ds).2.valid = decide ((r : Int) ≤ (vsR.length : Int)) := by
      cases hc : canRead md with
      | true => rw [(DI.cr hc).2, lR]; simp
      | false => obtain ⟨a1, _, a3⟩ := DI.nr hc; rw [a3, a1]; simp
    have bD : dvs.length < 100 := by omega
    have bF : vsF.length < 100 := by omega
    have bR : vsR.length < 200 := by omega
    replace hat : Kept (_ = _) := hat
    replace hva : Kept (_ = _) := hva
    clear lR lfr hfl hlb lb hn
    cases hds : ds with
    | nil =>
      have hd0 : dvs.length = 0 := by rw [ldv, hds]; rfl
      have hla : Kept (lastI (frun md (fopen md begin) ds).2.last = -1) := by show _ = _; rw [hds]; cases md <;> rfl
      clear bF lF ldv hdl
      k_steps
      unfold Stop
      rename News g _ _ _ => Nz
      rename Fr g _ _ _ => Fz
      rw [hTZ] at Nz
      k_dflt (refine law_tail (b := false) K' X T hF9 hrdY eR bR hat hva (fun h => nomatch h) (fun _ => hla) Fz Nz rfl rfl rfl rfl rfl ?_)
      exact fun _ _ _ Fy Ny => ret _ _ _ Fy fun p hp => Ny p (sTnY p hp)
    | cons d0 dr =>
      have h0 : 0 < ds.length := by rw [hds]; exact Nat.succ_pos _
      clear hds d0 dr
      obtain ⟨dv, hlD0, hDv⟩ := edY.at (i := ds.length - 1) (by omega)
      have hlD : dvs[dvs.length - 1]? = some dv := by rw [ldv]; exact hlD0
      obtain ⟨fv, hlF0, hFv⟩ := euY.at (i := ds.length - 1) (by rw [frun_len]; omega)
      have hlF : vsF[vsF.length - 1]? = some fv := by rw [lF]; exact hlF0
      have hD0 : 0 < dvs.length := by omega
      have hF0 : 0 < vsF.length := by omega
      clear hlD0 hlF0
      cases hl : (frun md (fopen md begin) ds).2.last with
      | some j =>
        obtain ⟨hr, hrl, k, b0, hk2, hk3, hk4⟩ := DI.ls j hl
        have hke : k = ds.length - 1 := by omega
        subst hke
        have e1 : ds[ds.length - 1] = .read := by rw [List.getElem?_eq_getElem (by omega)] at hk3; exact Option.some.inj hk3
        rw [e1] at hDv
        obtain ⟨aD, tD, rfl, hqD⟩ := hDv
        have e2 : (frun md (fopen md begin) ds).1[ds.length - 1]'(by rw [frun_len]; omega) = .p "00" b0 := by rw [List.getElem?_eq_getElem (by rw [frun_len]; omega)] at hk4; exact Option.some.inj hk4
        rw [e2] at hFv
        obtain ⟨aF, tF, uF, rfl, hqF, _⟩ := hFv
        have hla : Kept (lastI (frun md (fopen md begin) ds).2.last = (r : Int) - 1) := by rw [hl]; show ((j : Nat) : Int) = _; omega
        clear e1 e2 hk2 hk3 hk4 hr hrl h0 lF ldv hdl
        k_steps
        unfold Stop
        rename News g _ _ _ => Nz
        rename Fr g _ _ _ => Fz
        rw [hTZ] at Nz
        k_dflt (refine law_tail (b := true) K' X T hF9 hrdY eR bR hat hva (fun _ => hla) (fun h => nomatch h) Fz Nz rfl rfl rfl rfl rfl ?_)
        exact fun _ _ _ Fy Ny => ret _ _ _ Fy fun p hp => Ny p (sTnY p hp)
      | none =>
        have hla : Kept (lastI (frun md (fopen md begin) ds).2.last = -1) := by show _ = _; rw [hl]
        have hcs : (∃ aD tD, dv = .ref aD ∧ SqAt "tuple" g TZ aD #[.str (Str.ofString "read") tD] ∧ ∃ x aF tF uF, (Str.ofString x == Str.ofString "00") = false ∧ fv = .ref aF ∧ SqAt "tuple" g TZ aF #[.str (Str.ofString x) tF, uF])
            ∨ ∃ y aD tD uD, (Str.ofString y == Str.ofString "read") = false ∧ dv = .ref aD ∧ SqAt "tuple" g TZ aD #[.str (Str.ofString y) tD, uD] := by
          cases e1 : ds[ds.length - 1] with
          | read =>
            rw [e1] at hDv
            obtain ⟨aD, tD, rfl, hqD⟩ := hDv
            obtain ⟨x, b0, hk4, hx⟩ := DI.ln hl (ds.length - 1) (by omega) (by rw [List.getElem?_eq_getElem (by omega), e1])
            have e2 : (frun md (fopen md begin) ds).1[ds.length - 1]'(by rw [frun_len]; omega) = .p x b0 := by rw [List.getElem?_eq_getElem (by rw [frun_len]; omega)] at hk4; exact Option.some.inj hk4
            rw [e2] at hFv
            obtain ⟨aF, tF, uF, rfl, hqF, _⟩ := hFv
            exact .inl ⟨aD, tD, rfl, hqD, x, aF, tF, uF, by rcases hx with rfl | rfl | rfl <;> decide +kernel, rfl, hqF⟩
          | write b =>
            rw [e1] at hDv
            obtain ⟨aD, tD, uD, rfl, hqD, _⟩ := hDv
            exact .inr ⟨_, aD, tD, uD, by decide +kernel, rfl, hqD⟩
          | rewrite b =>
            rw [e1] at hDv
            obtain ⟨aD, tD, uD, rfl, hqD, _⟩ := hDv
            exact .inr ⟨_, aD, tD, uD, by decide +kernel, rfl, hqD⟩
        clear hDv hFv h0 lF ldv hdl
        rcases hcs with ⟨aD, tD, rfl, hqD, x, aF, tF, uF, hne, rfl, hqF⟩ | ⟨y, aD, tD, uD, hne, rfl, hqD⟩
        all_goals (
          k_steps
          unfold Stop
          rename News g _ _ _ => Nz
          rename Fr g _ _ _ => Fz
          rw [hTZ] at Nz
          k_dflt (refine law_tail (b := false) K' X T hF9 hrdY eR bR hat hva (fun h => nomatch h) (fun _ => hla) Fz Nz rfl rfl rfl rfl rfl ?_)
          exact fun _ _ _ Fy Ny => ret _ _ _ Fy fun p hp => Ny p (sTnY p hp))
end
end
section
open PySem.Calls PySem.Spec
set_option maxHeartbeats 4000000
section
set_option hygiene false in
local macro_rules | `(tactic| walk_at "call ref") => `(tactic| walk_at "u:ref 138")
set_option hygiene false in
local macro_rules | `(tactic| walk_at "UnrEndW") => `(tactic| (k_dflt (refine unr_end (by assumption) (by assumption) (by assumption) ⟨by k_subL, ?_⟩)))
set_option hygiene false in
local macro_rules | `(tactic| walk_at "call ref") => `(tactic| walk_at "u:2")
set_option hygiene false in
local macro_rules | `(tactic| walk_at "callWith ref") => `(tactic| walk_at "u:3")
set_option hygiene false in
local macro_rules | `(tactic| walk_at "FnAt") => `(tactic| walk_at "u:4")
local macro_rules | `(tactic| walk_at $s:str) => if ["CompSrc", "CompSrcT", "eval ListComp", "exec For Name Call cons nil", "exec For Name Name cons nil", "eval IfExp", "CompEnd", "exec Assign cons ListComp", "exec If"].contains s.getString then `(tactic| (k_here; refine Stop.mk ?_)) else Lean.Macro.throwUnsupported
set_option hygiene false in
local macro_rules | `(tactic| walk_at "newList") => `(tactic| (k_here; k_dflt (refine' newList_K ?k1 ?k2 ?_; (case k1 => k_asm); (case k2 => k_asm); k_whole); intro dA h' F' N' l1; have hodA := off_lt l1; (try k_lt l1)))
set_option hygiene false in
local macro_rules | `(tactic| walk_at "pyIter ref") => `(tactic| (k_here; (with_reducible show wpAny _ _ (pyIter (Value.ref _)) (fun it s₂ => LoopAtV _ _ _ _ _ _ _ _ _ it s₂) _ _); refine Stop.mk ?_))
set_option hygiene false in
local macro_rules | `(tactic| walk_at "call ref") => `(tactic| walk_at "u:ref 169")
set_option hygiene false in
local macro_rules | `(tactic| walk_at "call builtin:len") => `(tactic| walk_at "u:6")
set_option hygiene false in
local macro_rules | `(tactic| walk_at "subscriptTail") => `(tactic| (k_here; k_dflt (first
  | ((walk_at "u:int 0"); refine tup_i0 (tup_use0 hqW (by assumption) (by assumption) (fun _ _ => by k_mem)) ?_)
  | ((walk_at "u:int _"); refine item_at (News.isList (by assumption) (by k_mem)) hrow (by omega) (by omega) ?_)
  | ((walk_at "u:int _"); refine mode_news (by assumption) (by k_mem) rfl (by omega) (by omega) ?_; intro md tmd))))
set_option hygiene false in
local macro_rules | `(tactic| walk_at "subscriptTail") => `(tactic| walk_at "u:1")
set_option hygiene false in
local macro_rules | `(tactic| walk_at "call type:bytes") => `(tactic| walk_at "u:5")
theorem deed_news {g h : Heap} {L dL : Addr} {a : Addr × Obj} {oD : Obj} {new ty ny : List (Addr × Obj)} (hny : ny = new ++ ty) (N : News g L h (a :: (new ++ (dL, oD) :: ty))) : News g L h ((dL, oD) :: a :: ny) := fun p hp => N p (by
  subst hny
  rcases List.mem_cons.mp hp with rfl | hp
  · exact .tail _ (List.mem_append_right _ (.head _))
  · rcases List.mem_cons.mp hp with rfl | hp
    · exact .head _
    · exact .tail _ ((List.mem_append.mp hp).elim (fun h => List.mem_append_left _ h) fun h => List.mem_append_right _ (.tail _ h)))
theorem deed_off {dL ap : Addr} {oD : Obj} {new ty ny : List (Addr × Obj)} (hny : ny = new ++ ty) (hnew : OwnOff new (ap :: ((dL, oD) :: ty).map (·.1))) (off : OwnOff ty [dL, ap]) : OwnOff ny [dL, ap] := by
  subst hny
  intro x hx b hb
  rcases List.mem_append.mp hx with hx | hx
  · exact hnew x hx b (by
      rcases List.mem_cons.mp hb with rfl | hb
      · exact .tail _ (.head _)
      · rw [List.mem_singleton.mp hb]; exact .head _)
  · exact off x hx b hb
theorem turn_end {g h' : Heap} {L D dL ap : Addr} {md : Md} {tmd tk' : Tok} {tl0 tx ty ny own new all : List (Addr × Obj)} {k5 k k' : Int} {i n' nD' : Nat} {dvs : List Value} {ds : List Deed} {v : Value} {d : Deed} {m' : Str → Option Value} {s₁ : Shared} {tk : Nat} {oD : Obj}
    (F : Fr g L h' m') (N : News g L h' all) (hd : (dL, listOf (dvs.toArray.push v) nD') ∈ all) (ha : (ap, listOf #[.int k' tk'] n') ∈ all) (hn : ∀ p ∈ ny, p ∈ all) (hny : ny = new ++ ty) (hty : ty = tx ++ own) (sub : ∀ p ∈ tl0, p ∈ tx) (off : OwnOff tx [dL, ap]) (hown : OwnOff own (dL :: ap :: tx.map (·.1)))
    (hnew : OwnOff new (ap :: ((dL, oD) :: ty).map (·.1))) (eD : Each (DeedV g tx) dvs ds) (hdv : DeedV g new v d) (hdl : ds.length = i) (hk1 : k5 ≤ k) (hk2 : k ≤ k5 + 5 * i) (hk3 : k ≤ k') (hk4 : k' ≤ k + 5)
    (q1 : m' "mode" = some (.str (mdStr md) tmd)) (q2 : m' "begin" = some (.ref D)) (q3 : m' "deeds" = some (.ref dL)) : InvEndG g L (DeedsJ g md tmd D dL ap tl0 k5 (i + 1)) own s₁ { s₁ with heap := h', toks := tk } := by
  subst hny hty
  rw [push_eq] at hd
  refine InvEndG.intro F N (nx := (dL, listOf (dvs ++ [v]).toArray nD') :: (ap, listOf #[.int k' tk'] n') :: (new ++ tx)) ⟨⟨k', tk', n', dvs ++ [v], nD', ds ++ [d], new ++ tx, rfl, fun p hp => List.mem_append_right _ (sub p hp), ?_, ?_, by simp [hdl], by omega, by omega⟩, q1, q2, q3⟩ ?_ ?_ ?_
  · intro x hx b hb
    rcases List.mem_append.mp hx with hx | hx
    · exact hnew x hx b (by
        rcases List.mem_cons.mp hb with rfl | hb
        · exact .tail _ (.head _)
        · rw [List.mem_singleton.mp hb]; exact .head _)
    · exact off x hx b hb
  · exact (eD.mono fun _ _ r => r.mono (fun _ _ e => e) fun _ hp => List.mem_append_right _ hp).snoc (hdv.mono (fun _ _ e => e) fun _ hp => List.mem_append_left _ hp)
  · intro x hx b hb
    rcases List.mem_cons.mp hb with rfl | hb
    · exact hown x hx _ (.head _)
    · rcases List.mem_cons.mp hb with rfl | hb
      · exact hown x hx _ (.tail _ (.head _))
      · obtain ⟨z, hz, rfl⟩ := List.mem_map.mp hb
        rcases List.mem_append.mp hz with hz | hz
        · exact Ne.symm (hnew z hz x.1 (.tail _ (.tail _ (List.mem_map_of_mem (List.mem_append_right _ hx)))))
        · exact hown x hx _ (.tail _ (.tail _ (List.mem_map_of_mem hz)))
  · intro p hp
    rcases List.mem_cons.mp hp with rfl | hp
    · exact hd
    · rcases List.mem_cons.mp hp with rfl | hp
      · exact ha
      · rcases List.mem_append.mp hp with hp | hp
        · exact hn p (List.mem_append_left _ hp)
        · exact hn p (List.mem_append_right _ (List.mem_append_left _ hp))
  · intro p hp
    exact hn p (List.mem_append_right _ (List.mem_append_right _ hp))
theorem law_turn {prog : Program} {w : World} {p : Program} {loose : List Str} {mean : ExcName → Option Value} {mg mb : Str → Option Value} {g : Heap} {L fa : Addr} {cd : Value} {E : Value → Shared → Prop} {Q : Flow → Shared → Prop} {s : Shared}
    {md : Md} {tmd : Tok} {D dL ap q : Addr} {oc : Obj} {bvs : List Value} {begin : List Bt} {tn : List (Addr × Obj)} {k5 : Int} {i : Nat} {t : Tok} {m1 : Str → Option Value} {nx own : List (Addr × Obj)} {h : Heap} {tk : Tok}
    (K' : Below callerA g [] g) (X : (Mine.hd.heap_39 w.params).In g) (T : Top p loose mean mg mb g) (hoc : oc.data = .cell (some (.ref q))) (hT : TakeIn tn q ap) (hEb : Each RowV bvs begin) (hlb : begin.length < 100) (hk5 : 0 ≤ k5) (hk6 : k5 ≤ 100) (hi : i < 13)
    (hown : OwnOff own (nx.map (·.1))) (hJ : DeedsJ g md tmd D dL ap ((D, LCg.lst bvs) :: (L + 1, oc) :: tn) k5 i m1 nx) (eda : @Ne Nat dL ap)
    (Fa : Fr g L h (fun y => if y = Str.ofString "turn" then some (.int (i : Int) t) else m1 y)) (Na : News g L h (nx ++ own)) :
    wpAny (model prog w) (callerA.deeper (lawEnv L fa cd)) (execs turnBody (lawEnv L fa cd)) (InvPostG g L (DeedsJ g md tmd D dL ap ((D, LCg.lst bvs) :: (L + 1, oc) :: tn) k5 (i + 1)) own { s with heap := h, toks := tk } Q) E { s with heap := h, toks := tk } := by
  obtain ⟨⟨k, tk1, n1, dvs, nD, ds, tx, rfl, sub, off, eD', hdl, hk1, hk2⟩, q1, q2, q3⟩ := hJ
  rw [know3 q1 q2 q3] at Fa
  dsimp only at Fa
  dsimp only [turnBody, lawEnv, lawBody, forBody, fBody, topStmt, PySem.Challenge.pw_og0064_01, List.getElem?_cons_succ, List.getElem?_cons_zero, Option.getD_some, fScope]
  simp only [List.cons_append] at Na
  obtain ⟨ty, hty⟩ : ∃ ty, ty = tx ++ own := ⟨_, rfl⟩
  rw [← hty] at Na
  have subX : ∀ p ∈ tx, p ∈ ty := fun p hp => hty ▸ List.mem_append_left _ hp
  have hcx := subX _ (sub _ (.tail _ (.head _)))
  have hbx := subX _ (sub _ (.head _))
  have hT2 := hT.mono fun p hp => subX p (sub p (.tail _ (.tail _ hp)))
  have offY : OwnOff ty [dL, ap] := by
    intro x hx b hb
    rw [hty] at hx
    rcases List.mem_append.mp hx with hx | hx
    · exact off x hx b hb
    · exact hown x hx b (by
        rcases List.mem_cons.mp hb with rfl | hb
        · exact .head _
        · rw [List.mem_singleton.mp hb]; exact .tail _ (.head _))
  have hoff2 : OwnOff ty [ap] := off_less offY fun b hb => .tail _ hb
  have eDy : Each (DeedV _ ty) dvs ds := eD'.mono fun _ _ r => r.mono (fun _ _ e => e) subX
  have ld := eDy.1
  have lb := hEb.1
  replace hT := hT2
  clear hT2
  (try clear N9)
  (try clear N8)
  (try clear N5)
  (try clear N4)
  k_steps
  unfold Stop
  rename Fr _ _ _ _ => Fb
  rename News _ _ _ _ => Nb
  k_dflt (refine LCt.ListComp_T (F₀ := Fb) (by with_unfolding_all rfl) (by decide) (by rfl) (by decide) (by rfl) ?_)
  k_steps
  unfold Stop
  k_dflt (refine LCt.CompSrcT.ledger rfl Fb Nb (.head _) (by rw [List.size_toArray, sizeLine_eq]; omega) ?_)
  intro g2
  refine filt_rest (.inr ⟨_, .head _, rfl, _, rfl⟩) ?turn3 dvs.toArray.size 0 [] ?fin3
  case turn3 =>
    intro i2 v I oI C oC D2 m₂ ys h2 tk2 E2 KT KF hv hC hx Fc Nc kT kF
    have hv' : dvs[i2]? = some v := by simpa using hv
    have hi2 : i2 < ds.length := by rw [← ld]; exact (List.getElem?_eq_some_iff.mp hv').1
    have hdv := eDy.2 i2 v _ hv' (List.getElem?_eq_getElem hi2)
    cases hdi : ds[i2] with
    | read =>
      rw [hdi] at hdv
      obtain ⟨a2, t2, rfl, hqW⟩ := hdv
      k_steps
      exact kT _ _ _ (by assumption) (by assumption)
    | write b =>
      rw [hdi] at hdv
      obtain ⟨a2, t2, u2, rfl, hqW, _⟩ := hdv
      k_steps
      exact kF _ _ (by assumption) (by assumption)
    | rewrite b =>
      rw [hdi] at hdv
      obtain ⟨a2, t2, u2, rfl, hqW, _⟩ := hdv
      k_steps
      exact kF _ _ (by assumption) (by assumption)
  case fin3 =>
    intro ys hly
    intro D3 h3 tk3 Fc Nc off3
    simp only [List.length_nil, Nat.zero_add, List.size_toArray] at hly
    change wpAny _ _ _ _ _ _
    k_steps
    unfold Stop
    rename Fr _ _ _ _ => Fd
    rename News _ _ _ _ => Nd
    k_dflt (refine like_step Fd Nd ?made ?rest4)
    case made =>
      refine IfExp_ ?_
      by_cases hp : 0 < ys.length ∧ ys.length ≤ bvs.length
      · have hp3 : ys.length - 1 < begin.length := by omega
        obtain ⟨lv, hrow, ⟨lt4, rfl⟩, hls⟩ := hEb.at hp3
        obtain ⟨hp1, hp2⟩ := hp
        have hbx2 := hbx
        k_steps
        all_goals first
          | exact ⟨_, _, _, ⟨⟨_, rfl⟩, hls⟩, rfl, by assumption, by assumption⟩
          | (exfalso; omega)
      · k_steps
        all_goals first
          | exact ⟨_, _, _, ⟨⟨_, rfl⟩, by decide⟩, rfl, by assumption, by assumption⟩
          | (exfalso; omega)
    case rest4 =>
      intro v bl h4 tk4 hrv Fe Ne
      obtain ⟨⟨lt4, rfl⟩, hls⟩ := hrv
      change wpAny _ _ _ _ _ _
      k_steps
      unfold Stop
      rename Fr _ _ _ _ => Ff
      rename News _ _ _ _ => Nf
      k_dflt (refine ListComp_B Ff (by with_unfolding_all rfl) (by decide) (by rfl) (by decide) (by rfl) ?_)
      walk1
      refine ⟨_, _, _, rfl, rfl, Ff, Nf, by rw [sizeLine_eq]; omega, ?_⟩
      rintro s₂ ⟨h9, rfl⟩
      refine kcf_rest (ks := KBw.bInts bl) (fun k => 255 - k) (KBw.ints_length bl) ?hP ?turnB ?finB
      case hP =>
        rintro i9 v9 hi9 ⟨c, u, hc, rfl⟩
        exact ⟨_, u, KBw.ints_get hc, rfl⟩
      case turnB =>
        intro k9 t9 I oI C oC D9 m₂ ys9 h9 tk9 E' hk9 hC hx9 Fg Ng offg neg _
        have hb9 := KBw.ints_in hk9
        k_steps
        unfold Stop
        rename News _ _ _ _ => Nh
        rename Fr _ _ _ _ => Fh
        exact LCg.CompEnd.intro Fh Nh _ (fun _ hp => hp) offg True.intro ⟨rfl, _, rfl⟩
      case finB =>
        unfold KPfDone
        intro ys9 hiz
        intro D9 h9 tk9 Fg Ng off9
        have hzz : ∀ z ∈ (KBw.bInts bl).map (fun k => 255 - k), 0 ≤ z ∧ z < 256 := by
          intro z hz
          obtain ⟨y, hy, rfl⟩ := List.mem_map.mp hz
          have := KBw.ints_in hy
          omega
        have hlz : ((KBw.bInts bl).map (fun k => 255 - k)).length < 1000 := by rw [List.length_map, KBw.ints_length]; exact hls
        change wpAny _ _ _ _ _ _
        k_steps
        unfold Stop
        rename News _ _ _ _ => Nz
        rename Fr _ _ _ _ => Fz
        k_dflt (refine deed_c (by assumption) Fz X (news_swap (news_drop (news_drop Nz))) T rfl (hT.mono fun p hp => .tail _ hp) (off_cons eda hoff2) (by omega) (by omega) (by rw [byteArr_size]; exact hlz) (by ktr_room) (by ktr_units) ?_)
        intro v d k' tk' n' new h' tks hk'1 hk'2 hdv hnew Fy Ny
        obtain ⟨ny, hny⟩ : ∃ ny, ny = new ++ ty := ⟨_, rfl⟩
        have Nx := deed_news hny Ny
        have offN := deed_off hny hnew offY
        have hnY : ∀ p ∈ ty, p ∈ ny := fun p hp => hny ▸ List.mem_append_right _ hp
        clear offY hoff2 Ny
        (try clear Nz)
        (try clear Nf)
        (try clear Nd)
        (try clear Ne)
        (try clear Nc)
        (try clear Nb)
        (try clear Ng)
        change wpAny _ _ _ _ _ _
        k_steps
        rename News _ _ _ _ => N9
        rename Fr _ _ _ _ => F9
        exact turn_end F9 N9 (by k_mem) (by k_mem) (fun _ _ => by k_mem) hny hty sub off hown hnew eD' hdv hdl hk1 hk2 hk'1 hk'2 (by k_dflt (exact rfl)) (by k_dflt (exact rfl)) (by k_dflt (exact rfl))
local macro_rules | `(tactic| passes_own) => `(tactic| assumption)
theorem gen_top {M : Model} {A : Around} {env : Env} {ss : List Stmt} {Q : Flow → Shared → Prop} {E : Value → Shared → Prop} {s : Shared} (hE : PassesOwn M A env E) (h : ∀ Q' E', (∀ x s', Q x s' → Q' x s') → PassesOwn M A env E' → wpAny M A (execs ss env) Q' E' s) : wpAny M A (execs ss env) Q E s := h Q E (fun _ _ h => h) hE
theorem main_t : PySem.Challenge.rw_og0064_01.Holds := hd (by
  k_go0
  all_goals try k_fold
  refine gen_top (by passes_own) fun Q' E' hQ' hE' => ?_
  k_steps
  unfold Stop
  k_dflt (refine taker_c (tl := [_]) (by assumption) (by assumption) (by assumption) (news_swap (by assumption)) (by assumption) rfl (by assumption) (by assumption) (by assumption) (by assumption) ?off (by ktr_room) (by ktr_units) ?_)
  case off =>
    intro x hx b hb
    rw [List.mem_singleton.mp hb, List.mem_singleton.mp hx]
    dsimp only
    show @Ne Nat _ _
    omega
  intro q ap t0 n0 ps tn h9 tk9 hT hoT hap htab F9 N9
  have N10 := news_last N9
  have e1 := ne_nat (hap _ (.head _))
  simp only [List.map_cons, List.map_nil] at hoT
  dsimp only at e1
  clear N9 hap
  change wpAny _ _ _ _ _ _
  have hoff : OwnOff tn [ap] := off_less hoT fun b hb => by rw [List.mem_singleton.mp hb]; exact .head _
  have hoT2 := hoT
  k_steps
  unfold Stop
  k_dflt (refine sess_if (md := .io) (by assumption) (by assumption) (by assumption) (by assumption) (by assumption) rfl rfl rfl rfl rfl (by kernel_rfl) ?_)
  intro _ _ _ _ _
  change wpAny _ _ _ _ _ _
  k_steps
  unfold Stop
  k_dflt (refine sess_if (md := .inp) (by assumption) (by assumption) (by assumption) (by assumption) (by assumption) rfl rfl rfl rfl rfl (by kernel_rfl) ?_)
  intro _ _ _ _ _
  change wpAny _ _ _ _ _ _
  k_steps
  unfold Stop
  k_dflt (refine sess_if (md := .out) (by assumption) (by assumption) (by assumption) (by assumption) (by assumption) rfl rfl rfl rfl rfl (by kernel_rfl) ?_)
  intro _ _ _ _ _
  change wpAny _ _ _ _ _ _
  k_steps
  unfold Stop
  k_dflt (refine sess_if (md := .ext) (by assumption) (by assumption) (by assumption) (by assumption) (by assumption) rfl rfl rfl rfl rfl (by kernel_rfl) ?_)
  intro _ _ _ _ _
  change wpAny _ _ _ _ _ _
  k_steps
  unfold Stop
  k_dflt (refine sess_if (md := .io) (by assumption) (by assumption) (by assumption) (by assumption) (by assumption) rfl rfl rfl rfl rfl (by kernel_rfl) ?_)
  intro _ _ _ _ _
  change wpAny _ _ _ _ _ _
  k_steps
  unfold Stop
  rename News _ _ _ _ => N2
  rename Fr _ _ _ _ => F2
  obtain ⟨oc, hoc, N3⟩ := ex_cell1 (by assumption) N2
  k_dflt (refine LCg.Assign_ListComp_U (F₀ := F2) (by rfl) (by with_unfolding_all rfl) (by with_unfolding_all rfl) (by decide) (by rfl) (by decide) (by rfl) (by rfl) (by rfl) ?_)
  clear N2
  k_steps
  unfold Stop
  rename IsRange _ _ _ _ _ _ _ _ => rg
  rename News _ _ _ _ => N4
  rename Fr _ _ _ _ => F4
  have N5 := news_swap (news_drop N4)
  have offT := off_cons (o := oc) e1 hoff
  k_dflt (refine LCg.CompSrc.range (n := r'.toNat) rfl F4 N5 rg (small_one (by omega) (by omega) (by omega) (by omega)) ?sz (by rw [sizeLine_eq]; omega) ?rest)
  case sz =>
    rw [rangeSize_nat]
    simp
  case rest =>
    intro g2
    refine rows_rest (ap := ap) (tl := (_, oc) :: tn) offT ?turn r'.toNat 0 [] [] _ _ _ .nil (by omega) (by omega) ?fin
    case turn =>
      intro k2 tk2 n2 tl2 C oC h2 tk0 Q' E' hk20 hk21 sub2 off2 hC Fa Na ret2
      have hcx := sub2 _ (.head _)
      have hT2 := hT.mono fun p hp => sub2 p (.tail _ hp)
      replace hT := hT2
      replace hoff := off2
      clear hT2 offT hoT hoT2
      k_steps
      unfold Stop
      k_dflt (refine LCg.ListComp_U Fa (by with_unfolding_all rfl) (by decide) (by rfl) (by decide) (by rfl) ?_)
      k_steps
      unfold Stop
      rename IsRange _ _ _ _ _ _ _ _ => rg2
      rename News _ _ _ _ => N7
      rename Fr _ _ _ _ => F7
      k_dflt (refine LCg.CompSrc.range (n := r'.toNat) rfl F7 N7 rg2 (small_one (by omega) (by omega) (by omega) (by omega)) ?sz2 (by rw [sizeLine_eq]; omega) ?rest2)
      case sz2 =>
        rw [rangeSize_nat]
        simp
      case rest2 =>
        intro g3
        refine take_rest (ap := ap) (tl := tl2) off2 ?turn2 r'.toNat 0 [] [] (k2 + 1) _ _ .nil (fun z hz => nomatch hz) (by omega) (by omega) ?fin2
        case turn2 =>
          intro k3 tk3 n3 tl3 C3 oC3 h3 tk03 Q3 E3 hk30 hk31 sub3 off3 hC3 Fb Nb ret3
          replace hcx := sub3 _ hcx
          replace hC := sub3 _ hC
          have hT3 := hT.mono sub3
          replace hT := hT3
          replace hoff := off3
          clear hT3 off2 sub2
          k_steps
          exact ret3 _ _ _ _ _ _ hr0 hr1 (by assumption) (by assumption)
        case fin2 =>
          intro ys zs tk9 n9 hiz hzz hlz
          intro D h9 tk8 Fc Nc off1
          simp only [List.length_nil, Nat.zero_add] at hlz
          change wpAny _ _ _ _ _ _
          k_steps
          rename News _ _ _ _ => N8
          rename Fr _ _ _ _ => F8
          refine ret2 _ (byteArr zs) _ _ _ _ _ ⟨⟨_, rfl⟩, ?_⟩ ?_ ?_ F8 (news_drop N8)
          · rw [byteArr_size]; omega
          · omega
          · omega
    case fin =>
      intro bvs begin k5 tk5 n5 hEb hlb hk5 hk6
      intro D h5 tks5 F5 N6 off1
      simp only [List.length_nil, Nat.zero_add] at hlb
      clear hoT hoT2
      change wpAny _ _ _ _ _ _
      k_steps
      unfold Stop
      rename News _ _ _ _ => N8
      rename Fr _ _ _ _ => F8
      have hdap : @LT.lt Nat _ ap dA := l1.2.1
      have eD := ne_nat (Ne.symm off1.1)
      dsimp only at eD
      have hodT : OwnOff ((D, LCg.lst bvs) :: (_, oc) :: tn) [dA, ap] := off_pair (off_sub hodA fun p hp => by
          rcases List.mem_cons.mp hp with rfl | hp
          · exact .head _
          · exact .tail _ (.tail _ hp)) (off_cons (ne_nat (Ne.symm (off1.1))) offT)
      obtain ⟨dL, rfl⟩ : ∃ x, x = dA := ⟨_, rfl⟩
      with_unfolding_all refine' For_invVF F8 ?k1 ?k2 ?_
      case k1 => exact rfl
      case k2 => exact rfl
      k_steps
      unfold Stop
      rename IsRange _ _ _ _ _ _ _ _ => rg3
      rename News _ _ _ _ => N9
      rename Fr _ _ _ _ => F9
      refine range_D (n := r'.toNat) (md := md) (tmd := tmd) rfl rg3 (small_one (by omega) (by omega) (by omega) (by omega)) (by rw [rangeSize_nat]; simp) F9 N9 hodT (by k_dflt (exact rfl)) (by k_dflt (exact rfl)) (by k_dflt (exact rfl)) ?turn ?done
      case turn =>
        intro i t m1 nx h tk own hi hown hJ Fa Na
        change wpAny _ _ _ _ _ _
        (try clear N9)
        (try clear F9)
        exact law_turn (by assumption) (by assumption) (by assumption) hoc hT hEb (by omega) (by omega) (by omega) (by omega) hown hJ (ne_nat (Ne.symm (Nat.ne_of_lt hdap))) Fa Na
      case done =>
        intro m1 nx h tk hJ Fa Na
        change wpAny _ _ _ _ _ _
        (try clear N9)
        (try clear F9)
        refine law_done (by assumption) (by assumption) (by assumption) hEb (by omega) (by omega) hJ Fa Na (by passes_own) ?_
        intro h7 tks7 m7 Fz Nz
        refine hQ' _ _ ?_
        k_steps
        done)
end
end
end Mine
set_option maxRecDepth 100000 in
theorem PySem.Challenge.cw_og0064_01_holds : PySem.Challenge.rw_og0064_01.Holds := by
  exact Mine.main_t
