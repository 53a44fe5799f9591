import PyProof.Rows.All
import Wide.All
import OpenK.AllK
import Wide.FinOn
import Lean
import PySem.Challenge.RW_xm0621_01
open PySem PySem.W PyProof.Rows PySem.Calls
set_option Elab.async false
set_option maxRecDepth 100000
set_option maxHeartbeats 8000000
set_option rowWalk.seconds 0
namespace Mine
/- The written part of the heap (Mine.kk.heap_1), without the head: under False the head's own tactic is not needed. -/
section
local macro_rules | `(tactic| o_head $h:term) => `(tactic| exact False.elim (by assumption))
theorem kk (h : False) : PySem.Challenge.rw_xm0621_01.row.Holds := by
  k_head
end
theorem warm : (PySem.Challenge.rw_xm0621_01 = PySem.Challenge.rw_xm0621_01 ∧ Mine.kk.heap_1 = Mine.kk.heap_1) := by
  k_fill
  exact ⟨rfl, rfl⟩
local macro_rules | `(tactic| k_mem) => `(tactic| first | exact List.mem_cons_self | (refine List.mem_cons_of_mem _ ?_; k_mem))
local macro_rules | `(tactic| walk_at $s:str) => `(tactic| k_extra $s)

section
abbrev mEs (P : Params) (k1 k2 k3 k4 k5 k6 k7 k8 : Tok) (tx : List UInt8) (t1 : Tok) (wd : List UInt8) (t2 t3 : Tok) (dep : Int) (t5 : Tok) (lev : Int) (t6 : Tok) (r1 r2 : Addr) : List DictEntry :=
  [⟨PyData.keyHash P (Str.ofString "text"), .str (Str.ofString "text") k1, .bytes tx.toArray t1⟩,
   ⟨PyData.keyHash P (Str.ofString "pattern"), .str (Str.ofString "pattern") k2, .bytes wd.toArray t2⟩,
   ⟨PyData.keyHash P (Str.ofString "most_depth"), .str (Str.ofString "most_depth") k3, .int 60 t3⟩,
   ⟨PyData.keyHash P (Str.ofString "tick"), .str (Str.ofString "tick") k4, .none⟩,
   ⟨PyData.keyHash P (Str.ofString "depth"), .str (Str.ofString "depth") k5, .int dep t5⟩,
   ⟨PyData.keyHash P (Str.ofString "level"), .str (Str.ofString "level") k6, .int lev t6⟩,
   ⟨PyData.keyHash P (Str.ofString "starts"), .str (Str.ofString "starts") k7, .ref r1⟩,
   ⟨PyData.keyHash P (Str.ofString "lengths"), .str (Str.ofString "lengths") k8, .ref r2⟩]

def Low (x : List UInt8) : Prop := x.length ≤ 1000 ∧ ∀ c ∈ x, 97 ≤ c.toNat ∧ c.toNat ≤ 122

def byteAt (x : List UInt8) (i : Int) : Int := ((x.getD i.toNat 0).toNat : Int)

theorem Low.at {x : List UInt8} (h : Low x) {i : Int} (h0 : 0 ≤ i) (h1 : i < (x.length : Int)) : 97 ≤ byteAt x i ∧ byteAt x i ≤ 122 := by
  have hi : i.toNat < x.length := by omega
  have e : x.getD i.toNat 0 = x[i.toNat] := by
    rw [List.getD_eq_getElem?_getD, List.getElem?_eq_getElem hi]; rfl
  have := h.2 _ (List.getElem_mem hi)
  unfold byteAt
  rw [e]
  omega

theorem by_item {prog : Program} {w : World} {A : Around} {E : Value → Shared → Prop} {s : Shared} {value slice : PySem.Expr} {x : List UInt8} {i : Int} {t ui : Tok} {Q : Value → Shared → Prop} (hlow : Low x) (h0 : 0 ≤ i) (h1 : i < (x.length : Int))
    (h : ∀ k : Int, k = byteAt x i → 97 ≤ k → k ≤ 122 → Q (.int k s.toks) { s with toks := s.toks + 1 })
    (hs : subscripted slice false (.bytes x.toArray t) (.int i ui) = operate [.bytes x.toArray t, .int i ui] (getItem (.bytes x.toArray t) (.int i ui)) := by with_unfolding_all rfl)
    (ht : ∀ r, letTemporaryGo value (.bytes x.toArray t) r = pure () := by intro _; with_unfolding_all rfl) :
    wpAny (model prog w) A (subscriptTail value slice (.bytes x.toArray t) (.int i ui)) Q E s :=
  bytes_item_K (by have := hlow.1; omega) h0 h1 rfl (h _ rfl (hlow.at h0 h1).1 (hlow.at h0 h1).2) hs ht

section
variable {w : World} {p : Program} {loose : List Str} {mean : ExcName → Option Value} {mg mb : Str → Option Value}
    {dp un : Nat} {gd : Option (List Code)} {cn : Str} {cs : Scope} {a : Addr} {ccd : Value} {cl : List (Str × Addr)} {outer : List Env} {A₀ : Around} {base h₀ : Heap} {L : Addr} {m : Str → Option Value} {news : List (Addr × Obj)} {s : Shared}
    {Q E : Value → Shared → Prop} {x dx : Addr} {k1 k2 k3 k4 k5 k6 k7 k8 t1 t2 t3 t5 t6 : Tok} {tx wd : List UInt8} {dep lev : Int} {r1 r2 : Addr}


theorem at_spec {j : Int} {tj : Tok}
    (B : Below A₀ base outer h₀) (F : Fr h₀ L s.heap m) (X : (Mine.kk.heap_1 w.params).In h₀) (N : News h₀ L s.heap news) (T : Top p loose mean mg mb h₀) (hk : cs.kind = .function)
    (hx : (x, instObj 253 dx) ∈ news) (hdx : (dx, dictOf (mEs w.params k1 k2 k3 k4 k5 k6 k7 k8 tx t1 wd t2 t3 dep t5 lev t6 r1 r2) 8) ∈ news)
    (hj : 0 ≤ j) (hlow : Low wd)
    (hdp : dp + 1 < recursionLimit) (hun : un + 8 < cLine)
    (hret : ∀ (k : Int) (t : Tok) (h' : Heap) (tk' : Nat), Fr h₀ L h' m → News h₀ L h' news → (k = 0 ∨ (97 ≤ k ∧ k ≤ 122)) → (j < wd.length → k = byteAt wd j) → Q (.int k t) { s with heap := h', toks := tk' }) :
    wpAny (model PySem.Challenge.pw_xm0621_01 w) (ktrTop dp un gd cn cs L a ccd cl outer) (call (.ref 133) [.ref x, .int j tj]) Q E s := by
  dsimp only [mEs] at hdx
  have hsz := hlow.1
  refine wpAny_call ?_
  k_with_none
  k_with "ite" => (k_here; first | (refine ite_isFalse (by simp only [bne_eq_false_iff_eq, decide_eq_false_iff_not, beq_eq_false_iff_ne, Bool.not_eq_false', decide_eq_true_eq, beq_iff_eq, List.size_toArray, ne_eq]; omega) ?_; walk_say "OWN NO") | (refine ite_pos (by simp only [bne_iff_ne, decide_eq_true_eq, beq_iff_eq, Bool.not_eq_true', decide_eq_false_iff_not, beq_eq_false_iff_ne, List.size_toArray, ne_eq]; omega) ?_; walk_say "OWN YES"))
  k_with "subscriptTail" => (k_here; (with_reducible show wpAny _ _ (subscriptTail _ _ (Value.bytes (List.toArray _) _) (Value.int _ _)) _ _ _); k_dflt (refine' by_item (by assumption) (by first | assumption | omega | (simp only [List.size_toArray] at *; omega)) (by first | assumption | omega | (simp only [List.size_toArray] at *; omega)) ?_); intro kb eb hb1 hb2)
  k_dflt cell_enter
  k_steps
  all_goals simp only [List.size_toArray] at *
  · refine hret _ _ _ _ (by assumption) (by assumption) (Or.inr ⟨by assumption, by assumption⟩) (fun _ => by assumption)
  · refine hret _ _ _ _ (by assumption) (by assumption) (Or.inl rfl) (fun h => by omega)

theorem count_spec
    (B : Below A₀ base outer h₀) (F : Fr h₀ L s.heap m) (X : (Mine.kk.heap_1 w.params).In h₀) (N : News h₀ L s.heap news) (T : Top p loose mean mg mb h₀) (hk : cs.kind = .function)
    (hx : (x, instObj 253 dx) ∈ news) (hdx : (dx, dictOf (mEs w.params k1 k2 k3 k4 k5 k6 k7 k8 tx t1 wd t2 t3 dep t5 lev t6 r1 r2) 8) ∈ news)
    (hdp : dp + 1 < recursionLimit) (hun : un + 8 < cLine)
    (hret : ∀ (h' : Heap) (tk' : Nat), Fr h₀ L h' m → News h₀ L h' news → Q .none { s with heap := h', toks := tk' }) :
    wpAny (model PySem.Challenge.pw_xm0621_01 w) (ktrTop dp un gd cn cs L a ccd cl outer) (call (.ref 119) [.ref x]) Q E s := by
  dsimp only [mEs] at hdx
  refine wpAny_call ?_
  k_with_none
  k_with "ite" => (k_here; first | (refine ite_isFalse (by simp only [bne_eq_false_iff_eq, decide_eq_false_iff_not, beq_eq_false_iff_ne, Bool.not_eq_false', decide_eq_true_eq, beq_iff_eq, List.size_toArray, ne_eq]; omega) ?_; walk_say "OWN NO") | (refine ite_pos (by simp only [bne_iff_ne, decide_eq_true_eq, beq_iff_eq, Bool.not_eq_true', decide_eq_false_iff_not, beq_eq_false_iff_ne, List.size_toArray, ne_eq]; omega) ?_; walk_say "OWN YES"))
  k_with "subscriptTail" => (k_here; (with_reducible show wpAny _ _ (subscriptTail _ _ (Value.bytes (List.toArray _) _) (Value.int _ _)) _ _ _); k_dflt (refine' by_item (by assumption) (by first | assumption | omega | (simp only [List.size_toArray] at *; omega)) (by first | assumption | omega | (simp only [List.size_toArray] at *; omega)) ?_); intro kb eb hb1 hb2)
  k_dflt cell_enter
  k_steps
  all_goals refine hret _ _ (by assumption) (by assumption)



theorem class_end_spec {j : Int} {tj : Tok}
    (B : Below A₀ base outer h₀) (F : Fr h₀ L s.heap m) (X : (Mine.kk.heap_1 w.params).In h₀) (N : News h₀ L s.heap news) (T : Top p loose mean mg mb h₀) (hk : cs.kind = .function)
    (hx : (x, instObj 253 dx) ∈ news) (hdx : (dx, dictOf (mEs w.params k1 k2 k3 k4 k5 k6 k7 k8 tx t1 wd t2 t3 dep t5 lev t6 r1 r2) 8) ∈ news)
    (hj : 0 ≤ j) (hjl : j < wd.length) (hlow : Low wd)
    (hdp : dp + 2 < recursionLimit) (hun : un + 16 < cLine)
    (hret : ∀ (t : Tok) (h' : Heap) (tk' : Nat), Fr h₀ L h' m → News h₀ L h' news → Q (.int (j + 1) t) { s with heap := h', toks := tk' }) :
    wpAny (model PySem.Challenge.pw_xm0621_01 w) (ktrTop dp un gd cn cs L a ccd cl outer) (call (.ref 140) [.ref x, .int j tj]) Q E s := by
  dsimp only [mEs] at hdx
  have hsz := hlow.1
  refine wpAny_call ?_
  k_with_none
  k_with "ite" => (k_here; first | (refine ite_isFalse (by simp only [bne_eq_false_iff_eq, decide_eq_false_iff_not, beq_eq_false_iff_ne, Bool.not_eq_false', decide_eq_true_eq, beq_iff_eq, List.size_toArray, ne_eq]; omega) ?_; walk_say "OWN NO") | (refine ite_pos (by simp only [bne_iff_ne, decide_eq_true_eq, beq_iff_eq, Bool.not_eq_true', decide_eq_false_iff_not, beq_eq_false_iff_ne, List.size_toArray, ne_eq]; omega) ?_; walk_say "OWN YES"))
  k_with "subscriptTail" => (k_here; (with_reducible show wpAny _ _ (subscriptTail _ _ (Value.bytes (List.toArray _) _) (Value.int _ _)) _ _ _); k_dflt (refine' by_item (by assumption) (by first | assumption | omega | (simp only [List.size_toArray] at *; omega)) (by first | assumption | omega | (simp only [List.size_toArray] at *; omega)) ?_); intro kb eb hb1 hb2)
  k_with "call ref" => (k_here; (with_reducible show wpAny _ _ (call (Value.ref 133) [Value.ref _, Value.int _ _]) _ _ _); k_dflt (refine' at_spec (by k_asm) (by k_asm) (by k_asm) (by k_asm) (by k_asm) (by first | exact rfl | assumption) (by k_mem) (by k_mem) (by omega) (by assumption) (by ktr_room) (by ktr_units) ?_); intro ka ta h' tk' F' N' ha1 ha2)
  k_with "call ref" => (k_here; (with_reducible show wpAny _ _ (call (Value.ref 119) [Value.ref _]) _ _ _); k_dflt (refine' count_spec (by k_asm) (by k_asm) (by k_asm) (by k_asm) (by k_asm) (by first | exact rfl | assumption) (by k_mem) (by k_mem) (by ktr_room) (by ktr_units) ?_); intro h' tk' F' N')
  k_dflt cell_enter
  k_steps
  all_goals refine hret _ _ _ (by assumption) (by assumption)

theorem is_single_spec {i j e : Int} {ti tj te : Tok}
    (B : Below A₀ base outer h₀) (F : Fr h₀ L s.heap m) (X : (Mine.kk.heap_1 w.params).In h₀) (N : News h₀ L s.heap news) (T : Top p loose mean mg mb h₀) (hk : cs.kind = .function)
    (hx : (x, instObj 253 dx) ∈ news) (hdx : (dx, dictOf (mEs w.params k1 k2 k3 k4 k5 k6 k7 k8 tx t1 wd t2 t3 dep t5 lev t6 r1 r2) 8) ∈ news)
    (hi : 0 ≤ i) (hj : 0 ≤ j) (hjl : j < wd.length) (hlow : Low wd) (hlowt : Low tx)
    (hdp : dp + 1 < recursionLimit) (hun : un + 8 < cLine)
    (hret : ∀ (b : Bool) (h' : Heap) (tk' : Nat), Fr h₀ L h' m → News h₀ L h' news → (b = true ↔ (i < tx.length ∧ byteAt tx i = byteAt wd j)) → Q (.bool b) { s with heap := h', toks := tk' }) :
    wpAny (model PySem.Challenge.pw_xm0621_01 w) (ktrTop dp un gd cn cs L a ccd cl outer) (call (.ref 154) [.ref x, .int i ti, .int j tj, .int e te]) Q E s := by
  dsimp only [mEs] at hdx
  have hsz := hlow.1
  have hszt := hlowt.1
  refine wpAny_call ?_
  k_with_none
  k_with "ite" => (k_here; first | (refine ite_isFalse (by simp only [bne_eq_false_iff_eq, decide_eq_false_iff_not, beq_eq_false_iff_ne, Bool.not_eq_false', decide_eq_true_eq, beq_iff_eq, List.size_toArray, ne_eq]; omega) ?_; walk_say "OWN NO") | (refine ite_pos (by simp only [bne_iff_ne, decide_eq_true_eq, beq_iff_eq, Bool.not_eq_true', decide_eq_false_iff_not, beq_eq_false_iff_ne, List.size_toArray, ne_eq]; omega) ?_; walk_say "OWN YES"))
  k_with "subscriptTail" => (k_here; (with_reducible show wpAny _ _ (subscriptTail _ _ (Value.bytes (List.toArray _) _) (Value.int _ _)) _ _ _); k_dflt (refine' by_item (by assumption) (by first | assumption | omega | (simp only [List.size_toArray] at *; omega)) (by first | assumption | omega | (simp only [List.size_toArray] at *; omega)) ?_); intro kb eb hb1 hb2)
  k_with "call ref" => (k_here; (with_reducible show wpAny _ _ (call (Value.ref 133) [Value.ref _, Value.int _ _]) _ _ _); k_dflt (refine' at_spec (by k_asm) (by k_asm) (by k_asm) (by k_asm) (by k_asm) (by first | exact rfl | assumption) (by k_mem) (by k_mem) (by omega) (by assumption) (by ktr_room) (by ktr_units) ?_); intro ka ta h' tk' F' N' ha1 ha2)
  k_with "call ref" => (k_here; (with_reducible show wpAny _ _ (call (Value.ref 119) [Value.ref _]) _ _ _); k_dflt (refine' count_spec (by k_asm) (by k_asm) (by k_asm) (by k_asm) (by k_asm) (by first | exact rfl | assumption) (by k_mem) (by k_mem) (by ktr_room) (by ktr_units) ?_); intro h' tk' F' N')
  k_dflt cell_enter
  k_steps
  all_goals simp only [List.size_toArray] at *
  · exact hret _ _ _ (by assumption) (by assumption) ⟨fun h => (nomatch h), fun h => by omega⟩
  · rename_i F' N' _ _
    refine hret _ _ _ (by assumption) (cb_drop (by assumption) fun q hq => .tail _ hq) ?_
    simp only [beq_iff_eq]
    omega
end

end
section
def OwnEnd (J : Shared → Prop) (s₂ : Shared) : Prop := J s₂
def OwnPost (Q : Flow → Shared → Prop) (J : Shared → Prop) (f : Flow) (s₂ : Shared) : Prop := match f with
  | .ret v => Q (.ret v) s₂
  | .brk => Q .next s₂
  | _ => OwnEnd J s₂
theorem own_while {prog : Program} {w : World} {A : Around} {E : Value → Shared → Prop} {Q : Flow → Shared → Prop} {s : Shared} {env : Env} {h₀ : Heap} {L : Addr}
    {σ : Type} {test : PySem.Expr} {body : List Stmt} {pos : Pos} {m₀ : Str → Option Value} (Led : σ → List (Addr × Obj)) (ps : σ → List (Str × Value)) (stored : List Str) (P : σ → Prop) (μ : σ → Nat) (c₀ : σ)
    (F : Fr h₀ L s.heap m₀) (N : News h₀ L s.heap (Led c₀)) (hk : ∀ p ∈ ps c₀, m₀ p.1 = some p.2) (hp : P c₀)
    (turn : ∀ (c : σ) (u : Str → Option Value) h tk, P c → Fr h₀ L h (kstB (fun z => if stored.contains z then u z else m₀ z) (ps c)) → News h₀ L h (Led c) →
      wpAny (model prog w) A (isTrue test env (eval test env)) (fun b s₂ =>
        if b = true then wpAny (model prog w) A (execs body env) (OwnPost Q (KswEnd h₀ L s Led ps (fun _ => True) stored m₀ P μ c)) E s₂ else Q .next s₂) E { s with heap := h, toks := tk })
    (hE : PassesOwn (model prog w) A env E := by passes_own) :
    wpAny (model prog w) A (exec (.While test body [] pos) env) Q E s :=
  ksw_while Led ps (fun _ => True) stored P μ c₀ F N trivial hk hp (fun c u h tk _ hp' F' N' => wpAny_mono (turn c u h tk hp' F' N') (fun b s₂ hb => by
    split
    · rename_i e
      rw [if_pos e] at hb
      refine wpAny_mono hb (fun f s₃ hf => ?_) fun _ _ x => x
      cases f <;> exact hf
    · rename_i e
      rw [if_neg e] at hb
      exact hb) fun _ _ x => x) hE

def Starts (tx : List UInt8) (i : Nat) (wd : List UInt8) : Prop := ∀ k : Nat, k < wd.length → i + k < tx.length ∧ byteAt tx ((i : Int) + (k : Int)) = byteAt wd (k : Int)

section
variable {w : World} {p : Program} {loose : List Str} {mean : ExcName → Option Value} {mg mb : Str → Option Value}
    {dp un : Nat} {gd : Option (List Code)} {cn : Str} {cs : Scope} {a : Addr} {ccd : Value} {cl : List (Str × Addr)} {outer : List Env} {A₀ : Around} {base h₀ : Heap} {L : Addr} {m : Str → Option Value} {news : List (Addr × Obj)} {s : Shared}
    {Q E : Value → Shared → Prop} {x dx : Addr} {k1 k2 k3 k4 k5 k6 k7 k8 t1 t2 t3 t5 t6 : Tok} {tx wd : List UInt8} {dep lev : Int} {r1 r2 : Addr}

theorem match_here_spec {i : Nat} {ti tp : Tok}
    (B : Below A₀ base outer h₀) (F : Fr h₀ L s.heap m) (X : (Mine.kk.heap_1 w.params).In h₀) (N : News h₀ L s.heap news) (T : Top p loose mean mg mb h₀) (hk : cs.kind = .function)
    (hx : (x, instObj 253 dx) ∈ news) (hdx : (dx, dictOf (mEs w.params k1 k2 k3 k4 k5 k6 k7 k8 tx t1 wd t2 t3 dep t5 lev t6 r1 r2) 8) ∈ news)
    (hlow : Low wd) (hlowt : Low tx)
    (hdp : dp + 3 < recursionLimit) (hun : un + 24 < cLine)
    (hret1 : ∀ (t : Tok) (h' : Heap) (tk' : Nat), Starts tx i wd → Fr h₀ L h' m → News h₀ L h' news → Q (.int ((i : Int) + (wd.length : Int)) t) { s with heap := h', toks := tk' })
    (hret2 : ∀ (h' : Heap) (tk' : Nat), ¬ Starts tx i wd → Fr h₀ L h' m → News h₀ L h' news → Q .none { s with heap := h', toks := tk' }) :
    wpAny (model PySem.Challenge.pw_xm0621_01 w) (ktrTop dp un gd cn cs L a ccd cl outer) (call (.ref 168) [.ref x, .int (i : Int) ti, .int 0 tp]) Q E s := by
  dsimp only [mEs] at hdx
  have hsz := hlow.1
  k_with_none
  k_with "ite" => (k_here; first | (refine ite_isFalse (by simp only [bne_eq_false_iff_eq, decide_eq_false_iff_not, beq_eq_false_iff_ne, Bool.not_eq_false', decide_eq_true_eq, beq_iff_eq, List.size_toArray, ne_eq]; omega) ?_; walk_say "OWN NO") | (refine ite_pos (by simp only [bne_iff_ne, decide_eq_true_eq, beq_iff_eq, Bool.not_eq_true', decide_eq_false_iff_not, beq_eq_false_iff_ne, List.size_toArray, ne_eq]; omega) ?_; walk_say "OWN YES"))
  k_with "subscriptTail" => (k_here; (with_reducible show wpAny _ _ (subscriptTail _ _ (Value.bytes (List.toArray _) _) (Value.int _ _)) _ _ _); k_dflt (refine' by_item (by assumption) (by first | assumption | omega | (simp only [List.size_toArray] at *; omega)) (by first | assumption | omega | (simp only [List.size_toArray] at *; omega)) ?_); intro kb eb hb1 hb2)
  k_with "call ref" => (k_here; (k_dflt show wpAny _ _ (call (Value.ref 133) [Value.ref _, Value.int _ _]) _ _ _); k_dflt (refine' at_spec (by k_asm) (by k_asm) (by k_asm) (by k_asm) (by k_asm) (by first | exact rfl | assumption) (by k_mem) (by k_mem) (by omega) (by assumption) (by ktr_room) (by ktr_units) ?_); intro ka ta h' tk' F' N' ha1 ha2)
  k_with "call ref" => (k_here; (k_dflt show wpAny _ _ (call (Value.ref 119) [Value.ref _]) _ _ _); k_dflt (refine' count_spec (by k_asm) (by k_asm) (by k_asm) (by k_asm) (by k_asm) (by first | exact rfl | assumption) (by k_mem) (by k_mem) (by ktr_room) (by ktr_units) ?_); intro h' tk' F' N')
  k_with "call ref" => (k_here; (k_dflt show wpAny _ _ (call (Value.ref 140) [Value.ref _, Value.int _ _]) _ _ _); k_dflt (refine' class_end_spec (by k_asm) (by k_asm) (by k_asm) (by k_asm) (by k_asm) (by first | exact rfl | assumption) (by k_mem) (by k_mem) (by omega) (by omega) (by assumption) (by ktr_room) (by ktr_units) ?_); intro ta h' tk' F' N')
  k_with "call ref" => (k_here; (k_dflt show wpAny _ _ (call (Value.ref 154) [Value.ref _, Value.int _ _, Value.int _ _, Value.int _ _]) _ _ _); k_dflt (refine' is_single_spec (by k_asm) (by k_asm) (by k_asm) (by k_asm) (by k_asm) (by first | exact rfl | assumption) (by k_mem) (by k_mem) (by omega) (by omega) (by omega) (by assumption) (by assumption) (by ktr_room) (by ktr_units) ?_); intro bs h' tk' F' N' hbs)
  k_with "OwnPost" => dsimp only [OwnPost]
  have hszt := hlowt.1
  refine wpAny_call ?_
  k_with "exec While Compare cons nil" => (
    (rename Fr _ _ _ _ => lF'); (rename News _ _ _ _ => lN')
    refine' own_while (σ := Int × Tok × Int × Tok) (fun _ => news) (fun c => [(Str.ofString "s", .int c.1 c.2.1), (Str.ofString "p", .int c.2.2.1 c.2.2.2)])
      [Str.ofString "first", Str.ofString "second", Str.ofString "end", Str.ofString "after", Str.ofString "is_here", Str.ofString "found"]
      (fun c => 0 ≤ c.2.2.1 ∧ c.2.2.1 ≤ (wd.length : Int) ∧ c.1 = (i : Int) + c.2.2.1 ∧ ∀ k : Nat, (k : Int) < c.2.2.1 → i + k < tx.length ∧ byteAt tx ((i : Int) + (k : Int)) = byteAt wd (k : Int)) (fun c => wd.length - c.2.2.1.toNat) ((i : Int), ti, 0, tp) lF' lN' ?kk ?kp ?kt
    (case kk => kst_all)
    (case kp => exact ⟨Int.le_refl 0, by dsimp only; omega, by dsimp only; omega, fun k hk => by dsimp only at hk; omega⟩)
    clear lF' lN'
    rintro ⟨sv, ts, j, tp'⟩ u h tk ⟨hj0, hjl, hsv, hpre⟩ F1 N1
    dsimp only at hj0 hjl hsv hpre
    dsimp only
    try k_fold)
  k_dflt cell_enter
  k_steps
  all_goals simp only [List.size_toArray] at *
  · (rename News _ _ _ _ => nE'); (rename Fr _ _ _ _ => fE')
    rename (_ = true ↔ _ ∧ _) => hbX
    have hb' := hbX.mp (by assumption)
    refine' ksw_end (?_, ?_, ?_, ?_) fE' nE' (fun q hq => .tail _ (.tail _ hq)) trivial ?ha ?hs ?hp ?hm
    case ha => kst_all
    case hs =>
      intro z h2 h3
      simp only [List.forall_mem_cons, List.not_mem_nil, false_implies, implies_true, and_true, ne_eq] at h2
      simp only [List.contains_cons, List.contains_nil, Bool.or_false, Bool.or_eq_false_iff, beq_eq_false_iff_ne, ne_eq] at h3
      simp only [kstB, h2, h3, if_false, List.contains_cons, List.contains_nil, Bool.or_false, beq_iff_eq, Bool.or_eq_true, or_self, Bool.false_eq_true]
    case hm => dsimp only; omega
    case hp =>
      refine ⟨by dsimp only; omega, by dsimp only; omega, by dsimp only; omega, fun k hk => ?_⟩
      dsimp only at hk
      by_cases hkj : (k : Int) < j
      · exact hpre k hkj
      · have hkk : (k : Int) = j := by omega
        subst hsv
        rw [hkk]
        exact ⟨by omega, hb'.2⟩
  · (rename News h₀ _ _ _ => kN); (rename Fr h₀ _ _ m => kF)
    rename (_ = false) => hb
    rename (_ = true ↔ _ ∧ _) => hbX
    refine hret2 _ _ (fun hS => ?_) kF (cb_drop kN fun q hq => .tail _ hq)
    have h1 := hS j.toNat (by omega)
    have e : ((j.toNat : Nat) : Int) = j := by omega
    rw [e] at h1
    subst hsv
    have := hbX.mpr ⟨by omega, h1.2⟩
    rw [this] at hb
    cases hb
  · (rename News h₀ _ _ _ => kN); (rename Fr h₀ _ _ m => kF)
    have e : j = (wd.length : Int) := by omega
    subst e
    subst hsv
    exact hret1 _ _ _ (fun k hk => hpre k (by omega)) kF kN
end

end
section
local macro_rules | `(tactic| walk_at "call ref") => `(tactic| (k_here; (first | k_dflt show wpAny _ _ (call (Value.ref 161) _) _ _ _ | k_dflt show wpAny _ _ (call (Value.ref 126) _) _ _ _); k_dflt (refine wpAny_call ?_; refine' code_def ?k1 ?k2 ?k3 ?k4 ?k5 ?kA ?kF ?kK ?k6 ?k7 ?k8 ?k9 ?kB ?_ ?c2 ?c3 ?c4 ?c5; (case kA => exact rfl); (case kF => exact rfl); (case kK => first | exact rfl | assumption); (case k1 => k_asm); (case k2 => k_asm); (case k3 => k_asm); (case k4 => k_asm); (case k5 => k_asm); (case k6 => k_is); (case k7 => k_is); (case k8 => ktr_room); (case k9 => exact BindsTo.of_eq rfl); (case c5 => decide); (case kB => exact locs rfl); (case c2 => exact rfl); (case c3 => exact rfl); (case c4 => exact rfl); k_whole; intro g' L' h' FG' F' N' B' X' T'; (try dsimp only); (try k_lift B'); (try k_fold))))
theorem news_drop1 {h₀ h : Heap} {L : Addr} {q : Addr × Obj} {l rest : List (Addr × Obj)} (N : News h₀ L h (q :: l)) (hs : ∀ p ∈ rest, p ∈ l) : News h₀ L h (q :: rest) := fun p hp => by
  rcases List.mem_cons.mp hp with rfl | hp
  · exact N _ (.head _)
  · exact N _ (.tail _ (hs _ hp))

abbrev tup2 (u v : Value) : Obj := { cls := .type "tuple", data := .seq #[u, v] }

section
variable {w : World} {p : Program} {loose : List Str} {mean : ExcName → Option Value} {mg mb : Str → Option Value}
    {dp un : Nat} {gd : Option (List Code)} {cn : Str} {cs : Scope} {a : Addr} {ccd : Value} {cl : List (Str × Addr)} {outer : List Env} {A₀ : Around} {base h₀ : Heap} {L : Addr} {m : Str → Option Value} {news : List (Addr × Obj)} {s : Shared}
    {Q E : Value → Shared → Prop} {x dx : Addr} {k1 k2 k3 k4 k5 k6 k7 k8 t1 t2 t3 t5 t6 : Tok} {tx wd : List UInt8} {dep lev : Int} {r1 r2 : Addr}

theorem match_here_specI {i : Int} {ti tp : Tok}
    (B : Below A₀ base outer h₀) (F : Fr h₀ L s.heap m) (X : (Mine.kk.heap_1 w.params).In h₀) (N : News h₀ L s.heap news) (T : Top p loose mean mg mb h₀) (hk : cs.kind = .function)
    (hx : (x, instObj 253 dx) ∈ news) (hdx : (dx, dictOf (mEs w.params k1 k2 k3 k4 k5 k6 k7 k8 tx t1 wd t2 t3 dep t5 lev t6 r1 r2) 8) ∈ news)
    (hi : 0 ≤ i) (hlow : Low wd) (hlowt : Low tx)
    (hdp : dp + 3 < recursionLimit) (hun : un + 24 < cLine)
    (hret1 : ∀ (t : Tok) (h' : Heap) (tk' : Nat), Starts tx i.toNat wd → Fr h₀ L h' m → News h₀ L h' news → Q (.int (i + (wd.length : Int)) t) { s with heap := h', toks := tk' })
    (hret2 : ∀ (h' : Heap) (tk' : Nat), ¬ Starts tx i.toNat wd → Fr h₀ L h' m → News h₀ L h' news → Q .none { s with heap := h', toks := tk' }) :
    wpAny (model PySem.Challenge.pw_xm0621_01 w) (ktrTop dp un gd cn cs L a ccd cl outer) (call (.ref 168) [.ref x, .int i ti, .int 0 tp]) Q E s := by
  obtain ⟨n, rfl⟩ := Int.eq_ofNat_of_zero_le hi
  exact match_here_spec B F X N T hk hx hdx hlow hlowt hdp hun hret1 hret2


theorem search_spec {rest : List (Addr × Obj)} {ti tp : Tok}
    (B : Below A₀ base outer h₀) (F : Fr h₀ L s.heap m) (X : (Mine.kk.heap_1 w.params).In h₀)
    (N : News h₀ L s.heap ((x, instObj 253 dx) :: (dx, dictOf (mEs w.params k1 k2 k3 k4 k5 k6 k7 k8 tx t1 wd t2 t3 0 t5 0 t6 r1 r2) 8) :: rest)) (T : Top p loose mean mg mb h₀) (hk : cs.kind = .function)
    (hlt : ∀ p ∈ rest, p.1 < dx) (hxd : dx < x)
    (hlow : Low wd) (hlowt : Low tx)
    (hdp : dp + 5 < recursionLimit) (hun : un + 40 < cLine)
    (hret1 : ∀ (i : Int) (q : Addr) (t t' : Tok) (h' : Heap) (tk' : Nat), 0 ≤ i → i ≤ tx.length → Starts tx i.toNat wd → (∀ k : Nat, (k : Int) < i → ¬ Starts tx k wd) → Fr h₀ L h' m → News h₀ L h' ((q, tup2 (.int i t) (.int (i + (wd.length : Int)) t')) :: rest) → (∀ p ∈ rest, p.1 < q) → Q (.ref q) { s with heap := h', toks := tk' })
    (hret2 : ∀ (h' : Heap) (tk' : Nat), (∀ k : Nat, k ≤ tx.length → ¬ Starts tx k wd) → Fr h₀ L h' m → News h₀ L h' rest → Q .none { s with heap := h', toks := tk' }) :
    wpAny (model PySem.Challenge.pw_xm0621_01 w) (ktrTop dp un gd cn cs L a ccd cl outer) (call (.ref 250) [.ref x, .int 0 ti, .int 0 tp, .bool false]) Q E s := by
  dsimp only [mEs] at N
  have hsz := hlow.1
  have hszt := hlowt.1
  k_with_none
  k_with "ite" => (k_here; first | (refine ite_isFalse (by simp only [bne_eq_false_iff_eq, decide_eq_false_iff_not, beq_eq_false_iff_ne, Bool.not_eq_false', decide_eq_true_eq, beq_iff_eq, List.size_toArray, ne_eq]; omega) ?_; walk_say "OWN NO") | (refine ite_pos (by simp only [bne_iff_ne, decide_eq_true_eq, beq_iff_eq, Bool.not_eq_true', decide_eq_false_iff_not, beq_eq_false_iff_ne, List.size_toArray, ne_eq]; omega) ?_; walk_say "OWN YES"))
  k_with "subscriptTail" => (k_here; (with_reducible show wpAny _ _ (subscriptTail _ _ (Value.bytes (List.toArray _) _) (Value.int _ _)) _ _ _); k_dflt (refine' by_item (by assumption) (by first | assumption | omega | (simp only [List.size_toArray] at *; omega)) (by first | assumption | omega | (simp only [List.size_toArray] at *; omega)) ?_); intro kb eb hb1 hb2)
  k_with "call ref" => (k_here; (k_dflt show wpAny _ _ (call (Value.ref 133) [Value.ref _, Value.int _ _]) _ _ _); k_dflt (refine' at_spec (by k_asm) (by k_asm) (by k_asm) (by k_asm) (by k_asm) (by first | exact rfl | assumption) (by k_mem) (by k_mem) (by omega) (by assumption) (by ktr_room) (by ktr_units) ?_); intro ka ta h' tk' F' N' ha1 ha2)
  k_with "call ref" => (k_here; (k_dflt show wpAny _ _ (call (Value.ref 119) [Value.ref _]) _ _ _); k_dflt (refine' count_spec (by k_asm) (by k_asm) (by k_asm) (by k_asm) (by k_asm) (by first | exact rfl | assumption) (by k_mem) (by k_mem) (by ktr_room) (by ktr_units) ?_); intro h' tk' F' N')
  k_with "call ref" => (k_here; (k_dflt show wpAny _ _ (call (Value.ref 140) [Value.ref _, Value.int _ _]) _ _ _); k_dflt (refine' class_end_spec (by k_asm) (by k_asm) (by k_asm) (by k_asm) (by k_asm) (by first | exact rfl | assumption) (by k_mem) (by k_mem) (by omega) (by omega) (by assumption) (by ktr_room) (by ktr_units) ?_); intro ta h' tk' F' N')
  k_with "call ref" => (k_here; (k_dflt show wpAny _ _ (call (Value.ref 154) [Value.ref _, Value.int _ _, Value.int _ _, Value.int _ _]) _ _ _); k_dflt (refine' is_single_spec (by k_asm) (by k_asm) (by k_asm) (by k_asm) (by k_asm) (by first | exact rfl | assumption) (by k_mem) (by k_mem) (by omega) (by omega) (by omega) (by assumption) (by assumption) (by ktr_room) (by ktr_units) ?_); intro bs h' tk' F' N' hbs)
  k_with "OwnPost" => dsimp only [OwnPost]
  k_with "call ref" => (k_here; (k_dflt show wpAny _ _ (call (Value.ref 168) [Value.ref _, Value.int _ _, Value.int 0 _]) _ _ _); k_dflt (refine' match_here_specI (by k_asm) (by k_asm) (by k_asm) (by k_asm) (by k_asm) (by first | exact rfl | assumption) (by k_mem) (by k_mem) (by omega) (by assumption) (by assumption) (by ktr_room) (by ktr_units) (fun tm h' tk' hS F' N' => ?_) (fun h' tk' hS F' N' => ?_)); rotate_left)
  have hMk9 := kstMark
  replace hxd := ltN hxd
  refine wpAny_call ?_
  k_with "exec While Compare cons nil" => (
    (rename Fr _ _ _ _ => lF'); (rename News _ _ _ _ => lN')
    refine' own_while (σ := Int × Tok × Tok × Tok × Addr × Addr) (fun c => (x, instObj 253 dx) :: (dx, dictOf (mEs w.params k1 k2 k3 k4 k5 k6 k7 k8 tx t1 wd t2 t3 0 c.2.2.1 0 c.2.2.2.1 c.2.2.2.2.1 c.2.2.2.2.2) 8) :: rest) (fun c => [(Str.ofString "s", .int c.1 c.2.1)])
      [Str.ofString "end"]
      (fun c => 0 ≤ c.1 ∧ c.1 ≤ (tx.length : Int) + 1 ∧ ∀ k : Nat, (k : Int) < c.1 → ¬ Starts tx k wd) (fun c => tx.length + 1 - c.1.toNat) (0, ti, t5, t6, r1, r2) lF' lN' ?kk ?kp ?kt
    (case kk => kst_all)
    (case kp => exact ⟨Int.le_refl 0, by dsimp only; omega, fun k hk => by dsimp only at hk; omega⟩)
    clear lF' lN'
    rintro ⟨sv, ts, u5, u6, v1, v2⟩ u h tk ⟨hs0, hsl, hpre⟩ F1 N1
    dsimp only [mEs] at hs0 hsl hpre N1
    dsimp only
    try k_fold)
  k_dflt cell_enter
  k_steps
  all_goals simp only [List.size_toArray] at *
  · (rename News _ _ _ ((_, W.listOf #[] 0) :: (_, W.listOf #[] 0) :: _) => nE'); (rename Fr _ _ _ _ => fE')
    rename ¬ Starts tx _ wd => hS
    refine' ksw_end (?_, ?_, ?_, ?_, ?_, ?_) fE' nE' (fun q hq => .tail _ (.tail _ hq)) trivial ?ha ?hs ?hp ?hm
    case ha => kst_all
    case hs =>
      intro z h2 h3
      simp only [List.forall_mem_cons, List.not_mem_nil, false_implies, implies_true, and_true, ne_eq] at h2
      simp only [List.contains_cons, List.contains_nil, Bool.or_false, Bool.or_eq_false_iff, beq_eq_false_iff_ne, ne_eq] at h3
      simp only [kstB, h2, h3, if_false, List.contains_cons, List.contains_nil, Bool.or_false, beq_iff_eq, Bool.or_eq_true, or_self, Bool.false_eq_true]
    case hm => dsimp only; omega
    case hp =>
      refine ⟨by dsimp only; omega, by dsimp only; omega, fun k hk => ?_⟩
      dsimp only at hk
      by_cases hkj : (k : Int) < sv
      · exact hpre k hkj
      · have hkk : k = sv.toNat := by omega
        rw [hkk]
        exact hS
  · (rename News h₀ _ _ _ => kN); (rename Fr h₀ _ _ m => kF)
    rename _ ∧ _ ∧ _ ∧ _ ∧ AllLt _ rest => hl
    rename Starts tx _ wd => hS
    refine hret1 sv _ _ _ _ _ hs0 (by omega) hS hpre kF (news_drop1 kN fun q hq => .tail _ (.tail _ (.tail _ (.tail _ hq)))) (kst_ltOf hl.2.2.2.2)
  · (rename News h₀ _ _ _ => kN); (rename Fr h₀ _ _ m => kF)
    exact hret2 _ _ (fun k hk => hpre k (by omega)) kF (cb_drop kN fun q hq => .tail _ (.tail _ hq))
end

end
section
section find
open PySem.Builtin
theorem slot_bfind : Slot "bytes" "find" "bytes.find" :=
  .of (owner := "bytes") (n := "find") (by rw [typeLookup_type, builtinLookup_eq_fast]; kernel_rfl) (by decide +kernel) (by decide +kernel) (by decide +kernel)
    (by first | exact .inl (by decide +kernel) | exact .inr (by decide +kernel)) (by rw [isSubtype_type]; kernel_rfl)
theorem type_bfind : typeOf (.builtin "bytes.find") = pure (.type "method_descriptor") := by show builtinType _ = _; rw [builtinType_eq_fast]; kernel_rfl
theorem entry_bfind : entryFor table "bytes.find" = some Builtin.«bytes.find» := entryFor_of_tree (by kernel_rfl)
theorem args_bfind (a b : Value) : argsOk "bytes.find" ⟨[a, b], []⟩ := by
  unfold argsOk; rw [signature?_of (id := "bytes.find") (n := ['d', 'n', 'i', 'f']) (o := ['s', 'e', 't', 'y', 'b']) (by kernel_rfl) FB.owner_bytes]; kernel_rfl

theorem meets_find {b c : Array UInt8} {t u : Tok} (hb : Bytes.find? b c 0 b.size = none) :
    Meets («bytes.find» ⟨[.bytes b t, .bytes c u], []⟩) (fun _ R s => R (.ok (.ret (.int (-1) s.toks))) { s with toks := s.toks + 1 }) := by
  refine .of_wp fun prog w A R s h => ?_
  show wpAny _ _ (Bytes.searchArgs .bytes "find" ⟨[.bytes b t, .bytes c u], []⟩ >>= fun r => _) _ _ s
  refine wpAny_bind ?_
  unfold Bytes.searchArgs
  refine wpAny_bind (wpAny_of_eq (a := (.bytes b t, [.bytes c u])) rfl ?_)
  refine wpAny_bind (wpAny_of_eq (a := none) rfl ?_)
  refine wpAny_bind (wpAny_of_eq (a := none) rfl ?_)
  refine wpAny_bind (wpAny_of_eq KBy.buffer_eq ?_)
  refine wpAny_bind (wpAny_pure ?_)
  refine wpAny_bind (wpAny_of_eq (a := b) rfl (wpAny_pure ?_))
  have e : (Option.bind (if (Bytes.window b.size none none).2 - (Bytes.window b.size none none).1 < (c.size : Int) then none else some ((Bytes.window b.size none none).1.toNat, (Bytes.window b.size none none).2.toNat)) fun x => Bytes.find? b c x.1 x.2) = none := by
    have hw : Bytes.window b.size none none = (0, (b.size : Int)) := by
      unfold Bytes.window
      simp only [Option.getD_none]
      rw [if_neg (by decide), if_neg (by omega), Int.min_self]
    rw [hw]
    split
    · rfl
    · exact hb
  show wpAny _ _ (match Option.bind (if (Bytes.window b.size none none).2 - (Bytes.window b.size none none).1 < (c.size : Int) then none else some ((Bytes.window b.size none none).1.toNat, (Bytes.window b.size none none).2.toNat)) (fun x => Bytes.find? b c x.1 x.2) with | some i => retInt i | none => _) _ _ s
  rw [e]
  refine wpAny_bind (wpAny_rule ?_)
  rw [if_neg Bool.false_ne_true]
  exact wpAny_bind (wpAny_mkInt (wpAny_pure ⟨_, rfl, h⟩))

theorem find_none {x : List UInt8} (hlow : Low x) : Bytes.find? x.toArray #[0] 0 x.toArray.size = none := by
  unfold Bytes.find?
  rw [List.find?_eq_none]
  intro i _ he
  have he' : x.toArray.extract i (i + 1) = #[0] := by simpa using he
  have hm : (0 : UInt8) ∈ x.toArray.extract i (i + 1) := by rw [he']; exact Array.mem_singleton.mpr rfl
  have hx : (0 : UInt8) ∈ x := by
    obtain ⟨k, hk, e⟩ := Array.mem_extract_iff_getElem.mp hm
    exact e ▸ (by simp)
  have := hlow.2 0 hx
  simp at this

theorem bfind_method {A : Around} {E : Value → Shared → Prop} {s : Shared} {M : Model} {b : Array UInt8} {t : Tok} {pl : Sem Bool} {Q : Value × List Value → Shared → Prop} (h : Q (.builtin "bytes.find", [.bytes b t]) s) : wpAny M A (getMethod (.bytes b t) "find" pl) Q E s := by
  with_reducible exact KBd.method_of (.bytes b t) (typeIs_bytes _ _ _) slot_bfind type_bfind KBd.noRef h

theorem bfind_low {prog : Program} {w : World} {A : Around} {E : Value → Shared → Prop} {s : Shared} {x : List UInt8} {t u : Tok} {Q : Value → Shared → Prop} (hlow : Low x) (h : ∀ t' k, Q (.int (-1) t') { s with toks := k }) :
    wpAny (model prog w) A (call (.builtin "bytes.find") [.bytes x.toArray t, .bytes #[0] u]) Q E s :=
  call_meets slot_bfind (typeIs_bytes _ _ _) entry_bfind (args_bfind _ _) (meets_find (find_none hlow)) (h _ _)
end find

end
section
theorem news_drop2 {h₀ h : Heap} {L : Addr} {a b : Addr × Obj} {l : List (Addr × Obj)} (N : News h₀ L h (a :: b :: l)) : News h₀ L h l := fun p hp => N p (.tail _ (.tail _ hp))

section
variable {w : World} {p : Program} {loose : List Str} {mean : ExcName → Option Value} {mg mb : Str → Option Value}
    {dp un : Nat} {gd : Option (List Code)} {cn : Str} {cs : Scope} {a : Addr} {ccd : Value} {cl : List (Str × Addr)} {outer : List Env} {A₀ : Around} {base h₀ : Heap} {L : Addr} {m : Str → Option Value} {news : List (Addr × Obj)} {s : Shared}
    {Q E : Value → Shared → Prop} {x dx : Addr} {k1 k2 k3 k4 k5 k6 k7 k8 t1 t2 t3 t5 t6 : Tok} {tx wd : List UInt8} {dep lev : Int} {r1 r2 : Addr}

theorem make_spec {rest : List (Addr × Obj)} {tt tw : Tok}
    (B : Below A₀ base outer h₀) (F : Fr h₀ L s.heap m) (X : (Mine.kk.heap_1 w.params).In h₀)
    (N : News h₀ L s.heap rest) (T : Top p loose mean mg mb h₀) (hk : cs.kind = .function)
    (hlow : Low wd) (hlowt : Low tx)
    (hdp : dp + 5 < recursionLimit) (hun : un + 40 < cLine)
    (hret : ∀ (x dx : Addr) (k1 k2 k3 k4 k5 k6 k7 k8 t1 t2 t3 t5 t6 : Tok) (r1 r2 : Addr) (h' : Heap) (tk' : Nat), Fr h₀ L h' m →
      News h₀ L h' ((x, instObj 253 dx) :: (dx, dictOf (mEs w.params k1 k2 k3 k4 k5 k6 k7 k8 tx t1 wd t2 t3 0 t5 0 t6 r1 r2) 8) :: rest) →
      (∀ p ∈ rest, p.1 < dx) → dx < x → Q (.ref x) { s with heap := h', toks := tk' }) :
    wpAny (model PySem.Challenge.pw_xm0621_01 w) (ktrTop dp un gd cn cs L a ccd cl outer) (call (.ref 253) [.bytes tx.toArray tt, .bytes wd.toArray tw]) Q E s := by
  have hsz := hlow.1
  have hszt := hlowt.1
  k_with_none
  k_with "ite" => (k_here; first | (refine ite_isFalse (by simp only [bne_eq_false_iff_eq, decide_eq_false_iff_not, beq_eq_false_iff_ne, Bool.not_eq_false', decide_eq_true_eq, beq_iff_eq, List.size_toArray, ne_eq]; omega) ?_; walk_say "OWN NO") | (refine ite_pos (by simp only [bne_iff_ne, decide_eq_true_eq, beq_iff_eq, Bool.not_eq_true', decide_eq_false_iff_not, beq_eq_false_iff_ne, List.size_toArray, ne_eq]; omega) ?_; walk_say "OWN YES"))
  k_with "subscriptTail" => (k_here; (with_reducible show wpAny _ _ (subscriptTail _ _ (Value.bytes (List.toArray _) _) (Value.int _ _)) _ _ _); k_dflt (refine' by_item (by assumption) (by first | assumption | omega | (simp only [List.size_toArray] at *; omega)) (by first | assumption | omega | (simp only [List.size_toArray] at *; omega)) ?_); intro kb eb hb1 hb2)
  k_with "call ref" => (k_here; (k_dflt show wpAny _ _ (call (Value.ref 133) [Value.ref _, Value.int _ _]) _ _ _); k_dflt (refine' at_spec (by k_asm) (by k_asm) (by k_asm) (by k_asm) (by k_asm) (by first | exact rfl | assumption) (by k_mem) (by k_mem) (by omega) (by assumption) (by ktr_room) (by ktr_units) ?_); intro ka ta h' tk' F' N' ha1 ha2)
  k_with "call ref" => (k_here; (k_dflt show wpAny _ _ (call (Value.ref 119) [Value.ref _]) _ _ _); k_dflt (refine' count_spec (by k_asm) (by k_asm) (by k_asm) (by k_asm) (by k_asm) (by first | exact rfl | assumption) (by k_mem) (by k_mem) (by ktr_room) (by ktr_units) ?_); intro h' tk' F' N')
  k_with "call ref" => (k_here; (k_dflt show wpAny _ _ (call (Value.ref 140) [Value.ref _, Value.int _ _]) _ _ _); k_dflt (refine' class_end_spec (by k_asm) (by k_asm) (by k_asm) (by k_asm) (by k_asm) (by first | exact rfl | assumption) (by k_mem) (by k_mem) (by omega) (by omega) (by assumption) (by ktr_room) (by ktr_units) ?_); intro ta h' tk' F' N')
  k_with "call ref" => (k_here; (k_dflt show wpAny _ _ (call (Value.ref 154) [Value.ref _, Value.int _ _, Value.int _ _, Value.int _ _]) _ _ _); k_dflt (refine' is_single_spec (by k_asm) (by k_asm) (by k_asm) (by k_asm) (by k_asm) (by first | exact rfl | assumption) (by k_mem) (by k_mem) (by omega) (by omega) (by omega) (by assumption) (by assumption) (by ktr_room) (by ktr_units) ?_); intro bs h' tk' F' N' hbs)
  k_with "OwnPost" => dsimp only [OwnPost]
  k_with "call ref" => (k_here; (k_dflt show wpAny _ _ (call (Value.ref 253) _) _ _ _); k_dflt (refine' call_cls (by k_asm) (by k_asm) (by k_asm) (by k_is) (by k_is) (by k_is) ?_; k_whole; intro x' d' h' F' N' l1 l2; (try k_lt l1); (try k_lt2 l2); (try k_sweep); refine' code_def (by k_asm) (by k_asm) (by k_asm) (by k_asm) (by k_asm) (by exact rfl) (by exact rfl) (by first | exact rfl | assumption) (by k_is) (by k_is) (by ktr_room) (by first | exact BindsTo.of_eq rfl | exact binds_K (by k_in) rfl (by k_is) rfl rfl rfl) (by exact locs rfl) ?_ (by exact rfl) (by exact rfl) (by exact rfl) (by decide); k_whole; intro g' L' h' FG' F' N' B' X' T'; (try dsimp only); (try k_lift B'); (try k_fold)))
  k_with "getMethod bytes" => (k_here; (with_reducible refine bfind_method ?_))
  k_with "call builtin:bytes.find" => (k_here; k_dflt (refine' bfind_low (by assumption) ?_); intro t' k')
  have hMk9 := kstMark
  k_steps
  rename ∀ q ∈ rest, q.1 < _ => hl
  (rename News h₀ _ _ _ => kN); (rename Fr h₀ _ _ m => kF)
  exact hret _ _ _ _ _ _ _ _ _ _ _ _ _ _ _ _ _ _ _ kF (news_drop2 kN) hl (by with_reducible assumption)
end

end
section
section loops
variable {prog : Program} {w : World} {A : Around} {E : Value → Shared → Prop} {Q : Flow → Shared → Prop} {s : Shared} {env : Env} {h₀ : Heap} {x : Str} {body : List Stmt}

def LpEnd {σ : Type} (h₀ : Heap) (L : Addr) (s : Shared) (I : Addr) (oI : Obj) (Led : σ → List (Addr × Obj)) (ps : σ → List (Str × Value)) (P : Nat → σ → Prop) (x : Str) (stored : List Str) (m₀ : Str → Option Value) (j : Nat) (s₂ : Shared) : Prop :=
  ∃ (c' : σ) (h' : Heap) (tk : Nat) (m' : Str → Option Value) (news' : List (Addr × Obj)), s₂ = { s with heap := h', toks := tk } ∧ Fr h₀ L h' m' ∧ News h₀ L h' news' ∧ (∀ p ∈ (I, oI) :: Led c', p ∈ news') ∧ (∀ p ∈ Led c', p.1 ≠ I) ∧
    (∀ p ∈ ps c', m' p.1 = some p.2) ∧ (∀ z, z ≠ x → (∀ p ∈ ps c', z ≠ p.1) → stored.contains z = false → m' z = m₀ z) ∧ P j c'
theorem lp_end {σ : Type} {h₀ : Heap} {L : Addr} {s : Shared} {I : Addr} {oI : Obj} {Led : σ → List (Addr × Obj)} {ps : σ → List (Str × Value)} {P : Nat → σ → Prop} {x : Str} {stored : List Str} {m₀ m' : Str → Option Value} {j : Nat} {h' : Heap} {tk : Nat} {news' : List (Addr × Obj)} (c' : σ)
    (F : Fr h₀ L h' m') (N : News h₀ L h' news') (hn : ∀ p ∈ (I, oI) :: Led c', p ∈ news') (hi : ∀ p ∈ Led c', p.1 ≠ I) (hk : ∀ p ∈ ps c', m' p.1 = some p.2)
    (hr : ∀ z, z ≠ x → (∀ p ∈ ps c', z ≠ p.1) → stored.contains z = false → m' z = m₀ z) (hp : P j c') : OwnEnd (LpEnd h₀ L s I oI Led ps P x stored m₀ j) { s with heap := h', toks := tk } :=
  ⟨c', h', tk, m', news', rfl, F, N, hn, hi, hk, hr, hp⟩

theorem own_loop {σ : Type} {I : Addr} {fp : List Addr} {n : Nat} {Pv : Nat → Value → Prop} {St : Nat → Heap → Prop} {m₀ : Str → Option Value} (Led : σ → List (Addr × Obj)) (ps : σ → List (Str × Value)) (stored : List Str) (P : Nat → σ → Prop) (c₀ : σ)
    (W : Walks prog w A I fp [I] n Pv St) (hlive : ∀ i h, St i h → ∃ o, h.get? I = some o)
    (hfp : ∀ b ∈ fp, b = I ∨ (∃ o, h₀.get? b = some o) ∨ ∃ o, ∀ c, (b, o) ∈ Led c)
    (hLf : env.locals ∉ fp) (hI : h₀.get? I = none) (hnI : ∀ p ∈ Led c₀, p.1 ≠ I)
    (hst : St 0 s.heap) (F : Fr h₀ env.locals s.heap m₀) (N : News h₀ env.locals s.heap (Led c₀)) (hk : ∀ p ∈ ps c₀, m₀ p.1 = some p.2) (hp : P 0 c₀)
    (turn : ∀ (i : Nat) (v : Value) (c : σ) (u : Str → Option Value) (h : Heap) (tk : Nat) (oI : Obj), i < n → Pv i v → P i c → (∀ p ∈ Led c, p.1 ≠ I) →
      Fr h₀ env.locals h (fun y => if y = x then some v else kstB (fun z => if stored.contains z then u z else m₀ z) (ps c) y) → News h₀ env.locals h ((I, oI) :: Led c) →
      wpAny (model prog w) A (execs body env) (OwnPost Q (LpEnd h₀ env.locals s I oI Led ps P x stored m₀ (i + 1))) E { s with heap := h, toks := tk })
    (done : ∀ (c : σ) (u : Str → Option Value) (h : Heap) (tk : Nat), P n c → Fr h₀ env.locals h (fun y => if y = x then u y else kstB (fun z => if stored.contains z then u z else m₀ z) (ps c) y) → News h₀ env.locals h (Led c) → Q .next { s with heap := h, toks := tk }) :
    LoopAtV prog w A h₀ env x body Q E (.ref I) s := by
  have hIf : I ∈ fp := W.sub I (List.mem_singleton.mpr rfl)
  let J : Nat → (Str → Option Value) → List (Addr × Obj) → Prop := fun i m nx => ∃ c : σ, nx = Led c ∧ (∀ p ∈ ps c, m p.1 = some p.2) ∧ (∀ z, z ≠ x → (∀ p ∈ ps c, z ≠ p.1) → stored.contains z = false → m z = m₀ z) ∧ P i c
  refine ⟨I, fp, [I], n, Pv, St, m₀, Led c₀, J, rfl, W, hLf, ?_, ?_, hst, F, N, ⟨c₀, rfl, hk, fun _ _ _ _ => rfl, hp⟩, ?_, ?_⟩
  · intro b hb
    rw [List.mem_singleton.mp hb]; exact hI
  · intro p hp' hm
    exact hnI p hp' (List.mem_singleton.mp hm)
  · rintro i v m₁ nx s₁ own ⟨h, tk, rfl⟩ hin hP ⟨c, rfl, h1, h2, hp'⟩ hoff hown hget hall hst₁ F₁ N₁
    obtain ⟨oI, heI⟩ := hlive _ _ hst₁
    have hmI : (I, oI) ∈ own := hall I hIf hI oI heI
    have N₂ : News h₀ env.locals h ((I, oI) :: Led c) := fun q hq => by
      rcases List.mem_cons.mp hq with rfl | hq
      · exact N₁ _ (List.mem_append.mpr (.inl hmI))
      · exact N₁ _ (List.mem_append.mpr (.inr hq))
    refine wpAny_mono (turn i v c m₁ h tk oI hin hP hp' (fun q hq e => hoff q hq (by rw [e]; exact List.mem_singleton.mpr rfl)) (kst_fr h1 h2 F₁) N₂) (fun f s₂ q => ?_) fun _ _ e => e
    have fin : LpEnd h₀ env.locals s I oI Led ps P x stored m₀ (i + 1) s₂ → LoopStepU h₀ env.locals [I] own (J (i + 1)) { s with heap := h, toks := tk } .next s₂ := by
      rintro ⟨c', h', tk', m', news', rfl, F', N', hn', hi', hk', hr', hpp⟩
      refine ⟨rfl, h', tk', m', Led c', rfl, F', fun q hq => ?_, fun q hq hm => hi' q hq (List.mem_singleton.mp hm), c', rfl, hk', hr', hpp⟩
      rcases List.mem_append.mp hq with hq | hq
      · have hqg := hget q hq
        rcases hfp q.1 (hown q hq) with e | ⟨o, e⟩ | ⟨o, e⟩
        · have e2 : q = (I, oI) := by
            obtain ⟨qa, qo⟩ := q
            dsimp only at e hqg
            subst e
            rw [heI] at hqg
            cases hqg
            rfl
          rw [e2]
          exact N' _ (hn' _ (.head _))
        · have := (N₁ q (List.mem_append.mpr (.inl hq))).2.2
          rw [e] at this; cases this
        · have e1 := (N₁ _ (List.mem_append.mpr (.inr (e c)))).1
          have e2 : q = (q.1, o) := by
            obtain ⟨qa, qo⟩ := q
            dsimp only at e1 hqg ⊢
            rw [e1] at hqg
            cases hqg
            rfl
          rw [e2]
          exact N' _ (hn' _ (.tail _ (e c')))
      · exact N' _ (hn' _ (.tail _ hq))
    cases f with
    | ret v => exact .ret q
    | brk => exact .brk q
    | next => exact .next (fin q)
    | cont => exact .cont (fin q)
  · rintro h' tk m' nx F' N' _ ⟨c, rfl, h1, h2, hp'⟩
    exact done c m' h' tk hp' (kst_frOut h1 h2 F') N'

theorem own_range {σ : Type} {r : Addr} {b₀ : Int} {t₀ u₀ v₀ : Tok} {n : Nat} {m₀ : Str → Option Value} (Led : σ → List (Addr × Obj)) (ps : σ → List (Str × Value)) (stored : List Str) (P : Nat → σ → Prop) (c₀ : σ)
    (hh : A.handled = none) (hr : IsRange s.heap r 0 b₀ 1 t₀ u₀ v₀) (hsmall : Builtin.Range.small 0 b₀ 1 = true) (hn : Builtin.Range.rangeSize 0 b₀ 1 = (n : Int))
    (F : Fr h₀ env.locals s.heap m₀) (N : News h₀ env.locals s.heap (Led c₀)) (hk : ∀ p ∈ ps c₀, m₀ p.1 = some p.2) (hp : P 0 c₀)
    (turn : ∀ (I : Addr) (i : Nat) (t : Tok) (c : σ) (u : Str → Option Value) (h : Heap) (tk : Nat) (oI : Obj), (∀ p ∈ Led c₀, p.1 < I) → i < n → P i c → (∀ p ∈ Led c, p.1 ≠ I) →
      Fr h₀ env.locals h (fun y => if y = x then some (.int (i : Int) t) else kstB (fun z => if stored.contains z then u z else m₀ z) (ps c) y) → News h₀ env.locals h ((I, oI) :: Led c) →
      wpAny (model prog w) A (execs body env) (OwnPost Q (LpEnd h₀ env.locals s I oI Led ps P x stored m₀ (i + 1))) E { s with heap := h, toks := tk })
    (done : ∀ (c : σ) (u : Str → Option Value) (h : Heap) (tk : Nat), P n c → Fr h₀ env.locals h (fun y => if y = x then u y else kstB (fun z => if stored.contains z then u z else m₀ z) (ps c) y) → News h₀ env.locals h (Led c) → Q .next { s with heap := h, toks := tk }) :
    wpAny (model prog w) A (pyIter (.ref r)) (fun it s₂ => LoopAtV prog w A h₀ env x body Q E it s₂) E s := by
  refine wpAny_pyIter_range hr hsmall ?_
  have hlt : ∀ p ∈ Led c₀, p.1 < s.heap.objs.size := fun p hp => Heap.lt_size (N p hp).1
  refine own_loop (I := s.heap.objs.size) Led ps stored P c₀ (LCg.range_walks hh 0 n) (fun i h st => ⟨_, st⟩) (fun b hb => .inl (List.mem_singleton.mp hb)) ?_ (next_is_new F) (fun p hp => Nat.ne_of_lt (hlt p hp))
    (by show IsRangeIter _ _ _ _ _; rw [hn]; simpa using Heap.get?_push_size _ rfl) (F.push _) (fun p hp => ⟨Heap.get?_push_of_some _ (N p hp).1, (N p hp).2⟩) hk hp ?_ done
  · intro hm
    exact absurd F.ns.lt ((List.mem_singleton.mp hm) ▸ Nat.lt_irrefl _)
  · rintro i v c u h tk oI hin ⟨t, rfl⟩ hpc hne F' N'
    rw [Int.zero_add] at F'
    exact turn _ i t c u h tk oI hlt hin hpc hne F' N'

theorem own_list {σ : Type} {l : Addr} {vs : List Value} {k : Nat} {m₀ : Str → Option Value} (Led : σ → List (Addr × Obj)) (ps : σ → List (Str × Value)) (stored : List Str) (P : Nat → σ → Prop) (c₀ : σ)
    (hh : A.handled = none) (hl : ∀ c, (l, W.listOf vs.toArray k) ∈ Led c)
    (F : Fr h₀ env.locals s.heap m₀) (N : News h₀ env.locals s.heap (Led c₀)) (hk : ∀ p ∈ ps c₀, m₀ p.1 = some p.2) (hp : P 0 c₀)
    (turn : ∀ (I : Addr) (i : Nat) (v : Value) (c : σ) (u : Str → Option Value) (h : Heap) (tk : Nat) (oI : Obj), (∀ p ∈ Led c₀, p.1 < I) → vs[i]? = some v → P i c → (∀ p ∈ Led c, p.1 ≠ I) →
      Fr h₀ env.locals h (fun y => if y = x then some v else kstB (fun z => if stored.contains z then u z else m₀ z) (ps c) y) → News h₀ env.locals h ((I, oI) :: Led c) →
      wpAny (model prog w) A (execs body env) (OwnPost Q (LpEnd h₀ env.locals s I oI Led ps P x stored m₀ (i + 1))) E { s with heap := h, toks := tk })
    (done : ∀ (c : σ) (u : Str → Option Value) (h : Heap) (tk : Nat), P vs.length c → Fr h₀ env.locals h (fun y => if y = x then u y else kstB (fun z => if stored.contains z then u z else m₀ z) (ps c) y) → News h₀ env.locals h (Led c) → Q .next { s with heap := h, toks := tk }) :
    wpAny (model prog w) A (pyIter (.ref l)) (fun it s₂ => LoopAtV prog w A h₀ env x body Q E it s₂) E s := by
  have hlt : ∀ p ∈ Led c₀, p.1 < s.heap.objs.size := fun p hp => Heap.lt_size (N p hp).1
  have hls : s.heap.IsList l vs.toArray := ⟨_, (N _ (hl c₀)).1, rfl, k, rfl⟩
  have hll : l < s.heap.objs.size := hlt _ (hl c₀)
  refine wpAny_pyIter_list hls ?_
  have W := Walks.list (prog := prog) (w := w) hh s.heap.objs.size l (Nat.ne_of_lt hll) vs.toArray
  rw [List.size_toArray] at W
  refine own_loop (I := s.heap.objs.size) Led ps stored P c₀ W (fun i h st => by obtain ⟨o, e, _⟩ := st.1; exact ⟨o, e⟩) (fun b hb => ?_) ?_ (next_is_new F) (fun p hp => Nat.ne_of_lt (hlt p hp))
    ⟨⟨_, Heap.get?_push_size _ rfl, rfl, rfl⟩, hls.push _⟩ (F.push _) (fun p hp => ⟨Heap.get?_push_of_some _ (N p hp).1, (N p hp).2⟩) hk hp ?_ done
  · rcases List.mem_cons.mp hb with e | hb
    · exact .inl e
    · rw [List.mem_singleton.mp hb]; exact .inr (.inr ⟨_, hl⟩)
  · intro hm
    rcases List.mem_cons.mp hm with e | hm
    · exact absurd F.ns.lt (e ▸ Nat.lt_irrefl _)
    · exact (N _ (hl c₀)).2.1 (List.mem_singleton.mp hm).symm
  · intro i v c u h tk oI hin hv hpc hne F' N'
    exact turn _ i v c u h tk oI hlt (by simpa using hv) hpc hne F' N'
end loops

end
section
section loops2
variable {prog : Program} {w : World} {A : Around} {E : Value → Shared → Prop} {Q : Flow → Shared → Prop} {s : Shared} {env : Env} {h₀ : Heap} {x : Str} {body : List Stmt}
theorem own_rangeT {r : Addr} {b₀ : Int} {t₀ u₀ v₀ : Tok} {m₀ : Str → Option Value} {rest : List (Addr × Obj)} {T₀ : Addr} {vs₀ : List Value} {k₀ : Nat} {q : Addr × Obj} (n : Nat) (ps : Addr × List Value × Nat → List (Str × Value)) (stored : List Str) (P : Nat → Addr × List Value × Nat → Prop)
    (hh : A.handled = none) (hr : IsRange s.heap r 0 b₀ 1 t₀ u₀ v₀) (hsmall : Builtin.Range.small 0 b₀ 1 = true) (hn : Builtin.Range.rangeSize 0 b₀ 1 = (n : Int))
    (F : Fr h₀ env.locals s.heap m₀) (N : News h₀ env.locals s.heap (q :: (T₀, W.listOf vs₀.toArray k₀) :: rest)) (hk : ∀ p ∈ ps (T₀, vs₀, k₀), m₀ p.1 = some p.2) (hp : P 0 (T₀, vs₀, k₀))
    (turn : ∀ (I : Addr) (i : Nat) (t : Tok) (c : Addr × List Value × Nat) (u : Str → Option Value) (h : Heap) (tk : Nat) (oI : Obj), (∀ p ∈ (T₀, W.listOf vs₀.toArray k₀) :: rest, p.1 < I) → i < n → P i c → (∀ p ∈ (c.1, W.listOf c.2.1.toArray c.2.2) :: rest, p.1 ≠ I) →
      Fr h₀ env.locals h (fun y => if y = x then some (.int (i : Int) t) else kstB (fun z => if stored.contains z then u z else m₀ z) (ps c) y) → News h₀ env.locals h ((I, oI) :: (c.1, W.listOf c.2.1.toArray c.2.2) :: rest) →
      wpAny (model prog w) A (execs body env) (OwnPost Q (LpEnd h₀ env.locals s I oI (fun c : Addr × List Value × Nat => (c.1, W.listOf c.2.1.toArray c.2.2) :: rest) ps P x stored m₀ (i + 1))) E { s with heap := h, toks := tk })
    (done : ∀ (c : Addr × List Value × Nat) (u : Str → Option Value) (h : Heap) (tk : Nat), P n c → Fr h₀ env.locals h (fun y => if y = x then u y else kstB (fun z => if stored.contains z then u z else m₀ z) (ps c) y) → News h₀ env.locals h ((c.1, W.listOf c.2.1.toArray c.2.2) :: rest) → Q .next { s with heap := h, toks := tk }) :
    wpAny (model prog w) A (pyIter (.ref r)) (fun it s₂ => LoopAtV prog w A h₀ env x body Q E it s₂) E s :=
  own_range (fun c : Addr × List Value × Nat => (c.1, W.listOf c.2.1.toArray c.2.2) :: rest) ps stored P (T₀, vs₀, k₀) hh hr hsmall hn F (fun p hp => N p (.tail _ hp)) hk hp turn done
theorem own_listC {σ : Type} {l : Addr} {vs : List Value} {k : Nat} {m₀ : Str → Option Value} {rest : List (Addr × Obj)} (ps : σ → List (Str × Value)) (stored : List Str) (P : Nat → σ → Prop) (c₀ : σ)
    (hh : A.handled = none)
    (F : Fr h₀ env.locals s.heap m₀) (N : News h₀ env.locals s.heap ((l, W.listOf vs.toArray k) :: rest)) (hk : ∀ p ∈ ps c₀, m₀ p.1 = some p.2) (hp : P 0 c₀)
    (turn : ∀ (I : Addr) (i : Nat) (v : Value) (c : σ) (u : Str → Option Value) (h : Heap) (tk : Nat) (oI : Obj), (∀ p ∈ (l, W.listOf vs.toArray k) :: rest, p.1 < I) → vs[i]? = some v → P i c →
      Fr h₀ env.locals h (fun y => if y = x then some v else kstB (fun z => if stored.contains z then u z else m₀ z) (ps c) y) → News h₀ env.locals h ((I, oI) :: (l, W.listOf vs.toArray k) :: rest) →
      wpAny (model prog w) A (execs body env) (OwnPost Q (LpEnd h₀ env.locals s I oI (fun _ : σ => (l, W.listOf vs.toArray k) :: rest) ps P x stored m₀ (i + 1))) E { s with heap := h, toks := tk })
    (done : ∀ (c : σ) (u : Str → Option Value) (h : Heap) (tk : Nat), P vs.length c → Fr h₀ env.locals h (fun y => if y = x then u y else kstB (fun z => if stored.contains z then u z else m₀ z) (ps c) y) → News h₀ env.locals h ((l, W.listOf vs.toArray k) :: rest) → Q .next { s with heap := h, toks := tk }) :
    wpAny (model prog w) A (pyIter (.ref l)) (fun it s₂ => LoopAtV prog w A h₀ env x body Q E it s₂) E s :=
  own_list (fun _ : σ => (l, W.listOf vs.toArray k) :: rest) ps stored P c₀ hh (fun _ => .head _) F N hk hp (fun I i v c u h tk oI hI hv hP _ F' N' => turn I i v c u h tk oI hI hv hP F' N') done
end loops2

end
section
section dcomp
variable {prog : Program} {w : World} {A : Around} {s : Shared} {env : Env}

theorem compTurn2_0 (elt t0 i0 t1 i1 : PySem.Expr) (scope : Scope) (pos : Pos) (it acc : Value) (env : Env) :
    compTurn (.ListComp elt [⟨t0, i0, [], 0⟩, ⟨t1, i1, [], 0⟩] scope pos) 0 it acc env = (standAt i0.pos >>= fun _ => pyNext it >>= fun r => match r with
      | none => pure (.done .next)
      | some v => letOwnedTupleGo t0 it v >>= fun _ => assign t0 env v >>= fun _ =>
        eval i1 env >>= fun x => standAt i1.pos >>= fun _ => foldedSetIterable i1 env x >>= fun x => holding [x] (pyIter x) >>= fun it1 =>
          runOwn (.compStart (.ListComp elt [⟨t0, i0, [], 0⟩, ⟨t1, i1, [], 0⟩] scope pos) 1 it1 acc env) env >>= fun _ =>
          again (.compLoop (.ListComp elt [⟨t0, i0, [], 0⟩, ⟨t1, i1, [], 0⟩] scope pos) 0 it acc env)) := by rfl

theorem compTurn2_1 (elt t0 i0 t1 i1 : PySem.Expr) (scope : Scope) (pos : Pos) (it acc : Value) (env : Env) :
    compTurn (.ListComp elt [⟨t0, i0, [], 0⟩, ⟨t1, i1, [], 0⟩] scope pos) 1 it acc env = (standAt i1.pos >>= fun _ => pyNext it >>= fun r => match r with
      | none => pure (.done .next)
      | some v => letOwnedTupleGo t1 it v >>= fun _ => assign t1 env v >>= fun _ =>
        (eval elt env >>= fun x => call (.builtin "list.append") [acc, x] >>= fun _ => pure ()) >>= fun _ =>
          again (.compLoop (.ListComp elt [⟨t0, i0, [], 0⟩, ⟨t1, i1, [], 0⟩] scope pos) 1 it acc env)) := by rfl

def DcOk (K : Shared → Prop) (r : Result) (s : Shared) : Prop := match r with
  | .ok _ => K s
  | .error _ => False

theorem loop2_0 {elt t0 i0 t1 i1 : PySem.Expr} {scope : Scope} {pos : Pos} {it acc : Value} {env : Env} {R : Result → Shared → Prop} (I : Nat → Shared → Prop)
    (ht : ∀ v, letOwnedTupleGo t0 it v = pure ()) (hf : ∀ x, foldedSetIterable i1 env x = pure x)
    (turn : ∀ n s (E : Value → Shared → Prop), I n s → wpAny (model prog w) A (pyNext it) (fun r s₁ => match r with
      | none => R (.ok .next) s₁
      | some v => wpAny (model prog w) A (assign t0 env v) (fun _ s₂ => wpAny (model prog w) A (eval i1 env) (fun x s₃ => wpAny (model prog w) A (pyIter x) (fun it1 s₄ =>
          codeAny (model prog w) A (.compStart (.ListComp elt [⟨t0, i0, [], 0⟩, ⟨t1, i1, [], 0⟩] scope pos) 1 it1 acc env) (DcOk fun s₅ => ∃ m, m < n ∧ I m s₅) s₄) E s₃) E s₂) E s₁) E s)
    (n : Nat) (h : I n s) : codeAny (model prog w) A (.compLoop (.ListComp elt [⟨t0, i0, [], 0⟩, ⟨t1, i1, [], 0⟩] scope pos) 0 it acc env) R s := by
  refine codeAny_loop rfl I (fun n s hI => ?_) n h
  show wpAny _ A ((compTurn (.ListComp elt [⟨t0, i0, [], 0⟩, ⟨t1, i1, [], 0⟩] scope pos) 0 it acc env).onRaise (fun x => do noteFrame x env; theTreesLotGoes x)) _ _ s
  refine wpAny_noted ?_
  rw [compTurn2_0]
  refine wpAny_bind (wpAny_standAt (wpAny_bind (wpAny_mono (turn n s _ hI) (fun r s₁ h₁ => ?_) fun _ _ h' => h')))
  cases r with
  | none => exact wpAny_pure h₁
  | some v =>
    refine wpAny_bind (wpAny_of_eq (ht v) ?_)
    refine wpAny_bind (wpAny_mono h₁ (fun _ s₂ h₂ => ?_) fun _ _ h' => h')
    refine wpAny_bind (wpAny_mono h₂ (fun x s₃ h₃ => ?_) fun _ _ h' => h')
    refine wpAny_bind (wpAny_standAt (wpAny_bind (wpAny_of_eq (hf x) ?_)))
    refine wpAny_bind (wpAny_holding (wpAny_mono h₃ (fun it1 s₄ h₄ => ?_) fun _ _ h' => h'))
    refine wpAny_bind (wpAny_runOwn (codeAny_mono h₄ fun r s₅ h₅ => ?_))
    cases r with
    | ok f => exact wpAny_pure ⟨rfl, h₅⟩
    | error e => exact h₅.elim

theorem loop2_1 {elt t0 i0 t1 i1 : PySem.Expr} {scope : Scope} {pos : Pos} {it acc : Value} {env : Env} {R : Result → Shared → Prop} (I : Nat → Shared → Prop)
    (ht : ∀ v, letOwnedTupleGo t1 it v = pure ())
    (turn : ∀ n s (E : Value → Shared → Prop), I n s → wpAny (model prog w) A (pyNext it) (fun r s₁ => match r with
      | none => R (.ok .next) s₁
      | some v => wpAny (model prog w) A (assign t1 env v) (fun _ s₂ => wpAny (model prog w) A (eval elt env) (fun x s₄ =>
          wpAny (model prog w) A (call (.builtin "list.append") [acc, x]) (fun _ s₅ => ∃ m, m < n ∧ I m s₅) E s₄) E s₂) E s₁) E s)
    (n : Nat) (h : I n s) : codeAny (model prog w) A (.compLoop (.ListComp elt [⟨t0, i0, [], 0⟩, ⟨t1, i1, [], 0⟩] scope pos) 1 it acc env) R s := by
  refine codeAny_loop rfl I (fun n s hI => ?_) n h
  show wpAny _ A ((compTurn (.ListComp elt [⟨t0, i0, [], 0⟩, ⟨t1, i1, [], 0⟩] scope pos) 1 it acc env).onRaise (fun x => do noteFrame x env; theTreesLotGoes x)) _ _ s
  refine wpAny_noted ?_
  rw [compTurn2_1]
  refine wpAny_bind (wpAny_standAt (wpAny_bind (wpAny_mono (turn n s _ hI) (fun r s₁ h₁ => ?_) fun _ _ h' => h')))
  cases r with
  | none => exact wpAny_pure h₁
  | some v =>
    refine wpAny_bind (wpAny_of_eq (ht v) ?_)
    refine wpAny_bind (wpAny_mono h₁ (fun _ s₂ h₂ => ?_) fun _ _ h' => h')
    exact wpAny_bind (wpAny_bind (wpAny_mono h₂ (fun x s₄ h₄ => wpAny_bind (wpAny_mono h₄ (fun _ s₅ h₅ => wpAny_pure (wpAny_pure ⟨rfl, h₅⟩)) fun _ _ h' => h')) fun _ _ h' => h'))

theorem start2_1 {elt t0 i0 t1 i1 : PySem.Expr} {scope : Scope} {pos : Pos} {it acc : Value} {env : Env} {R : Result → Shared → Prop}
    (h0 : codeAny (model prog w) A (.compLoop (.ListComp elt [⟨t0, i0, [], 0⟩, ⟨t1, i1, [], 0⟩] scope pos) 1 it acc env) R s)
    (h : ∀ E : Value → Shared → Prop, wpAny (model prog w) A (pyIter it) (fun it' s' => codeAny (model prog w) A (.compLoop (.ListComp elt [⟨t0, i0, [], 0⟩, ⟨t1, i1, [], 0⟩] scope pos) 1 it' acc env) R s') E s) :
    codeAny (model prog w) A (.compStart (.ListComp elt [⟨t0, i0, [], 0⟩, ⟨t1, i1, [], 0⟩] scope pos) 1 it acc env) R s := by
  refine codeAny_of_tree ?_
  show wpAny _ _ ((compStart (.ListComp elt [⟨t0, i0, [], 0⟩, ⟨t1, i1, [], 0⟩] scope pos) 1 it acc env).onRaise (fun x => do noteFrame x env; standAt theWindowsPlace)) _ _ s
  refine wpAny_notedAt ?_
  unfold compStart
  show wpAny _ _ (ask >>= _) _ _ s
  refine wpAny_bind (wpAny_askSetting (wpAny_ite ?_))
  split
  · first
      | exact wpAny_bind (wpAny_pure (wpAny_pure (And.intro rfl h0)))
      | exact wpAny_pure (And.intro rfl h0)
  · first
      | exact wpAny_bind (wpAny_rule (wpAny_bind (wpAny_standAt (wpAny_bind (wpAny_mono (h _) (fun it' s' h' => wpAny_pure (And.intro rfl h')) fun _ _ x => x)))))
      | (refine wpAny_bind (wpAny_rule ?_); show wpAny _ _ (standAt i1.pos >>= _) _ _ s; exact wpAny_bind (wpAny_standAt (wpAny_bind (wpAny_mono (h _) (fun it' s' h' => wpAny_pure (And.intro rfl h')) fun _ _ x => x))))
end dcomp

end
section
section dcomp2
open PyProof.Rows.LCg
def BytesAre : List Value → List (List UInt8) → Prop
  | [], [] => True
  | v :: vs, t :: ts => (∃ k, v = .bytes t.toArray k) ∧ BytesAre vs ts
  | _, _ => False
theorem BytesAre.snoc : ∀ {vs : List Value} {ts : List (List UInt8)} {v : Value} {t : List UInt8}, BytesAre vs ts → (∃ k, v = .bytes t.toArray k) → BytesAre (vs ++ [v]) (ts ++ [t])
  | [], [], _, _, _, h => ⟨h, trivial⟩
  | _ :: _, _ :: _, _, _, H, h => ⟨H.1, BytesAre.snoc H.2 h⟩
  | [], _ :: _, _, _, H, _ => H.elim
  | _ :: _, [], _, _, H, _ => H.elim
theorem BytesAre.length : ∀ {vs : List Value} {ts : List (List UInt8)}, BytesAre vs ts → vs.length = ts.length
  | [], [], _ => rfl
  | _ :: _, _ :: _, H => by rw [List.length_cons, List.length_cons, BytesAre.length H.2]
  | [], _ :: _, H => H.elim
  | _ :: _, [], H => H.elim
theorem BytesAre.get : ∀ {vs : List Value} {ts : List (List UInt8)} {i : Nat} {v : Value}, BytesAre vs ts → vs[i]? = some v → ∃ t k, ts[i]? = some t ∧ v = .bytes t.toArray k
  | [], [], _, _, _, h => by simp at h
  | v :: vs, t :: ts, 0, _, H, h => by
    obtain ⟨k, e⟩ := H.1
    simp at h
    subst h
    exact ⟨t, k, by simp, e⟩
  | v :: vs, t :: ts, i + 1, _, H, h => by
    simp at h
    obtain ⟨t', k, e1, e2⟩ := BytesAre.get H.2 h
    exact ⟨t', k, by simpa using e1, e2⟩
  | [], _ :: _, _, _, H, _ => H.elim
  | _ :: _, [], _, _, H, _ => H.elim

def ext1 (t : List UInt8) (c : Int) : List UInt8 := t ++ [c.toNat.toUInt8]

variable {prog : Program} {w : World} {A : Around} {E : Value → Shared → Prop} {s : Shared} {env : Env} {h₀ : Heap} {L : Addr} {m : Str → Option Value}

/-- what the element asks: its value at a text and a letter -/
def EltAsk (prog : Program) (w : World) (A : Around) (h₀ : Heap) (L : Addr) (m : Str → Option Value) (cenv : Addr → Env) (elt : PySem.Expr) (x0 x1 : Str) (ts : List (List UInt8)) (cs : List Int) : Prop :=
  ∀ (C : Addr) (oC : Obj) (mC : Str → Option Value) (lg : List (Addr × Obj)) (s : Shared) (t : List UInt8) (tt : Tok) (c : Int) (ct : Tok) (Q E : Value → Shared → Prop), NsObj oC mC → mC x0 = some (.bytes t.toArray tt) → mC x1 = some (.int c ct) → t ∈ ts → c ∈ cs →
    Fr h₀ L s.heap m → News h₀ L s.heap ((C, oC) :: lg) →
    (∀ t' h' tk', Fr h₀ L h' m → News h₀ L h' ((C, oC) :: lg) → Q (.bytes (ext1 t c).toArray t') { s with heap := h', toks := tk' }) →
    wpAny (model prog w) A (eval elt (cenv C)) Q E s

theorem inner2 {elt t0 i0 i1 : PySem.Expr} {x0 x1 : Str} {px1 : Pos} {scope : Scope} {pos : Pos} {cenv : Addr → Env} {R : Result → Shared → Prop} {C D I1 lt : Addr} {ls : List Value} {cs : List Int} {k : Nat} {lg : List (Addr × Obj)} {ts : List (List UInt8)}
    {t : List UInt8} {tt : Tok} {mC : Str → Option Value} {ys : List Value} {acc : List (List UInt8)}
    (hA : A.handled = none) (he : EltAsk prog w A h₀ L m cenv elt x0 x1 ts cs) (hloc : (cenv C).locals = C) (hkd : (cenv C).kindOf x1 = some .local)
    (hpp : ((cenv C).scope.kind == .class || ((cenv C).scope.kind == .module && (cenv C).locals != (cenv C).globals)) = false)
    (hx : x0 ≠ x1) (hC₀ : h₀.get? C = none) (hD₀ : h₀.get? D = none) (hI₀ : h₀.get? I1 = none) (hCL : C ≠ L) (hDL : D ≠ L) (hIL : I1 ≠ L) (hCD : C ≠ D) (hIC : I1 ≠ C) (hID : I1 ≠ D)
    (hoff : ∀ p ∈ lg, p.1 ≠ C ∧ p.1 ≠ D ∧ p.1 ≠ I1) (hl : (lt, W.listOf ls.toArray k) ∈ lg) (hi : IntsAre ls cs) (ht : t ∈ ts) (hsz : acc.length + cs.length ≤ 1000)
    (F : Fr h₀ L s.heap m) (N : News h₀ L s.heap lg) (hn : s.heap.Ns C mC) (hD : s.heap.get? D = some (lst ys)) (hy : BytesAre ys acc) (hit : s.heap.IsListIter I1 lt 0) (hm : mC x0 = some (.bytes t.toArray tt))
    (done : ∀ h' tk mC' ys', Fr h₀ L h' m → News h₀ L h' lg → h'.Ns C mC' → h'.get? D = some (lst ys') → BytesAre ys' (acc ++ cs.map (ext1 t)) → R (.ok .next) { s with heap := h', toks := tk }) :
    codeAny (model prog w) A (.compLoop (.ListComp elt [⟨t0, i0, [], 0⟩, ⟨.Name x1 px1, i1, [], 0⟩] scope pos) 1 (.ref I1) (.ref D) (cenv C)) R s := by
  have hlI : lt ≠ I1 := (hoff _ hl).2.2
  have W := Walks.list (prog := prog) (w := w) hA I1 lt hlI ls.toArray
  rw [List.size_toArray] at W
  have hlen := hi.length
  have hls : ∀ h, News h₀ L h lg → h.IsList lt ls.toArray := fun h N => ⟨_, (N _ hl).1, rfl, k, rfl⟩
  refine loop2_1 (fun n s' => ∃ h' tk i ys' mC', s' = { s with heap := h', toks := tk } ∧ i ≤ ls.length ∧ n = ls.length + 1 - i ∧ (h'.IsListIter I1 lt i ∧ h'.IsList lt ls.toArray) ∧ Fr h₀ L h' m ∧ News h₀ L h' lg ∧ h'.Ns C mC' ∧ mC' x0 = some (.bytes t.toArray tt) ∧
      h'.get? D = some (lst ys') ∧ BytesAre ys' (acc ++ (cs.take i).map (ext1 t))) (fun v => rfl) ?_ (ls.length + 1)
    ⟨s.heap, s.toks, 0, ys, mC, rfl, Nat.zero_le _, rfl, ⟨hit, hls _ N⟩, F, N, hn, hm, hD, by simpa using hy⟩
  rintro n s' E' ⟨h', tk, i, ys', mC', rfl, hile, rfl, hst, F', N', hn', hm', hD', hy'⟩
  by_cases hlt : i < ls.length
  · refine W.item i _ _ _ hlt hst fun v h₂ tk₂ hPv hst₂ hk₂ => ?_
    have F₂ : Fr h₀ L h₂ m := fr_but F' hk₂ (Ne.symm hIL) hI₀
    have N₂ : News h₀ L h₂ lg := news_but N' hk₂ fun p hp => (hoff p hp).2.2
    have hn₂ : h₂.Ns C mC' := hn'.at' fun o e => hk₂ _ o (by simpa using Ne.symm hIC) e
    have hD₂ : h₂.get? D = some (lst ys') := hk₂ _ _ (by simpa using Ne.symm hID) hD'
    have hPv' : ls[i]? = some v := by simpa using hPv
    obtain ⟨c, ct, hci, rfl⟩ : ∃ c ct, cs[i]? = some c ∧ v = .int c ct := by
      have hlc : i < cs.length := by omega
      obtain ⟨ct, e⟩ := hi.get i cs[i] (by simp [hlc])
      rw [hPv'] at e
      exact ⟨cs[i], ct, by simp [hlc], Option.some.inj e⟩
    refine wpAny_assign_Name (wpAny_storeName_local hkd (by rw [hloc]; exact hn₂) (fun h₃ hn₃ hs₃ => ?_) hpp)
    rw [hloc] at hn₃ hs₃
    have F₃ : Fr h₀ L h₃ m := F₂.change hs₃ hCL hC₀
    have N₃ : News h₀ L h₃ lg := fun p hp => ⟨hs₃.extBut _ _ (hoff p hp).1 (N₂ p hp).1, (N₂ p hp).2⟩
    have hD₃ : h₃.get? D = some (lst ys') := hs₃.extBut _ _ (Ne.symm hCD) hD₂
    have hst₃ : h₃.IsListIter I1 lt (i + 1) := by
      obtain ⟨o, e, r⟩ := hst₂.1
      exact ⟨o, hs₃.extBut _ _ hIC e, r⟩
    obtain ⟨oC, heC, hoC⟩ := ns_obj hn₃
    obtain ⟨oI, heI, hrI⟩ := hst₃
    have N₄ : News h₀ L h₃ ((C, oC) :: (D, lst ys') :: (I1, oI) :: lg) := fun p hp => by
      rcases List.mem_cons.mp hp with rfl | hp
      · exact ⟨heC, hCL, hC₀⟩
      · rcases List.mem_cons.mp hp with rfl | hp
        · exact ⟨hD₃, hDL, hD₀⟩
        · rcases List.mem_cons.mp hp with rfl | hp
          · exact ⟨heI, hIL, hI₀⟩
          · exact N₃ p hp
    refine he C oC _ _ _ t tt c ct _ _ hoC (by simp [hx, hm']) (by simp) ht (List.mem_of_getElem? hci) F₃ N₄ fun t' h₅ tk₅ F₅ N₅ => ?_
    have zC := (N₅ _ (.head _)).1
    have zD := (N₅ _ (.tail _ (.head _))).1
    have zI := (N₅ _ (.tail _ (.tail _ (.head _)))).1
    have N₅' : News h₀ L h₅ lg := fun p hp => N₅ p (.tail _ (.tail _ (.tail _ hp)))
    have hyl := hy'.length
    refine append_at (hsz := by show ys'.toArray.size ≤ sizeLine; rw [List.size_toArray, hyl, sizeLine_eq]; simp; omega) zD fun h₆ hs₆ hD₆ => ?_
    refine ⟨ls.length + 1 - (i + 1), by omega, h₆, tk₅, i + 1, ys' ++ [.bytes (ext1 t c).toArray t'], _, rfl, hlt, rfl, ⟨⟨oI, hs₆.extBut _ _ hID zI, hrI⟩, ?_⟩, F₅.change hs₆ hDL hD₀, ?_, (hoC.ns zC).sameBut hs₆ hCD, by simp [hx, hm'], hD₆.trans (congrArg some (lst_snoc ys' _)), ?_⟩
    · exact hls _ fun p hp => ⟨hs₆.extBut _ _ (hoff p hp).2.1 (N₅' p hp).1, (N₅' p hp).2⟩
    · exact fun p hp => ⟨hs₆.extBut _ _ (hoff p hp).2.1 (N₅' p hp).1, (N₅' p hp).2⟩
    · rw [List.take_add_one, hci]
      simp only [Option.toList_some, List.map_append, List.map_cons, List.map_nil, ← List.append_assoc]
      exact hy'.snoc ⟨t', rfl⟩
  · obtain rfl : i = ls.length := Nat.le_antisymm hile (Nat.not_lt.mp hlt)
    refine W.done _ _ _ hst fun h₂ tk₂ hk₂ => ?_
    rw [hlen, List.take_length] at hy'
    exact done h₂ tk₂ mC' ys' (fr_but F' hk₂ (Ne.symm hIL) hI₀) (news_but N' hk₂ fun p hp => (hoff p hp).2.2) (hn'.at' fun o e => hk₂ _ o (by simpa using Ne.symm hIC) e) (hk₂ _ _ (by simpa using Ne.symm hID) hD') hy'
end dcomp2

end
section
section dcomp3
open PyProof.Rows.LCg
variable {prog : Program} {w : World} {A : Around} {E : Value → Shared → Prop} {s : Shared} {env : Env} {h₀ : Heap} {L : Addr} {m : Str → Option Value}

theorem dcomp {elt : PySem.Expr} {i0 i1 : PySem.Expr} {x0 x1 y : Str} {px0 px1 py : Pos} {scope : Scope} {pos spos : Pos} {cl : List (Str × Addr)} {Q : Flow → Shared → Prop} {T lt : Addr} {vs ls : List Value} {cs : List Int} {ts : List (List UInt8)} {kt k : Nat} {news : List (Addr × Obj)}
    (hA : A.handled = none) (hLe : env.locals = L)
    (hsw : swapsWith (.ListComp elt [⟨.Name x0 px0, i0, [], 0⟩, ⟨.Name x1 px1, i1, [], 0⟩] scope pos) (some (.Name y py)) spos.line env = pure true)
    (hclos : closureFor scope env = pure cl) (hcell : ∀ z ∈ scope.names, z.2 ≠ .cell) (hkind : scope.kind = .function)
    (hnames : ∀ z ∈ scope.names, z.2 = .local → scope.names.lookup z.1 = some .local) (hx0 : scope.names.lookup x0 = some .local) (hx1 : scope.names.lookup x1 = some .local) (hx : x0 ≠ x1)
    (hy : env.kindOf y = some .local) (hp : (env.scope.kind == .class || (env.scope.kind == .module && env.locals != env.globals)) = false)
    (hs0 : ∀ x, foldedSetIterable i0 env x = pure x) (hs1 : ∀ C x, foldedSetIterable i1 (compEnvC scope cl C env) x = pure x)
    (F : Fr h₀ L s.heap m) (N : News h₀ L s.heap news) (hT : (T, W.listOf vs.toArray kt) ∈ news) (hl : (lt, W.listOf ls.toArray k) ∈ news) (hb : BytesAre vs ts) (hi : IntsAre ls cs) (hsz : ts.length * cs.length + cs.length ≤ 1000)
    (h0 : ∀ Q : Value → Shared → Prop, Q (.ref T) s → wpAny (model prog w) A (eval i0 env) Q E s)
    (h1 : ∀ (C : Addr) (s : Shared) (Q E : Value → Shared → Prop), News h₀ L s.heap news → Q (.ref lt) s → wpAny (model prog w) A (eval i1 (compEnvC scope cl C env)) Q E s)
    (he : EltAsk prog w A h₀ L m (fun C => compEnvC scope cl C env) elt x0 x1 ts cs)
    (done : ∀ D h tk ys, BytesAre ys (ts.flatMap fun t => cs.map (ext1 t)) → Fr h₀ L h (fun z => if z = y then some (.ref D) else m z) → News h₀ L h ((D, lst ys) :: news) → (∀ p ∈ news, p.1 < D) → Q .next { s with heap := h, toks := tk }) :
    wpAny (model prog w) A (exec (.Assign [.Name y py] (.ListComp elt [⟨.Name x0 px0, i0, [], 0⟩, ⟨.Name x1 px1, i1, [], 0⟩] scope pos) spos) env) Q E s := by
  subst hLe
  rw [exec_Assign_Name_used _ _ _ _ hsw]
  refine wpAny_bind (wpAny_standAt (wpAny_bind ?_))
  show wpAny _ A (do let _ ← comprehension (.ListComp elt [⟨.Name x0 px0, i0, [], 0⟩, ⟨.Name x1 px1, i1, [], 0⟩] scope pos) scope env _ (newList []) false (eval i0 env) (some (assign (.Name y py) env))) _ _ s
  refine wpAny_bind (wpAny_mono (wpAny_comprehension_free (use := some (assign (.Name y py) env)) (Q := fun _ s' => Q .next s') rfl hs0 hclos hkind hnames (h0 _ ?_)) (fun _ s' hq => wpAny_pure (wpAny_pure hq)) fun _ _ e => e)
  have hlT : s.heap.IsList T vs.toArray := ⟨_, (N _ hT).1, rfl, kt, rfl⟩
  refine wpAny_pyIter_list hlT ?_
  refine wpAny_newObj_type (wpAny_newFunctionEnv hcell (by intro y hy; simp at hy) (fun h₁ hns₁ hsb₁ => ?_) hkind)
  have news_lt : ∀ p ∈ news, p.1 < s.heap.objs.size := fun p hp => Heap.lt_size (N p hp).1
  have hLlt : env.locals < s.heap.objs.size := F.ns.lt
  dsimp only at hns₁ hsb₁ ⊢
  generalize hH1 : s.heap.push { cls := .type "list_iterator", dict := none, data := .fields #[.ref T, .int 0 0] } = H1 at hns₁ hsb₁ ⊢
  have hD : H1.objs.size = s.heap.objs.size + 1 := by rw [← hH1, Heap.size_push]
  generalize hH2 : H1.push { cls := .type "list", dict := none, data := .seq ([] : List Value).toArray } = H2 at hns₁ hsb₁ ⊢
  have hC : H2.objs.size = s.heap.objs.size + 2 := by rw [← hH2, Heap.size_push, hD]
  have hI0 : H1.get? s.heap.objs.size = some { cls := .type "list_iterator", dict := none, data := .fields #[.ref T, .int 0 0] } := by rw [← hH1]; exact Heap.get?_push_size _ rfl
  have hD0 : H2.get? H1.objs.size = some (lst []) := by rw [← hH2]; exact Heap.get?_push_size _ rfl
  have up1 : ∀ b o, s.heap.get? b = some o → H1.get? b = some o := fun b o e => hH1 ▸ Heap.get?_push_of_some _ e
  have up2 : ∀ b o, H1.get? b = some o → H2.get? b = some o := fun b o e => hH2 ▸ Heap.get?_push_of_some _ e
  generalize hIe : s.heap.objs.size = I0 at *
  generalize hDe : H1.objs.size = D at *
  generalize hCe : H2.objs.size = C at *
  have up3 : ∀ b o, b < C → H2.get? b = some o → h₁.get? b = some o := fun b o hb e => hsb₁.extBut b o (Nat.ne_of_lt hb) (Heap.get?_push_of_some _ e)
  have up : ∀ b o, s.heap.get? b = some o → h₁.get? b = some o := fun b o e => up3 b o (by have := Heap.lt_size e; rw [hIe] at this; rw [hC]; exact Nat.lt_of_lt_of_le this (Nat.le_add_right _ _)) (up2 _ _ (up1 _ _ e))
  have hIget : h₁.get? I0 = some { cls := .type "list_iterator", dict := none, data := .fields #[.ref T, .int 0 0] } := up3 _ _ (by rw [hC]; exact Nat.lt_add_of_pos_right (by decide)) (up2 _ _ hI0)
  have hDget : h₁.get? D = some (lst []) := up3 _ _ (by rw [hC, hD]; exact Nat.lt_succ_self _) hD0
  have fresh₀ : ∀ a, I0 ≤ a → h₀.get? a = none := fun a ha => by
    cases e : h₀.get? a with
    | none => rfl
    | some o' => exact absurd (Nat.lt_of_lt_of_le (Heap.lt_size e) F.above) (Nat.not_lt.mpr (Nat.le_of_lt (Nat.lt_of_lt_of_le hLlt ha)))
  have hIL : I0 ≠ env.locals := Nat.ne_of_gt hLlt
  have hDL : D ≠ env.locals := Nat.ne_of_gt (by rw [hD]; exact Nat.lt_succ_of_lt hLlt)
  have hCL : C ≠ env.locals := Nat.ne_of_gt (by rw [hC]; exact Nat.lt_succ_of_lt (Nat.lt_succ_of_lt hLlt))
  have hCD : C ≠ D := Nat.ne_of_gt (by rw [hC, hD]; exact Nat.lt_succ_self _)
  have hIC : I0 ≠ C := Nat.ne_of_lt (by rw [hC]; exact Nat.lt_add_of_pos_right (by decide))
  have hID : I0 ≠ D := Nat.ne_of_lt (by rw [hD]; exact Nat.lt_succ_self _)
  have hoff : ∀ p ∈ news, p.1 ≠ C ∧ p.1 ≠ D ∧ p.1 ≠ I0 := fun p hp => ⟨Nat.ne_of_lt (by rw [hC]; exact Nat.lt_succ_of_lt (Nat.lt_succ_of_lt (news_lt p hp))), Nat.ne_of_lt (by rw [hD]; exact Nat.lt_succ_of_lt (news_lt p hp)), Nat.ne_of_lt (news_lt p hp)⟩
  have hC₀ := fresh₀ C (by rw [hC]; exact Nat.le_add_right _ _)
  have hD₀ := fresh₀ D (by rw [hD]; exact Nat.le_succ _)
  have hI₀ := fresh₀ I0 (Nat.le_refl _)
  have hTI : T ≠ I0 := (hoff _ hT).2.2
  have W := Walks.list (prog := prog) (w := w) hA I0 T hTI vs.toArray
  rw [List.size_toArray] at W
  have hlen := hb.length
  have hlenl := hi.length
  have hls : ∀ h, News h₀ env.locals h news → h.IsList T vs.toArray := fun h N => ⟨_, (N _ hT).1, rfl, kt, rfl⟩
  have loop : ∀ s₃ : Shared, s₃ = { s with heap := h₁, toks := s.toks + ([] : List (Str × Value)).length } →
      codeAny (model prog w) A (.compLoop (.ListComp elt [⟨.Name x0 px0, i0, [], 0⟩, ⟨.Name x1 px1, i1, [], 0⟩] scope pos) 0 (.ref I0) (.ref D) (compEnvC scope cl C env))
        (compPost (model prog w) A E (some (assign (.Name y py) env)) (fun _ s' => Q .next s') (.ref D) C) s₃ := by
    rintro s₃ rfl
    refine loop2_0 (fun n s' => ∃ h' tk i ys' mC', s' = { s with heap := h', toks := tk } ∧ i ≤ vs.length ∧ n = vs.length + 1 - i ∧ (h'.IsListIter I0 T i ∧ h'.IsList T vs.toArray) ∧ Fr h₀ env.locals h' m ∧ News h₀ env.locals h' news ∧ h'.Ns C mC' ∧
        h'.get? D = some (lst ys') ∧ BytesAre ys' ((ts.take i).flatMap fun t => cs.map (ext1 t)) ∧ C < h'.objs.size) (fun v => rfl) (hs1 C) ?_ (vs.length + 1)
      ⟨h₁, _, 0, [], _, rfl, Nat.zero_le _, rfl, ⟨⟨_, hIget, rfl, rfl⟩, hls _ (N.grown up)⟩, F.keeps up, N.grown up, hns₁, hDget, trivial, hns₁.lt⟩
    rintro n s' E' ⟨h', tk, i, ys', mC', rfl, hile, rfl, hst, F', N', hn', hD', hy', hCs⟩
    by_cases hlt : i < vs.length
    · refine W.item i _ _ _ hlt hst fun v h₂ tk₂ hPv hst₂ hk₂ => ?_
      have F₂ : Fr h₀ env.locals h₂ m := fr_but F' hk₂ (Ne.symm hIL) hI₀
      have N₂ : News h₀ env.locals h₂ news := news_but N' hk₂ fun p hp => (hoff p hp).2.2
      have hn₂ : h₂.Ns C mC' := hn'.at' fun o e => hk₂ _ o (by simpa using Ne.symm hIC) e
      have hD₂ : h₂.get? D = some (lst ys') := hk₂ _ _ (by simpa using Ne.symm hID) hD'
      have hPv' : vs[i]? = some v := by simpa using hPv
      obtain ⟨t, tt, hti, rfl⟩ := hb.get hPv'
      refine wpAny_assign_Name (wpAny_storeName_local (lookup_relabel_local hx0) hn₂ (fun h₃ hn₃ hs₃ => ?_) (by simp [compEnvC, relabel, hkind]))
      have F₃ : Fr h₀ env.locals h₃ m := F₂.change hs₃ hCL hC₀
      have N₃ : News h₀ env.locals h₃ news := fun p hp => ⟨hs₃.extBut _ _ (hoff p hp).1 (N₂ p hp).1, (N₂ p hp).2⟩
      have hD₃ : h₃.get? D = some (lst ys') := hs₃.extBut _ _ (Ne.symm hCD) hD₂
      obtain ⟨oI, heI, hrI⟩ := hst₂.1
      have heI₃ : h₃.get? I0 = some oI := hs₃.extBut _ _ hIC heI
      refine h1 C _ _ _ N₃ ?_
      have hll : h₃.IsList lt ls.toArray := ⟨_, (N₃ _ hl).1, rfl, k, rfl⟩
      refine wpAny_pyIter_list hll ?_
      have hC₃ : C < h₃.objs.size := hn₃.lt
      have hI1 : h₃.objs.size > C := hC₃
      have up₄ : ∀ b o, h₃.get? b = some o → (h₃.push { cls := .type "list_iterator", data := .fields #[.ref lt, .int 0 0] }).get? b = some o := fun b o e => Heap.get?_push_of_some _ e
      have big : ∀ b, b ≤ C → b ≠ h₃.objs.size := fun b hb => Nat.ne_of_lt (Nat.lt_of_le_of_lt hb hC₃)
      have hIle : I0 ≤ C := by rw [hC]; exact Nat.le_add_right _ _
      have hDle : D ≤ C := by rw [hC, hD]; exact Nat.le_succ _
      have N₄ : News h₀ env.locals (h₃.push { cls := .type "list_iterator", data := .fields #[.ref lt, .int 0 0] }) ((I0, oI) :: news) := fun p hp => by
        rcases List.mem_cons.mp hp with rfl | hp
        · exact ⟨up₄ _ _ heI₃, hIL, hI₀⟩
        · exact ⟨up₄ _ _ (N₃ p hp).1, (N₃ p hp).2⟩
      have inner : codeAny (model prog w) A (.compLoop (.ListComp elt [⟨.Name x0 px0, i0, [], 0⟩, ⟨.Name x1 px1, i1, [], 0⟩] scope pos) 1 (.ref h₃.objs.size) (.ref D) (compEnvC scope cl C env))
          (DcOk fun s₅ => ∃ n', n' < vs.length + 1 - i ∧ ∃ h' tk i ys' mC', s₅ = { s with heap := h', toks := tk } ∧ i ≤ vs.length ∧ n' = vs.length + 1 - i ∧ (h'.IsListIter I0 T i ∧ h'.IsList T vs.toArray) ∧ Fr h₀ env.locals h' m ∧ News h₀ env.locals h' news ∧ h'.Ns C mC' ∧
            h'.get? D = some (lst ys') ∧ BytesAre ys' ((ts.take i).flatMap fun t => cs.map (ext1 t)) ∧ C < h'.objs.size) { s with heap := h₃.push { cls := .type "list_iterator", data := .fields #[.ref lt, .int 0 0] }, toks := tk₂ + 1 } := by
        refine inner2 (cenv := fun C => compEnvC scope cl C env) (lt := lt) (ls := ls) (lg := (I0, oI) :: news) (t := t) (tt := tt) hA he rfl (lookup_relabel_local hx1) (by simp [compEnvC, relabel, hkind]) hx hC₀ hD₀ (fresh₀ _ (Nat.le_of_lt (Nat.lt_of_le_of_lt hIle hC₃))) hCL hDL
          (Nat.ne_of_gt (Nat.lt_of_lt_of_le hLlt (Nat.le_of_lt (Nat.lt_of_le_of_lt hIle hC₃)))) hCD (Ne.symm (big C (Nat.le_refl _))) (Ne.symm (big D hDle)) ?_ (.tail _ hl) hi (List.mem_of_getElem? hti) ?_ (F₃.keeps up₄) N₄ (hn₃.keeps up₄) (up₄ _ _ hD₃) hy' ⟨_, Heap.get?_push_size _ rfl, rfl, rfl⟩ (by simp) ?_
        · intro p hp
          rcases List.mem_cons.mp hp with rfl | hp
          · exact ⟨hIC, hID, big _ hIle⟩
          · exact ⟨(hoff p hp).1, (hoff p hp).2.1, Nat.ne_of_lt (Nat.lt_trans (news_lt p hp) (Nat.lt_of_le_of_lt hIle hC₃))⟩
        · have hfl : ((ts.take i).flatMap fun t => cs.map (ext1 t)).length ≤ ts.length * cs.length := by
            have : ∀ l : List (List UInt8), (l.flatMap fun t => cs.map (ext1 t)).length = l.length * cs.length := by
              intro l
              induction l with
              | nil => simp
              | cons a l ih => simp only [List.flatMap_cons, List.length_append, List.length_map, ih, List.length_cons, Nat.succ_mul]; omega
            rw [this, List.length_take]
            exact Nat.mul_le_mul_right _ (Nat.min_le_right _ _)
          omega
        · intro h₅ tk₅ mC₅ ys₅ F₅ N₅ hn₅ hD₅ hy₅
          refine ⟨vs.length + 1 - (i + 1), by omega, h₅, tk₅, i + 1, ys₅, mC₅, rfl, hlt, rfl, ⟨⟨oI, (N₅ _ (.head _)).1, hrI⟩, hls _ fun p hp => N₅ p (.tail _ hp)⟩, F₅, fun p hp => N₅ p (.tail _ hp), hn₅, hD₅, ?_, hn₅.lt⟩
          rw [List.take_add_one, hti]
          simpa using hy₅
      exact start2_1 inner fun E => wpAny_pyIter_listiter ⟨_, Heap.get?_push_size _ rfl, rfl, rfl⟩ inner
    · obtain rfl : i = vs.length := Nat.le_antisymm hile (Nat.not_lt.mp hlt)
      refine W.done _ _ _ hst fun h₂ tk₂ hk₂ => ?_
      rw [hlen, List.take_length] at hy'
      have F₂ : Fr h₀ env.locals h₂ m := fr_but F' hk₂ (Ne.symm hIL) hI₀
      have N₂ : News h₀ env.locals h₂ news := news_but N' hk₂ fun p hp => (hoff p hp).2.2
      have hn₂ : h₂.Ns C mC' := hn'.at' fun o e => hk₂ _ o (by simpa using Ne.symm hIC) e
      have hD₂ : h₂.get? D = some (lst ys') := hk₂ _ _ (by simpa using Ne.symm hID) hD'
      show wpAny _ A (assign (.Name y py) env (.ref D)) _ _ _
      refine wpAny_assign_Name (wpAny_storeName_local hy F₂.ns (fun h₃ hn₃ hs₃ => ?_) hp)
      have hL₀ : h₀.get? env.locals = none := Heap.get?_none_of_le F.above
      have F₃ : Fr h₀ env.locals h₃ (fun z => if z = y then some (.ref D) else m z) := ⟨hn₃, fun b o e => hs₃.extBut b o (fun q => by rw [q, hL₀] at e; cases e) (F₂.keep b o e), F₂.above⟩
      refine ⟨mC', hn₂.sameBut hs₃ hCL, fun h₄ hs₄ => done D h₄ _ ys' hy' (F₃.change hs₄ hCL hC₀) (fun p hp => ?_) fun p hp => by rw [hD]; exact Nat.lt_succ_of_lt (news_lt p hp)⟩
      rcases List.mem_cons.mp hp with rfl | hp
      · exact ⟨hs₄.extBut _ _ (Ne.symm hCD) (hs₃.extBut _ _ hDL hD₂), hDL, hD₀⟩
      · exact ⟨hs₄.extBut _ _ (hoff p hp).1 (hs₃.extBut _ _ (N₂ p hp).2.1 (N₂ p hp).1), (N₂ p hp).2⟩
  exact codeAny_compStart_list (loop _ rfl) (wpAny_pyIter_listiter ⟨_, hIget, rfl, rfl⟩ (loop _ rfl))
end dcomp3

end
section
def txs (cs : List Int) : Nat → List (List UInt8)
  | 0 => [[]]
  | k + 1 => (txs cs k).flatMap fun t => cs.map (ext1 t)
def occB (t wd : List UInt8) (i : Nat) : Bool := (t.drop i).take wd.length == wd
def fstAt (t wd : List UInt8) : Option Nat := (List.range (t.length + 1)).find? (occB t wd)
def cntStep (wd : List UInt8) (n : Nat) (a : Int × Int) (t : List UInt8) : Int × Int := match fstAt t wd with
  | none => (a.1 + 1, a.2)
  | some i => if i + wd.length = n then (a.1, a.2 + 1) else a
def cnt (wd : List UInt8) (n : Nat) (ts : List (List UInt8)) : Int × Int := ts.foldl (cntStep wd n) (0, 0)

theorem starts_iff {t wd : List UInt8} {i : Nat} : Starts t i wd ↔ occB t wd i = true := by
  unfold Starts occB
  rw [beq_iff_eq]
  constructor
  · intro h
    apply List.ext_getElem?
    intro k
    by_cases hk : k < wd.length
    · obtain ⟨h1, h2⟩ := h k hk
      rw [List.getElem?_take_of_lt hk, List.getElem?_drop, List.getElem?_eq_getElem h1, List.getElem?_eq_getElem hk]
      unfold byteAt at h2
      have e1 : ((i : Int) + (k : Int)).toNat = i + k := by omega
      rw [e1, Int.toNat_natCast, List.getD_eq_getElem?_getD, List.getD_eq_getElem?_getD, List.getElem?_eq_getElem h1, List.getElem?_eq_getElem hk] at h2
      congr 1
      apply UInt8.toNat_inj.mp
      simp only [Option.getD_some] at h2
      omega
    · rw [List.getElem?_eq_none (by rw [List.length_take]; omega), List.getElem?_eq_none (by omega)]
  · intro h k hk
    have hlen : wd.length ≤ t.length - i := by
      have := congrArg List.length h
      rw [List.length_take, List.length_drop] at this
      omega
    have h1 : i + k < t.length := by omega
    refine ⟨h1, ?_⟩
    have e : t[i + k]? = wd[k]? := by
      conv => rhs; rw [← h]
      rw [List.getElem?_take_of_lt hk, List.getElem?_drop]
    unfold byteAt
    have e1 : ((i : Int) + (k : Int)).toNat = i + k := by omega
    rw [e1, Int.toNat_natCast, List.getD_eq_getElem?_getD, List.getD_eq_getElem?_getD, e]

theorem fstAt_none {t wd : List UInt8} (h : ∀ k : Nat, k ≤ t.length → ¬ Starts t k wd) : fstAt t wd = none := by
  unfold fstAt
  rw [List.find?_eq_none]
  intro k hk
  rw [List.mem_range] at hk
  rw [← starts_iff]
  exact h k (by omega)

theorem fstAt_some {t wd : List UInt8} {i : Nat} (hi : i ≤ t.length) (h1 : Starts t i wd) (h2 : ∀ k : Nat, k < i → ¬ Starts t k wd) : fstAt t wd = some i := by
  unfold fstAt
  rw [List.find?_range_eq_some]
  refine ⟨starts_iff.mp h1, List.mem_range.mpr (by omega), fun k hk => ?_⟩
  have := h2 k hk
  rw [starts_iff] at this
  simpa using this

theorem starts_slice {t wd : List UInt8} {i : Nat} (h : Starts t i wd) : (t.drop i).take wd.length = wd := by
  have := starts_iff.mp h
  unfold occB at this
  simpa using this

theorem starts_len {t wd : List UInt8} {i : Nat} (hi : i ≤ t.length) (h : Starts t i wd) : i + wd.length ≤ t.length := by
  have := congrArg List.length (starts_slice h)
  rw [List.length_take, List.length_drop] at this
  omega

theorem txs_len (cs : List Int) : ∀ (k : Nat) (t : List UInt8), t ∈ txs cs k → t.length = k
  | 0, t, h => by
    rw [txs, List.mem_singleton] at h
    rw [h]; rfl
  | k + 1, t, h => by
    rw [txs, List.mem_flatMap] at h
    obtain ⟨u, hu, h⟩ := h
    obtain ⟨c, _, rfl⟩ := List.mem_map.mp h
    rw [ext1, List.length_append, txs_len cs k u hu]; rfl

theorem txs_count (cs : List Int) : ∀ k : Nat, (txs cs k).length = cs.length ^ k
  | 0 => rfl
  | k + 1 => by
    have : ∀ l : List (List UInt8), (l.flatMap fun t => cs.map (ext1 t)).length = l.length * cs.length := by
      intro l
      induction l with
      | nil => simp
      | cons a l ih => simp only [List.flatMap_cons, List.length_append, List.length_map, ih, List.length_cons, Nat.succ_mul]; omega
    rw [txs, this, txs_count cs k, Nat.pow_succ]

theorem txs_low {cs : List Int} (hc : ∀ c ∈ cs, 97 ≤ c ∧ c ≤ 122) : ∀ (k : Nat), k ≤ 1000 → ∀ t : List UInt8, t ∈ txs cs k → Low t := by
  intro k hk t ht
  refine ⟨by rw [txs_len cs k t ht]; exact hk, ?_⟩
  clear hk
  induction k generalizing t with
  | zero =>
    rw [txs, List.mem_singleton] at ht
    rw [ht]
    intro c h
    cases h
  | succ k ih =>
    rw [txs, List.mem_flatMap] at ht
    obtain ⟨u, hu, ht⟩ := ht
    obtain ⟨c, hcc, rfl⟩ := List.mem_map.mp ht
    intro b hb
    rw [ext1, List.mem_append] at hb
    rcases hb with hb | hb
    · exact ih u hu b hb
    · rw [List.mem_singleton] at hb
      rw [hb]
      have h1 := hc c hcc
      have e : c.toNat.toUInt8.toNat = c.toNat := by
        show c.toNat % 256 = c.toNat
        omega
      rw [e]
      omega

theorem ba0 {cs : List Int} {k : Tok} : BytesAre [Value.bytes #[] k] (txs cs 0) := ⟨⟨k, rfl⟩, trivial⟩

theorem txs2_sz {la lb : Int} {i : Nat} (h : i ≤ 3) : (txs [la, lb] i).length * [la, lb].length + [la, lb].length ≤ 1000 := by
  rw [txs_count]
  have h4 : i = 0 ∨ i = 1 ∨ i = 2 ∨ i = 3 := by omega
  rcases h4 with rfl | rfl | rfl | rfl <;> simp

theorem lt_up {l : List (Addr × Obj)} {d : Nat} (h : ∀ p ∈ l, p.1 < d) : ∀ p ∈ l, p.1 < d + 1 := fun p hp => Nat.lt_succ_of_lt (h p hp)

end
section
theorem bne_self_list (l : List UInt8) : (l != l) = false := by simp
theorem by_slice {prog : Program} {w : World} {A : Around} {E : Value → Shared → Prop} {s : Shared} {value slice : PySem.Expr} {x y : List UInt8} {t : Tok} {h₀ : Heap} {L : Addr} {m : PySem.Str → Option Value} {news : List (Addr × Obj)} {l u : Value} {lo hi : Option Int} {Q : Value → Shared → Prop}
    (hF : Fr h₀ L s.heap m) (hN : News h₀ L s.heap news) (hl : IsPart l lo) (hu : IsPart u hi) (hz : x.length ≤ 1000)
    (e : (x.drop (lo.elim 0 (clipAt x.length))).take (hi.elim x.length (clipAt x.length) - lo.elim 0 (clipAt x.length)) = y)
    (h : ∀ h' t' k, Fr h₀ L h' m → News h₀ L h' news → Q (.bytes y.toArray t') { s with heap := h', toks := k })
    (hs : subscripted slice false (.bytes x.toArray t) (.ref s.heap.objs.size) = operate [.ref s.heap.objs.size, .bytes x.toArray t] (getItem (.bytes x.toArray t) (.ref s.heap.objs.size)) := by with_unfolding_all rfl)
    (ht : ∀ r, letTemporaryGo value (.bytes x.toArray t) r = pure () := by intro _; with_unfolding_all rfl) :
    wpAny (model prog w) A (subscriptTail value slice (.bytes x.toArray t) (.ref s.heap.objs.size)) Q E { s with heap := s.heap.push { cls := .type "slice", data := .fields #[l, u, .none] } } := by
  refine KBc.slice_K (ks := KBw.bInts x.toArray) hF hN rfl hl hu (by rw [KBw.ints_length, List.size_toArray]; omega) (fun h' t' k F' N' _ => ?_) hs ht
  rw [KBc.picked_eq]
  simp only [List.size_toArray]
  rw [e]
  exact h h' t' k F' N'
theorem cut_starts {t wd : List UInt8} {i : Int} (h0 : 0 ≤ i) (h1 : i ≤ t.length) (hS : Starts t i.toNat wd) :
    (t.drop ((some i).elim 0 (clipAt t.length))).take ((some (i + (wd.length : Int))).elim t.length (clipAt t.length) - (some i).elim 0 (clipAt t.length)) = wd := by
  obtain ⟨k, rfl⟩ := Int.eq_ofNat_of_zero_le h0
  rw [Int.toNat_natCast] at hS
  have hl := starts_len (by omega) hS
  have e1 : (some ((k : Nat) : Int)).elim 0 (clipAt t.length) = k := by
    show clipAt t.length (k : Int) = k
    rw [clipAt_nat]; omega
  have e2 : (some (((k : Nat) : Int) + (wd.length : Int))).elim t.length (clipAt t.length) = k + wd.length := by
    show clipAt t.length ((k : Int) + (wd.length : Int)) = k + wd.length
    rw [← Int.natCast_add, clipAt_nat]; omega
  rw [e1, e2, Nat.add_sub_cancel_left]
  exact starts_slice hS
theorem cnt_next {wd : List UInt8} {n : Nat} {ts : List (List UInt8)} {i : Nat} {t : List UInt8} {f z : Int} (hti : ts[i]? = some t) (hP : (f, z) = cnt wd n (ts.take i)) : cnt wd n (ts.take (i + 1)) = cntStep wd n (f, z) t := by
  rw [hP, List.take_add_one, hti]
  simp [cnt, List.foldl_append]
theorem cnt_none {wd : List UInt8} {n : Nat} {ts : List (List UInt8)} {i : Nat} {t : List UInt8} {f z : Int} (hti : ts[i]? = some t) (hP : (f, z) = cnt wd n (ts.take i)) (h : ∀ k : Nat, k ≤ t.length → ¬ Starts t k wd) : (f + 1, z) = cnt wd n (ts.take (i + 1)) := by
  rw [cnt_next hti hP, cntStep, fstAt_none h]
theorem cnt_end {wd : List UInt8} {n : Nat} {ts : List (List UInt8)} {i : Nat} {t : List UInt8} {f z j : Int} (hti : ts[i]? = some t) (hP : (f, z) = cnt wd n (ts.take i)) (h0 : 0 ≤ j) (h1 : j ≤ t.length) (hS : Starts t j.toNat wd) (hp : ∀ k : Nat, (k : Int) < j → ¬ Starts t k wd) (he : j + wd.length = (n : Int)) : (f, z + 1) = cnt wd n (ts.take (i + 1)) := by
  rw [cnt_next hti hP, cntStep, fstAt_some (by omega) hS (fun k hk => hp k (by omega))]
  simp only
  rw [if_pos (by omega)]
theorem cnt_else {wd : List UInt8} {n : Nat} {ts : List (List UInt8)} {i : Nat} {t : List UInt8} {f z j : Int} (hti : ts[i]? = some t) (hP : (f, z) = cnt wd n (ts.take i)) (h0 : 0 ≤ j) (h1 : j ≤ t.length) (hS : Starts t j.toNat wd) (hp : ∀ k : Nat, (k : Int) < j → ¬ Starts t k wd) (he : ¬ j + wd.length = (n : Int)) : (f, z) = cnt wd n (ts.take (i + 1)) := by
  rw [cnt_next hti hP, cntStep, fstAt_some (by omega) hS (fun k hk => hp k (by omega))]
  simp only
  rw [if_neg (by omega)]

end
section
section
variable {w : World} {p : Program} {loose : List Str} {mean : ExcName → Option Value} {mg mb : Str → Option Value}
    {dp un : Nat} {gd : Option (List Code)} {cn : Str} {cs : Scope} {a : Addr} {ccd : Value} {cl : List (Str × Addr)} {outer : List Env} {A₀ : Around} {base h₀ : Heap} {L : Addr} {m : Str → Option Value} {news : List (Addr × Obj)} {s : Shared}
    {Q E : Value → Shared → Prop}

local macro_rules | `(tactic| walk_at "exec For Name Call cons nil") => `(tactic| (k_here; (rename Fr _ _ _ _ => lF'); (with_unfolding_all refine' For_invVF lF' ?k1 ?k2 ?_; (case k1 => exact rfl); (case k2 => exact rfl); k_whole)))
local macro_rules | `(tactic| walk_at "exec For Name Name cons nil") => `(tactic| (k_here; (rename Fr _ _ _ _ => lF'); (with_unfolding_all refine' For_invVF lF' ?k1 ?k2 ?_; (case k1 => exact rfl); (case k2 => exact rfl); k_whole)))

theorem counted_spec {wd : List UInt8} {n : Int} {lt : Addr} {ll : Nat} {la lb : Int} {tw tn ta tb : Tok}
    (B : Below A₀ base outer h₀) (F : Fr h₀ L s.heap m) (X : (Mine.kk.heap_1 w.params).In h₀)
    (N : News h₀ L s.heap news) (T : Top p loose mean mg mb h₀) (hk : cs.kind = .function)
    (hlt : (lt, W.listOf #[.int la ta, .int lb tb] ll) ∈ news)
    (hlow : Low wd) (hla : 97 ≤ la ∧ la ≤ 122) (hlb : 97 ≤ lb ∧ lb ≤ 122) (hn0 : 0 ≤ n) (hn : n ≤ 4)
    (hdp : dp + 7 < recursionLimit) (hun : un + 60 < cLine)
    (hret : ∀ (f z : Int) (q : Addr) (t t' : Tok) (h' : Heap) (tk' : Nat), (f, z) = cnt wd n.toNat (txs [la, lb] n.toNat) → Fr h₀ L h' m → News h₀ L h' ((q, tup2 (.int f t) (.int z t')) :: news) → (∀ p ∈ news, p.1 < q) → Q (.ref q) { s with heap := h', toks := tk' }) :
    wpAny (model PySem.Challenge.pw_xm0621_01 w) (ktrTop dp un gd cn cs L a ccd cl outer) (call (.ref 269) [.bytes wd.toArray tw, .ref lt, .int n tn]) Q E s := by
  have hsz := hlow.1
  k_with_none
  k_with "ite" => (k_here; first | (refine ite_isFalse (by simp only [bne_eq_false_iff_eq, decide_eq_false_iff_not, beq_eq_false_iff_ne, Bool.not_eq_false', decide_eq_true_eq, beq_iff_eq, List.size_toArray, ne_eq]; omega) ?_; walk_say "OWN NO") | (refine ite_pos (by simp only [bne_iff_ne, decide_eq_true_eq, beq_iff_eq, Bool.not_eq_true', decide_eq_false_iff_not, beq_eq_false_iff_ne, List.size_toArray, ne_eq]; omega) ?_; walk_say "OWN YES"))
  k_with "subscriptTail" => (k_here; (with_reducible show wpAny _ _ (subscriptTail _ _ (Value.bytes (List.toArray _) _) (Value.int _ _)) _ _ _); k_dflt (refine' by_item (by assumption) (by first | assumption | omega | (simp only [List.size_toArray] at *; omega)) (by first | assumption | omega | (simp only [List.size_toArray] at *; omega)) ?_); intro kb eb hb1 hb2)
  k_with "call ref" => (k_here; (k_dflt show wpAny _ _ (call (Value.ref 133) [Value.ref _, Value.int _ _]) _ _ _); k_dflt (refine' at_spec (by k_asm) (by k_asm) (by k_asm) (by k_asm) (by k_asm) (by first | exact rfl | assumption) (by k_mem) (by k_mem) (by omega) (by assumption) (by ktr_room) (by ktr_units) ?_); intro ka ta h' tk' F' N' ha1 ha2)
  k_with "call ref" => (k_here; (k_dflt show wpAny _ _ (call (Value.ref 119) [Value.ref _]) _ _ _); k_dflt (refine' count_spec (by k_asm) (by k_asm) (by k_asm) (by k_asm) (by k_asm) (by first | exact rfl | assumption) (by k_mem) (by k_mem) (by ktr_room) (by ktr_units) ?_); intro h' tk' F' N')
  k_with "call ref" => (k_here; (first | k_dflt show wpAny _ _ (call (Value.ref 269) _) _ _ _ | k_dflt show wpAny _ _ (call (Value.ref 274) _) _ _ _); k_dflt (refine wpAny_call ?_; refine' code_defC (by k_asm) (by k_asm) (by k_asm) (by k_asm) (by k_asm) (by exact rfl) (by exact rfl) (by first | exact rfl | assumption) (by k_is) (by k_is) (by ktr_room) (by exact BindsTo.of_eq rfl) (by exact rfl) (by decide +kernel) ?_ (by exact rfl) (by exact rfl) (by exact rfl); k_whole; intro g' L' h' tk' cells' FG' F' N' Y' B' X' T' l1; k_cells Y'; (have l2 := lt_up l1); (have l3 := lt_up l2); (have l4 := lt_up l3); (have l5 := lt_up l4); (have l6 := lt_up l5); (have l7 := lt_up l6); (try simp only [List.cons_append, List.nil_append] at N'); (try dsimp only); (try k_lift B'); (try k_fold)))
  k_with "OwnPost" => dsimp only [OwnPost]
  k_with "call ref" => (k_here; (k_dflt show wpAny _ _ (call (Value.ref 253) [Value.bytes (List.toArray _) _, Value.bytes (List.toArray _) _]) _ _ _); k_dflt (refine' make_spec (by k_asm) (by k_asm) (by k_asm) (by k_asm) (by k_asm) (by first | exact rfl | assumption) (by assumption) (by assumption) (by ktr_room) (by ktr_units) ?_); intro x' d' k1' k2' k3' k4' k5' k6' k7' k8' t1' t2' t3' t5' t6' r1' r2' h' tk' F' N' hlt' hxd')
  k_with "call ref" => (k_here; (k_dflt show wpAny _ _ (call (Value.ref 250) [Value.ref _, Value.int 0 _, Value.int 0 _, Value.bool false]) _ _ _); k_dflt (refine' search_spec (by k_asm) (by k_asm) (by k_asm) (by k_asm) (by k_asm) (by first | exact rfl | assumption) (by assumption) (by assumption) (by assumption) (by assumption) (by ktr_room) (by ktr_units) (fun is' q' ti' te' h' tk' hs0' hs1' hS' hpre' F' N' hq' => ?_) (fun h' tk' hS' F' N' => ?_)); rotate_left)
  k_with "subscriptTail" => (k_here; (with_reducible show wpAny _ _ (subscriptTail _ (Expr.Slice _ _ none _) (Value.bytes (List.toArray _) _) (Value.ref _)) _ _ _); (with_reducible rename Fr _ _ _ _ => F'); (with_reducible rename News _ _ _ _ => N'); (refine by_slice (s := ⟨_, _, _, _, _⟩) F' N' (by constructor) (by constructor) (by assumption) (cut_starts (by assumption) (by assumption) (by assumption)) ?_); intro _ _ _ _ _)
  k_with "ite" => (k_here; (refine ite_isFalse (bne_self_list _) ?_))
  have hMk9 := kstMark
  k_with "pyIter ref" => (
    (rename Fr _ _ _ _ => lF'); (rename News _ _ _ _ => lN'); (rename IsRange _ _ _ _ _ _ _ _ => rgX)
    with_unfolding_all refine' own_rangeT n.toNat (fun c => [(Str.ofString "texts", .ref c.1)]) [] (fun i c => BytesAre c.2.1 (txs [la, lb] i)) rfl rgX ?hsm ?hrs lF' lN' ?hk ?hp ?turn ?done
    (case hsm => exact small_one (by omega) (by omega) (by omega) (by omega))
    (case hrs => rw [rangeSize_nat, Int.sub_zero])
    (case hk => kst_all)
    (case hp => exact ba0)
    (all_goals (clear lF' lN'))
    (case' turn =>
      rintro I i t ⟨T1, vs, k⟩ u h tk oI hI hin hP hne F1 N1
      dsimp only at hP hne F1 N1
      try k_fold)
    (case' done =>
      rintro ⟨T1, vs, k⟩ u h tk hPb F1 N1
      dsimp only at hPb F1 N1
      try k_fold))
  k_with "pyIter ref" => (
    (rename Fr _ _ _ _ => lF'); (rename News _ _ _ _ => lN')
    with_unfolding_all refine' own_listC (σ := Int × Tok × Int × Tok) (l := T1) (vs := vs) (k := k) (fun c => [(Str.ofString "free_ones", .int c.1 c.2.1), (Str.ofString "at_end", .int c.2.2.1 c.2.2.2)]) [Str.ofString "found"] (fun i c => (c.1, c.2.2.1) = cnt wd n.toNat ((txs [la, lb] n.toNat).take i)) (0, _, 0, _) rfl lF' lN' ?yhk ?yhp ?yturn ?ydone
    (case yhk => kst_all)
    (case yhp => rfl)
    (all_goals (clear lF' lN'))
    (case' yturn =>
      rintro I i v ⟨f, tf, z, tz⟩ u h tk oI hI hv hP F1 N1
      dsimp only at hP F1 N1
      obtain ⟨t, tt, hti, rfl⟩ := hPb.get hv
      have htlow : Low t := txs_low (cs := [la, lb]) (by simp [hla, hlb]) n.toNat (by omega) t (List.mem_of_getElem? hti)
      have htlen : t.length = n.toNat := txs_len [la, lb] n.toNat t (List.mem_of_getElem? hti)
      have htlow1 := htlow.1
      try k_fold)
    (case' ydone =>
      rintro ⟨f, tf, z, tz⟩ u h tk hP F1 N1
      dsimp only at hP F1 N1
      try k_fold))
  k_with "exec Assign cons ListComp" => (
    (rename Fr _ _ _ _ => lF'); (rename News _ _ _ _ => lN')
    with_unfolding_all refine' dcomp (T := T1) (vs := vs) (kt := k) (lt := lt) (ls := [.int la ta, .int lb tb]) (k := ll) (ts := txs [la, lb] i) (cs := [la, lb]) rfl rfl ?zhsw ?zhclos ?zhcell ?zhkind ?zhnames ?zhx0 ?zhx1 ?zhx ?zhy ?zhp ?zhs0 ?zhs1 lF' lN' ?hT ?zhl hP ?zhi ?zhsz ?zh0 ?zh1 ?zhe ?zdone
    (case zhsw => with_unfolding_all rfl)
    (case zhclos => with_unfolding_all rfl)
    (case zhcell => decide)
    (case zhkind => with_unfolding_all rfl)
    (case zhnames => decide)
    (case zhx0 => with_unfolding_all rfl)
    (case zhx1 => with_unfolding_all rfl)
    (case zhx => decide)
    (case zhy => with_unfolding_all rfl)
    (case zhp => with_unfolding_all rfl)
    (case zhs0 => intro _; with_unfolding_all rfl)
    (case zhs1 => intro _ _; with_unfolding_all rfl)
    (case hT => k_mem)
    (case zhl => with_unfolding_all k_mem)
    (case zhi => l_intsW)
    (case zhsz => exact txs2_sz (by omega))
    (case zh0 => intro Q9 hq9; walk1; exact hq9)
    (case zh1 => intro C9 s9 Q9 E9 hN9 hq9; walk1; exact hq9)
    (case zhe =>
      unfold EltAsk
      intro C9 oC9 mC9 lg9 s9 t9 tt9 c9 ct9 Q9 E9 hoC9 hm0 hm1 ht9 hc9 F9 N9 hret9
      have hc8 : 97 ≤ c9 ∧ c9 ≤ 122 := by
        simp only [List.mem_cons, List.not_mem_nil, or_false] at hc9
        rcases hc9 with rfl | rfl
        · exact hla
        · exact hlb
      have hl9 := (txs_low (cs := [la, lb]) (by simp [hla, hlb]) i (by omega) t9 ht9).1
      k_steps
      (rename News _ _ _ _ => nE); (rename Fr _ _ _ _ => fE)
      exact hret9 _ _ _ fE (fun q hq => nE q (.tail _ hq)))
    (case' zdone =>
      intro D9 h9 tk9 ys9 hy9 F9 N9 hD9
      clear lF' lN'))
  k_steps
  · (rename News h₀ _ _ _ => kN); (rename Fr h₀ _ _ m => kF)
    rename _ ∧ _ ∧ AllLt _ news => hl
    rw [hPb.length, List.take_length] at hP
    exact hret _ _ _ _ _ _ _ hP kF (news_drop1 kN fun p hp => .tail _ (.tail _ hp)) (kst_ltOf hl.2.2)
  · (rename News _ _ _ _ => nE'); (rename Fr _ _ _ _ => fE')
    refine' lp_end (?_, ?_, ?_, ?_) fE' nE' (fun q hq => hq) (fun q hq => Nat.ne_of_lt (hI q hq)) ?ha ?hs (cnt_none hti hP (by assumption))
    case ha => kst_all
    case hs =>
      intro z9 h1 h2 h3
      simp only [List.forall_mem_cons, List.not_mem_nil, false_implies, implies_true, and_true, ne_eq] at h2
      simp only [List.contains_cons, List.contains_nil, Bool.or_false, Bool.or_eq_false_iff, beq_eq_false_iff_ne, ne_eq] at h3
      simp only [kstB, h1, h2, h3, if_false, List.contains_cons, List.contains_nil, Bool.or_false, beq_iff_eq, Bool.or_eq_true, or_self, Bool.false_eq_true]
  · (rename News _ _ _ _ => nE'); (rename Fr _ _ _ _ => fE')
    refine' lp_end (?_, ?_, ?_, ?_) fE' nE' (fun q hq => .tail _ hq) (fun q hq => Nat.ne_of_lt (hI q hq)) ?ha ?hs ?hp
    case ha => kst_all
    case hs =>
      intro z9 h1 h2 h3
      simp only [List.forall_mem_cons, List.not_mem_nil, false_implies, implies_true, and_true, ne_eq] at h2
      simp only [List.contains_cons, List.contains_nil, Bool.or_false, Bool.or_eq_false_iff, beq_eq_false_iff_ne, ne_eq] at h3
      simp only [kstB, h1, h2, h3, if_false, List.contains_cons, List.contains_nil, Bool.or_false, beq_iff_eq, Bool.or_eq_true, or_self, Bool.false_eq_true]
    case hp => exact cnt_end hti hP (by assumption) (by assumption) (by assumption) (by assumption) (by omega)
  · (rename News _ _ _ _ => nE'); (rename Fr _ _ _ _ => fE')
    refine' lp_end (?_, ?_, ?_, ?_) fE' nE' (fun q hq => .tail _ hq) (fun q hq => Nat.ne_of_lt (hI q hq)) ?ha ?hs ?hp
    case ha => kst_all
    case hs =>
      intro z9 h1 h2 h3
      simp only [List.forall_mem_cons, List.not_mem_nil, false_implies, implies_true, and_true, ne_eq] at h2
      simp only [List.contains_cons, List.contains_nil, Bool.or_false, Bool.or_eq_false_iff, beq_eq_false_iff_ne, ne_eq] at h3
      simp only [kstB, h1, h2, h3, if_false, List.contains_cons, List.contains_nil, Bool.or_false, beq_iff_eq, Bool.or_eq_true, or_self, Bool.false_eq_true]
    case hp => exact cnt_else hti hP (by assumption) (by assumption) (by assumption) (by assumption) (by omega)
  · refine' lp_end (D9, ys9, ys9.length) F9 N9 ?hn ?hi ?ha ?hs hy9
    case hn =>
      intro q hq
      rcases List.mem_cons.mp hq with rfl | hq
      · exact .tail _ (.head _)
      · rcases List.mem_cons.mp hq with rfl | hq
        · exact .head _
        · exact .tail _ (.tail _ (.tail _ hq))
    case hi =>
      intro q hq
      rcases List.mem_cons.mp hq with rfl | hq
      · exact Nat.ne_of_gt (hD9 (I, oI) (.head _))
      · exact Nat.ne_of_lt (hI q (.tail _ hq))
    case ha => kst_all
    case hs =>
      intro z9 h1 h2 h3
      simp only [List.forall_mem_cons, List.not_mem_nil, false_implies, implies_true, and_true, ne_eq] at h2
      simp only [List.contains_cons, List.contains_nil, Bool.or_false, Bool.or_eq_false_iff, beq_eq_false_iff_ne, ne_eq] at h3
      simp only [kstB, h1, h2, h3, if_false, List.contains_cons, List.contains_nil, Bool.or_false, beq_iff_eq, Bool.or_eq_true, or_self, Bool.false_eq_true]
end

end
section
section crest
open PyProof.Rows.LCg
theorem ints_snoc {y : Int} {t : Tok} : ∀ {vs : List Value} {ys : List Int}, IntsAre vs ys → IntsAre (vs ++ [.int y t]) (ys ++ [y])
  | _, _, .nil => .cons y t .nil
  | _, _, .cons z u r => .cons z u (ints_snoc r)
variable {prog : Program} {w : World} {A : Around} {h₀ : Heap} {L : Addr} {m : Str → Option Value} {env : Env} {elt : Expr} {x : Str} {scope : Scope} {cl : List (Str × Addr)} {s : Shared} {Fin : List Value → List (Addr × Obj) → Prop} {news : List (Addr × Obj)}

/-- what an element of ints asks: its value at the k-th turn over `range(a, …)` -/
def IntAsk (prog : Program) (w : World) (A : Around) (h₀ : Heap) (L : Addr) (m : Str → Option Value) (cenv : Addr → Env) (elt : Expr) (x : Str) (a : Int) (n : Nat) (g : Nat → Int) (news : List (Addr × Obj)) : Prop :=
  ∀ (s : Shared) (I C D : Addr) (oI oC oD : Obj) (mC : Str → Option Value) (k : Nat) (t : Tok) (Q E : Value → Shared → Prop), k < n → NsObj oC mC → mC x = some (.int (a + (k : Int)) t) →
    Fr h₀ L s.heap m → News h₀ L s.heap ((I, oI) :: (C, oC) :: (D, oD) :: news) → Off3 I C D news → (@Ne Nat I C) → (@Ne Nat I D) → (@Ne Nat C D) →
    (∀ y t' h' tk', y = g k → Fr h₀ L h' m → News h₀ L h' ((I, oI) :: (C, oC) :: (D, oD) :: news) → Q (.int y t') { s with heap := h', toks := tk' }) →
    wpAny (model prog w) A (eval elt (cenv C)) Q E s

def fill (f : Nat → Int) (n : Nat) : List Int := (List.range n).map f

theorem crest {a : Int} {n : Nat} (g : Nat → Int) (turn : IntAsk prog w A h₀ L m (fun C => compEnvC scope cl C env) elt x a n g news)
    (fin : ∀ ys, IntsAre ys (fill g n) → Fin ys news) :
    CompRest prog w A h₀ L m env elt x scope cl s (fun _ => True) (fun i v => ∃ t, v = .int (a + (i : Int)) t) Fin n 0 [] news := by
  have key : ∀ (j i : Nat) (ys : List Value), i + j = n → IntsAre ys ((List.range i).map g) → CompRest prog w A h₀ L m env elt x scope cl s (fun _ => True) (fun i v => ∃ t, v = .int (a + (i : Int)) t) Fin j i ys news := by
    intro j
    induction j with
    | zero =>
      intro i ys hi hy
      have e : i = n := by omega
      subst e
      exact CompRest.zero (fin ys hy)
    | succ j ih =>
      intro i ys hi hy
      refine CompRest.succ ?_
      rintro v I oI C oC D m₂ h tk E' ⟨t, rfl⟩ hC hx F N off ⟨n1, n2, n3⟩
      refine turn _ I C D oI oC (lst ys) m₂ i t _ E' (by omega) hC hx F N off n1 n2 n3 fun y t' h' tk' hy' F' N' => ?_
      refine ⟨h', tk', news, rfl, F', N', off, trivial, ?_⟩
      refine ih (i + 1) _ (by omega) ?_
      rw [List.range_succ, List.map_append, hy']
      exact ints_snoc hy
  exact key n 0 [] (by omega) (by simp only [List.range_zero, List.map_nil]; exact .nil)

/-- a loop over `range` with any target that keeps the addresses of the ledger -/
def TgEnd {σ : Type} (h₀ : Heap) (L : Addr) (m : Str → Option Value) (s : Shared) (I : Addr) (oI : Obj) (Led : σ → List (Addr × Obj)) (P : Nat → σ → Prop) (j : Nat) (s₂ : Shared) : Prop :=
  ∃ (c' : σ) (h' : Heap) (tk : Nat) (news' : List (Addr × Obj)), s₂ = { s with heap := h', toks := tk } ∧ Fr h₀ L h' m ∧ News h₀ L h' news' ∧ (∀ p ∈ (I, oI) :: Led c', p ∈ news') ∧ P j c'
theorem tg_end {σ : Type} {h₀ : Heap} {L : Addr} {m : Str → Option Value} {s : Shared} {I : Addr} {oI : Obj} {Led : σ → List (Addr × Obj)} {P : Nat → σ → Prop} {j : Nat} {h' : Heap} {tk : Nat} {news' : List (Addr × Obj)} (c' : σ)
    (F : Fr h₀ L h' m) (N : News h₀ L h' news') (hn : ∀ p ∈ (I, oI) :: Led c', p ∈ news') (hp : P j c') : OwnEnd (TgEnd h₀ L m s I oI Led P j) { s with heap := h', toks := tk } := ⟨c', h', tk, news', rfl, F, N, hn, hp⟩

def TgAt (prog : Program) (w : World) (A : Around) (env : Env) (target : Expr) (body : List Stmt) (Q : Flow → Shared → Prop) (E : Value → Shared → Prop) (it : Value) (s₂ : Shared) : Prop :=
  (∀ (it v : Value), letOwnedTupleGo target it v = pure ()) → PassesOwn (model prog w) A env E → codeAny (model prog w) A (.forLoop target it body [] env) (fun r s' => match r with | .ok f => Q f s' | .error e => cameBackBy (model prog w) A env E e s') s₂
theorem tg_for {E : Value → Shared → Prop} {Q : Flow → Shared → Prop} {target iter : Expr} {body : List Stmt} {pos : Pos}
    (hgo : ∀ (it v : Value), letOwnedTupleGo target it v = pure ()) (hs : ∀ x, foldedSetIterable iter env x = pure x)
    (h : wpAny (model prog w) A (eval iter env) (fun xv s₁ => wpAny (model prog w) A (pyIter xv) (fun it s₂ => TgAt prog w A env target body Q E it s₂) E s₁) E s)
    (hE : PassesOwn (model prog w) A env E := by passes_own) :
    wpAny (model prog w) A (exec (.For target iter body [] pos) env) Q E s :=
  wpAny_For (wpAny_mono h (fun xv s₁ h₁ => wpAny_mono h₁ (fun it s₂ h₂ => h₂ hgo hE) fun _ _ e => e) fun _ _ e => e) hs

theorem tg_range {σ : Type} {E : Value → Shared → Prop} {Q : Flow → Shared → Prop} {target : Expr} {body : List Stmt} {r : Addr} {b₀ : Int} {t₀ u₀ v₀ : Tok} {n : Nat} (ks : List Addr) (Led : σ → List (Addr × Obj)) (P : Nat → σ → Prop) (c₀ : σ)
    (hh : A.handled = none) (hr : IsRange s.heap r 0 b₀ 1 t₀ u₀ v₀) (hsmall : Builtin.Range.small 0 b₀ 1 = true) (hn : Builtin.Range.rangeSize 0 b₀ 1 = (n : Int))
    (hks : ∀ c, (Led c).map (·.1) = ks) (F : Fr h₀ env.locals s.heap m) (N : News h₀ env.locals s.heap (Led c₀)) (hp : P 0 c₀)
    (turn : ∀ (I : Addr) (i : Nat) (t : Tok) (c : σ) (h : Heap) (tk : Nat) (oI : Obj), (∀ p ∈ Led c, p.1 < I) → i < n → P i c → Fr h₀ env.locals h m → News h₀ env.locals h ((I, oI) :: Led c) →
      wpAny (model prog w) A (assign target env (.int (i : Int) t)) (fun _ s₂ => wpAny (model prog w) A (execs body env) (OwnPost Q (TgEnd h₀ env.locals m s I oI Led P (i + 1))) E s₂) E { s with heap := h, toks := tk })
    (done : ∀ (c : σ) (h : Heap) (tk : Nat), P n c → Fr h₀ env.locals h m → News h₀ env.locals h (Led c) → Q .next { s with heap := h, toks := tk }) :
    wpAny (model prog w) A (pyIter (.ref r)) (fun it s₂ => TgAt prog w A env target body Q E it s₂) E s := by
  refine wpAny_pyIter_range hr hsmall ?_
  have hlt : ∀ p ∈ Led c₀, p.1 < s.heap.objs.size := fun p hp => Heap.lt_size (N p hp).1
  have hlt' : ∀ c, ∀ p ∈ Led c, p.1 < s.heap.objs.size := fun c p hp => by
    have : p.1 ∈ (Led c₀).map (·.1) := by rw [hks c₀, ← hks c]; exact List.mem_map.mpr ⟨p, hp, rfl⟩
    obtain ⟨q, hq, e⟩ := List.mem_map.mp this
    exact e ▸ hlt q hq
  intro hgo hE
  have hI₀ : h₀.get? s.heap.objs.size = none := next_is_new F
  have hIL : s.heap.objs.size ≠ env.locals := Nat.ne_of_gt F.ns.lt
  generalize hIe : s.heap.objs.size = I at *
  have W := range_walks (prog := prog) (w := w) (I := I) hh 0 n
  have hf : ∀ c : σ, ∀ p ∈ Led c, p.1 ≠ I := fun c p hp => Nat.ne_of_lt (hlt' c p hp)
  refine codeAny_forLoop_any
    (fun k s' => ∃ h' tk c i, s' = { s with heap := h', toks := tk } ∧ IsRangeIter h' I (0 + (i : Nat) * 1) ((n : Int) - (i : Nat)) 1 ∧ Fr h₀ env.locals h' m ∧ News h₀ env.locals h' (Led c) ∧ P i c ∧ i ≤ n ∧ k = n + 1 - i) ?_ (n + 1)
    ⟨_, _, c₀, 0, rfl, by show IsRangeIter _ _ _ _ _; rw [hn, ← hIe]; simpa using Heap.get?_push_size _ rfl, F.push _, fun p hp => ⟨Heap.get?_push_of_some _ (N p hp).1, (N p hp).2⟩, hp, Nat.zero_le _, rfl⟩
  rintro k s' ⟨h', tk, c, i, rfl, hst', F', N', hJ, hi, rfl⟩
  by_cases hlt2 : i < n
  · refine W.item i _ _ _ hlt2 hst' fun v h₁ tk₁ hP hst₁ hk₁ => ?_
    obtain ⟨t, rfl⟩ := hP
    refine wpAny_of_eq (hgo _ _) ?_
    rw [Int.zero_add]
    have F₁ := fr_but F' hk₁ (Ne.symm hIL) hI₀
    have N₁ := news_but N' hk₁ (hf c)
    obtain ⟨oI, heI⟩ : ∃ o, h₁.get? I = some o := ⟨_, hst₁⟩
    have hr₁ : ∀ h₂ : Heap, h₂.get? I = some oI → IsRangeIter h₂ I (0 + ((i + 1 : Nat) : Int) * 1) ((n : Int) - ((i + 1 : Nat) : Int)) 1 := fun h₂ e => by
      have e1 : h₁.get? I = some _ := hst₁
      show h₂.get? I = some _
      rw [e, ← heI]; exact e1
    have fin : ∀ s₃ : Shared, TgEnd h₀ env.locals m s I oI Led P (i + 1) s₃ → ∃ m₁, m₁ < n + 1 - i ∧ ∃ h' tk c i, s₃ = { s with heap := h', toks := tk } ∧ IsRangeIter h' I (0 + (i : Nat) * 1) ((n : Int) - (i : Nat)) 1 ∧ Fr h₀ env.locals h' m ∧ News h₀ env.locals h' (Led c) ∧ P i c ∧ i ≤ n ∧ m₁ = n + 1 - i := by
      rintro s₃ ⟨c', h₃, tk₃, news', rfl, F₃, N₃, hn₃, hp₃⟩
      exact ⟨n + 1 - (i + 1), by omega, h₃, tk₃, c', i + 1, rfl, hr₁ h₃ (N₃ _ (hn₃ _ (.head _))).1, F₃, fun p hp => N₃ p (hn₃ p (.tail _ hp)), hp₃, hlt2, rfl⟩
    have N₂ : News h₀ env.locals h₁ ((I, oI) :: Led c) := fun p hp => by
      rcases List.mem_cons.mp hp with rfl | hp
      · exact ⟨heI, hIL, hI₀⟩
      · exact N₁ p hp
    refine wpAny_mono (wpAny_passesOwn hE (turn I i t c h₁ tk₁ oI (hlt' c) hlt2 hJ F₁ N₂)) (fun _ s₂ h₂ => wpAny_mono (wpAny_passesOwn hE h₂) (fun f s₃ h₃ => ?_) fun _ _ e => e) fun _ _ e => e
    cases f with
    | ret v => exact h₃
    | brk => exact h₃
    | next => exact fin s₃ h₃
    | cont => exact fin s₃ h₃
  · have hin : i = n := by omega
    subst hin
    refine W.done _ _ _ hst' fun h₁ tk₁ hk₁ => wpAny_execs_nil ?_
    exact done c h₁ tk₁ hJ (fr_but F' hk₁ (Ne.symm hIL) hI₀) (news_but N' hk₁ (hf c))
end crest

end
section
section series
open PyProof.Rows.LCg
def meetB (wd : List UInt8) (k : Nat) : Bool := decide (k < wd.length) && (wd.drop k == wd.take (wd.length - k))
def meetF (wd : List UInt8) (k : Nat) : Int := if meetB wd k = true then 1 else 0
def endF (wd : List UInt8) (k : Nat) : Int := if k = wd.length then 1 else 0
def undF (wd : List UInt8) (k : Nat) : Int := endF wd k + meetF wd k - (if 0 < k then 2 * meetF wd (k - 1) else 0)
def conv (ov un : Nat → Int) (l : List Int) (k : Nat) : Int := ov k - (fill (fun j => un (1 + j) * l.getD (k - (1 + j)) 0) k).sum
def rowL (ov un : Nat → Int) : Nat → List Int
  | 0 => []
  | k + 1 => rowL ov un k ++ [conv ov un (rowL ov un k) k]
theorem fill_len {f : Nat → Int} {n : Nat} : (fill f n).length = n := by simp [fill]
theorem fill_get {f : Nat → Int} {n k : Nat} (h : k < n) : (fill f n).getD k 0 = f k := by
  simp [fill, List.getD, h]
theorem row_len {ov un : Nat → Int} : ∀ n : Nat, (rowL ov un n).length = n
  | 0 => rfl
  | n + 1 => by simp [rowL, row_len n]
theorem meet_bd (wd : List UInt8) (k : Nat) : 0 ≤ meetF wd k ∧ meetF wd k ≤ 1 := by unfold meetF; split <;> omega
theorem end_bd (wd : List UInt8) (k : Nat) : 0 ≤ endF wd k ∧ endF wd k ≤ 1 := by unfold endF; split <;> omega
theorem und_bd (wd : List UInt8) (k : Nat) : -2 ≤ undF wd k ∧ undF wd k ≤ 2 := by
  have h1 := meet_bd wd k
  have h2 := meet_bd wd (k - 1)
  have h3 := end_bd wd k
  unfold undF
  split <;> omega
theorem fill_bd {f : Nat → Int} {a b : Int} (h : ∀ k, a ≤ f k ∧ f k ≤ b) (n : Nat) : ∀ x ∈ fill f n, a ≤ x ∧ x ≤ b := by
  intro x hx
  obtain ⟨k, _, rfl⟩ := List.mem_map.mp hx
  exact h k
def bd : Nat → Int
  | 0 => 0
  | k + 1 => 1 + 2 * (k : Int) * bd k + bd k
theorem bd_pos : ∀ k, 0 ≤ bd k
  | 0 => by simp [bd]
  | k + 1 => by
    have h := bd_pos k
    have := Int.mul_nonneg (show (0 : Int) ≤ 2 * (k : Int) by omega) h
    show 0 ≤ 1 + 2 * (k : Int) * bd k + bd k
    omega
theorem sum_bd {c : Int} : ∀ {l : List Int}, (∀ x ∈ l, -c ≤ x ∧ x ≤ c) → -((l.length : Int) * c) ≤ l.sum ∧ l.sum ≤ (l.length : Int) * c
  | [], _ => by simp
  | y :: l, h => by
    have h1 := sum_bd (l := l) (fun x hx => h x (.tail _ hx))
    have h2 := h y (.head _)
    simp only [List.sum_cons, List.length_cons, Int.natCast_add, Int.natCast_one, Int.add_mul, Int.one_mul]
    omega
theorem mul_bd {a b c : Int} (ha : -2 ≤ a ∧ a ≤ 2) (hb : -c ≤ b ∧ b ≤ c) : -(2 * c) ≤ a * b ∧ a * b ≤ 2 * c := by
  have : a = -2 ∨ a = -1 ∨ a = 0 ∨ a = 1 ∨ a = 2 := by omega
  rcases this with rfl | rfl | rfl | rfl | rfl <;> omega
theorem getD_bd {c : Int} (hc : 0 ≤ c) {l : List Int} (h : ∀ x ∈ l, -c ≤ x ∧ x ≤ c) (k : Nat) : -c ≤ l.getD k 0 ∧ l.getD k 0 ≤ c := by
  rcases Nat.lt_or_ge k l.length with hk | hk
  · have e : l.getD k 0 = l[k] := by simp [List.getD, hk]
    rw [e]; exact h _ (List.getElem_mem hk)
  · have e : l.getD k 0 = 0 := by simp [List.getD, hk]
    rw [e]; omega
theorem row_bd {ov un : Nat → Int} (ho : ∀ k, 0 ≤ ov k ∧ ov k ≤ 1) (hu : ∀ k, -2 ≤ un k ∧ un k ≤ 2) : ∀ k, ∀ x ∈ rowL ov un k, -bd k ≤ x ∧ x ≤ bd k
  | 0, x, hx => by cases hx
  | k + 1, x, hx => by
    have ih := row_bd ho hu k
    have hp := bd_pos k
    have hq := Int.mul_nonneg (show (0 : Int) ≤ 2 * (k : Int) by omega) hp
    show -(1 + 2 * (k : Int) * bd k + bd k) ≤ x ∧ x ≤ 1 + 2 * (k : Int) * bd k + bd k
    rcases List.mem_append.mp hx with h | h
    · have := ih x h
      omega
    · rw [List.mem_singleton] at h
      subst h
      have h1 := ho k
      have h2 := sum_bd (c := 2 * bd k) (l := fill (fun j => un (1 + j) * (rowL ov un k).getD (k - (1 + j)) 0) k) (fun x hx => by
        obtain ⟨j, _, rfl⟩ := List.mem_map.mp hx
        exact mul_bd (hu _) (getD_bd hp ih _))
      rw [fill_len] at h2
      have e : (k : Int) * (2 * bd k) = 2 * (k : Int) * bd k := by rw [← Int.mul_assoc, Int.mul_comm (k : Int) 2]
      rw [e] at h2
      unfold conv
      omega
theorem row_bd4 {ov un : Nat → Int} (ho : ∀ k, 0 ≤ ov k ∧ ov k ≤ 1) (hu : ∀ k, -2 ≤ un k ∧ un k ≤ 2) {k : Nat} (hk : k ≤ 5) : ∀ x ∈ rowL ov un k, -3000 ≤ x ∧ x ≤ 3000 := by
  intro x hx
  have h := row_bd ho hu k x hx
  have : bd k ≤ 3000 := by
    have : k = 0 ∨ k = 1 ∨ k = 2 ∨ k = 3 ∨ k = 4 ∨ k = 5 := by omega
    rcases this with rfl | rfl | rfl | rfl | rfl | rfl <;> decide
  omega
section
variable {prog : Program} {w : World} {A : Around} {E : Value → Shared → Prop} {s : Shared} {h₀ : Heap} {L l : Addr}
theorem li_item {value slice : PySem.Expr} {news : List (Addr × Obj)} {vs : List Value} {ns : List Int} {c : Nat} {a b k : Int} {u : Tok} {Q : Value → Shared → Prop} (N : News h₀ L s.heap news) (hm : (l, listOf vs.toArray c) ∈ news) (hi : IntsAre vs ns)
    (hb : ∀ x ∈ ns, a ≤ x ∧ x ≤ b) (h0 : 0 ≤ k) (h1 : k < (ns.length : Int)) (hfit : k < 2 ^ 63) (h : ∀ (y : Int) (t : Tok), y = ns.getD k.toNat 0 → a ≤ y → y ≤ b → Q (.int y t) s)
    (hs : subscripted slice false (.ref l) (.int k u) = operate [.ref l, .int k u] (getItem (.ref l) (.int k u)) := by with_unfolding_all rfl) :
    wpAny (model prog w) A (subscriptTail value slice (.ref l) (.int k u)) Q E s := by
  have hl : s.heap.IsList l vs.toArray := ⟨_, (N _ hm).1, rfl, c, rfl⟩
  refine item_anyK hl hi h0 h1 hfit (fun t => ?_) hs
  have hk : k.toNat < ns.length := by omega
  have e : ns.getD k.toNat 0 = ns[k.toNat] := by simp [List.getD, hk]
  have hx := hb _ (List.getElem_mem hk)
  exact h _ t rfl (by rw [e]; exact hx.1) (by rw [e]; exact hx.2)
theorem mul_small {a b : Int} {t u : Tok} {Q : Value → Shared → Prop} (ha : -100000 ≤ a ∧ a ≤ 100000) (hb : -100000 ≤ b ∧ b ≤ 100000)
    (h : ∀ c : Int, c = a * b → Q (.int c s.toks) { s with toks := s.toks + 1 }) : wpAny (model prog w) A (binaryOp .Mult (.int a t) (.int b u)) Q E s :=
  PyProof.Rows.mul_int (h _ rfl) (IntMulOk.of_left (intBits_le_64 (by omega) (by omega)))
end
theorem clip_in {n k : Nat} (h : k ≤ n) : (some (0 + (k : Int))).elim 0 (clipAt n) = k := by
  show clipAt n (0 + (k : Int)) = k
  rw [Int.zero_add, clipAt_nat]; omega
theorem clip_in' {n k : Nat} (h : k ≤ n) : (some ((n : Int) - (0 + (k : Int)))).elim n (clipAt n) = n - k := by
  show clipAt n ((n : Int) - (0 + (k : Int))) = n - k
  have : (n : Int) - (0 + (k : Int)) = ((n - k : Nat) : Int) := by omega
  rw [this, clipAt_nat]; omega
theorem meet_in {wd : List UInt8} {k : Nat} (h1 : 0 + (k : Int) < (wd.toArray.size : Int)) :
    (if ((wd.drop ((some (0 + (k : Int))).elim 0 (clipAt wd.length))).take ((none : Option Int).elim wd.length (clipAt wd.length) - (some (0 + (k : Int))).elim 0 (clipAt wd.length)) == (wd.drop ((none : Option Int).elim 0 (clipAt wd.length))).take ((some ((wd.toArray.size : Int) - (0 + (k : Int)))).elim wd.length (clipAt wd.length) - (none : Option Int).elim 0 (clipAt wd.length))) = true then (1 : Int) else 0) = meetF wd k := by
  rw [List.size_toArray] at h1
  rw [List.size_toArray, clip_in (by omega), clip_in' (by omega)]
  show (if ((wd.drop k).take (wd.length - k) == (wd.drop 0).take (wd.length - k - 0)) = true then (1 : Int) else 0) = meetF wd k
  have e1 : (wd.drop k).take (wd.length - k) = wd.drop k := List.take_of_length_le (by rw [List.length_drop]; exact Nat.le_refl _)
  rw [e1, List.drop_zero, Nat.sub_zero]
  have hk : k < wd.length := by omega
  unfold meetF meetB
  rw [decide_eq_true hk, Bool.true_and]
theorem meet_out {wd : List UInt8} {k : Nat} (h : ¬ (0 + (k : Int) < (wd.toArray.size : Int))) :
    (if decide (0 + (k : Int) < (wd.toArray.size : Int)) = true then (1 : Int) else 0) = meetF wd k := by
  have h1 := h
  rw [List.size_toArray] at h1
  have hk : ¬ k < wd.length := by omega
  rw [decide_eq_false h]
  unfold meetF meetB
  rw [decide_eq_false hk, Bool.false_and]
theorem ends_is {wd : List UInt8} {k : Nat} : (if decide (0 + (k : Int) = (wd.toArray.size : Int)) = true then (1 : Int) else 0) = endF wd k := by
  rw [List.size_toArray]
  unfold endF
  by_cases hk : k = wd.length
  · rw [if_pos hk, if_pos (decide_eq_true (by omega))]
  · rw [if_neg hk, if_neg (fun h => hk (by have := of_decide_eq_true h; omega))]
theorem und_in {wd : List UInt8} {n : Int} {k : Nat} {a b c d : Int} (hk : k < (n + 1).toNat) (hp : 0 < 0 + (k : Int)) (e1 : a = (fill (endF wd) (n + 1).toNat).getD (0 + (k : Int)).toNat 0) (e2 : b = (fill (meetF wd) (n + 1).toNat).getD (0 + (k : Int)).toNat 0)
    (e3 : c = (fill (meetF wd) (n + 1).toNat).getD (0 + (k : Int) - 1).toNat 0) (e4 : d = 2 * c) : a + b - d = undF wd k := by
  have h1 : (0 + (k : Int)).toNat = k := by omega
  have h2 : (0 + (k : Int) - 1).toNat = k - 1 := by omega
  rw [h1, fill_get hk] at e1 e2
  rw [h2, fill_get (by omega)] at e3
  unfold undF
  rw [if_pos (by omega), e1, e2, e4, e3]
theorem und_out {wd : List UInt8} {n : Int} {k : Nat} {a b : Int} (hk : k < (n + 1).toNat) (hp : ¬ 0 < 0 + (k : Int)) (e1 : a = (fill (endF wd) (n + 1).toNat).getD (0 + (k : Int)).toNat 0) (e2 : b = (fill (meetF wd) (n + 1).toNat).getD (0 + (k : Int)).toNat 0) : a + b - 0 = undF wd k := by
  have h1 : (0 + (k : Int)).toNat = k := by omega
  rw [h1, fill_get hk] at e1 e2
  unfold undF
  rw [if_neg (by omega), e1, e2]
theorem idxA {n : Int} {k : Nat} (hn : n ≤ 4) (hk : k < (n + 1).toNat) : (0 ≤ 0 + (k : Int)) ∧ (0 + (k : Int) < ((n + 1).toNat : Int)) ∧ (0 + (k : Int) < 2 ^ 63) ∧ (0 + (k : Int) - 1 < ((n + 1).toNat : Int)) ∧ (0 + (k : Int) - 1 < 2 ^ 63) := by omega
theorem idxP {k : Nat} (h : 0 < 0 + (k : Int)) : 0 ≤ 0 + (k : Int) - 1 := by omega
theorem idxR {n : Int} {i : Nat} (hn : n ≤ 4) (hi : i < (n + 1).toNat) : (0 ≤ (i : Int)) ∧ ((i : Int) < ((n + 1).toNat : Int)) ∧ ((i : Int) < 2 ^ 63) ∧ i ≤ 5 := by omega
theorem idxC {n : Int} {i k : Nat} (hn : n ≤ 4) (hi : i < (n + 1).toNat) (hk : k < i) : (0 ≤ 1 + (k : Int)) ∧ (1 + (k : Int) < ((n + 1).toNat : Int)) ∧ (1 + (k : Int) < 2 ^ 63) ∧ (0 ≤ (i : Int) - (1 + (k : Int))) ∧ ((i : Int) - (1 + (k : Int)) < (i : Int)) ∧ ((i : Int) - (1 + (k : Int)) < 2 ^ 63) := by omega
theorem smN {n : Int} (h0 : 0 ≤ n) (hn : n ≤ 4) : Builtin.Range.small 0 (n + 1) 1 = true := small_one (by omega) (by omega) (by omega) (by omega)
theorem szN {n : Int} : Builtin.Range.rangeSize 0 (n + 1) 1 = ((n + 1).toNat : Int) := by rw [rangeSize_nat, Int.sub_zero]
theorem smI {n : Int} {i : Nat} (hn : n ≤ 4) (hi : i < (n + 1).toNat) : Builtin.Range.small 1 ((i : Int) + 1) 1 = true := small_one (by omega) (by omega) (by omega) (by omega)
theorem szI {i : Nat} : Builtin.Range.rangeSize 1 ((i : Int) + 1) 1 = ((i : Nat) : Int) := by rw [rangeSize_nat]; omega
theorem lnN {n : Int} (hn : n ≤ 4) : (n + 1).toNat ≤ sizeLine := by rw [PySem.sizeLine_eq]; omega
theorem lnI {n : Int} {i : Nat} (hn : n ≤ 4) (hi : i < (n + 1).toNat) : i ≤ sizeLine := by rw [PySem.sizeLine_eq]; omega
theorem sm1 {y : Int} (h1 : 0 ≤ y) (h2 : y ≤ 1) : -100000 ≤ y ∧ y ≤ 100000 := by omega
theorem sm2 {y : Int} (h1 : -2 ≤ y) (h2 : y ≤ 2) : -100000 ≤ y ∧ y ≤ 100000 := by omega
theorem sm3 {y : Int} (h1 : -3000 ≤ y) (h2 : y ≤ 3000) : -100000 ≤ y ∧ y ≤ 100000 := by omega
end series

end
section
section two
open PyProof.Rows.LCg
variable {prog : Program} {w : World} {A : Around} {h₀ : Heap} {L : Addr} {m : Str → Option Value} {env : Env} {s : Shared} {news : List (Addr × Obj)}
abbrev Pair2 (v1 v2 : Value) : Obj := { cls := .type "tuple", data := .seq #[v1, v2] }
/-- the end of a turn over a pair: what stands, and what is then asked -/
def TwEnd (h₀ : Heap) (L : Addr) (s : Shared) (I : Addr) (oI : Obj) (t : Addr) (o : Obj) (R : Shared → (Str → Option Value) → List (Addr × Obj) → Prop) (s₃ : Shared) : Prop :=
  ∃ (m₁ : Str → Option Value) (nw : List (Addr × Obj)) (h : Heap) (tk : Nat), s₃ = { s with heap := h, toks := tk } ∧ Fr h₀ L h m₁ ∧ News h₀ L h ((I, oI) :: nw) ∧ (t, o) ∈ nw ∧ (∀ p ∈ nw, p.1 ≠ I) ∧
    ∀ h' tk', Fr h₀ L h' m₁ → News h₀ L h' nw → R { s with heap := h', toks := tk' } m₁ nw
theorem tw_end {I t : Addr} {o oI : Obj} {R : Shared → (Str → Option Value) → List (Addr × Obj) → Prop} {h : Heap} {tk : Nat} {m₁ : Str → Option Value} {nw0 : List (Addr × Obj)} (nw : List (Addr × Obj))
    (F : Fr h₀ L h m₁) (N : News h₀ L h nw0) (hI : (I, oI) ∈ nw0) (hs : ∀ p ∈ nw, p ∈ nw0) (ht : (t, o) ∈ nw) (hn : ∀ p ∈ nw, p.1 ≠ I)
    (hr : ∀ h' tk', Fr h₀ L h' m₁ → News h₀ L h' nw → R { s with heap := h', toks := tk' } m₁ nw) : OwnEnd (TwEnd h₀ L s I oI t o R) { s with heap := h, toks := tk } :=
  ⟨m₁, nw, h, tk, rfl, F, fun p hp => by
    rcases List.mem_cons.mp hp with rfl | hp
    · exact N _ hI
    · exact N _ (hs p hp), ht, hn, hr⟩
def TwJ (prog : Program) (w : World) (A : Around) (h₀ : Heap) (env : Env) (target : Expr) (body : List Stmt) (Q : Flow → Shared → Prop) (E : Value → Shared → Prop) (s : Shared) (m : Str → Option Value) (news : List (Addr × Obj)) (I t : Addr) (v1 v2 : Value) : Nat → Shared → Prop
  | 0, s' => ∃ h tk, s' = { s with heap := h, toks := tk } ∧ h.IsTupleIter I t 0 ∧ Fr h₀ env.locals h m ∧ News h₀ env.locals h news
  | 1, s' => ∃ (m₁ : Str → Option Value) (nw : List (Addr × Obj)) (h : Heap) (tk : Nat), s' = { s with heap := h, toks := tk } ∧ h.IsTupleIter I t 1 ∧ Fr h₀ env.locals h m₁ ∧ News h₀ env.locals h nw ∧ (t, Pair2 v1 v2) ∈ nw ∧ (∀ p ∈ nw, p.1 ≠ I) ∧
        ∀ h' tk', Fr h₀ env.locals h' m₁ → News h₀ env.locals h' nw → ∀ oI', News h₀ env.locals h' ((I, oI') :: nw) → wpAny (model prog w) A (assign target env v2) (fun _ s₅ => wpAny (model prog w) A (execs body env) (OwnPost Q (TwEnd h₀ env.locals s I oI' t (Pair2 v1 v2) fun s₆ _ _ => Q .next s₆)) E s₅) E { s with heap := h', toks := tk' }
  | _, s' => ∃ (m₁ : Str → Option Value) (nw : List (Addr × Obj)) (h : Heap) (tk : Nat), s' = { s with heap := h, toks := tk } ∧ h.IsTupleIter I t 2 ∧ Fr h₀ env.locals h m₁ ∧ News h₀ env.locals h nw ∧ (t, Pair2 v1 v2) ∈ nw ∧ (∀ p ∈ nw, p.1 ≠ I) ∧
        ∀ h' tk', Fr h₀ env.locals h' m₁ → News h₀ env.locals h' nw → Q .next { s with heap := h', toks := tk' }
theorem tg_two {E : Value → Shared → Prop} {Q : Flow → Shared → Prop} {target : Expr} {body : List Stmt} {t : Addr} {v1 v2 : Value}
    (hh : A.handled = none) (F : Fr h₀ env.locals s.heap m) (N : News h₀ env.locals s.heap news) (ht : (t, Pair2 v1 v2) ∈ news)
    (turn : ∀ (I : Addr) (oI : Obj) (h : Heap) (tk : Nat), (∀ p ∈ news, p.1 < I) → Fr h₀ env.locals h m → News h₀ env.locals h ((I, oI) :: news) →
      wpAny (model prog w) A (assign target env v1) (fun _ s₂ => wpAny (model prog w) A (execs body env) (OwnPost Q (TwEnd h₀ env.locals s I oI t (Pair2 v1 v2) fun s₄ m₁ nw =>
        ∀ oI', News h₀ env.locals s₄.heap ((I, oI') :: nw) → wpAny (model prog w) A (assign target env v2) (fun _ s₅ => wpAny (model prog w) A (execs body env) (OwnPost Q (TwEnd h₀ env.locals s I oI' t (Pair2 v1 v2) fun s₆ _ _ => Q .next s₆)) E s₅) E s₄)) E s₂) E { s with heap := h, toks := tk }) :
    wpAny (model prog w) A (pyIter (.ref t)) (fun it s₂ => TgAt prog w A env target body Q E it s₂) E s := by
  have htup : s.heap.IsTuple t #[v1, v2] := ⟨_, (N _ ht).1, rfl, _, rfl⟩
  refine wpAny_pyIter_tuple htup ?_
  have hlt : ∀ p ∈ news, p.1 < s.heap.objs.size := fun p hp => Heap.lt_size (N p hp).1
  intro hgo hE
  have hI₀ : h₀.get? s.heap.objs.size = none := next_is_new F
  have hIL : s.heap.objs.size ≠ env.locals := Nat.ne_of_gt F.ns.lt
  generalize hIe : s.heap.objs.size = I at *
  have htI : (@Ne Nat t I) := Nat.ne_of_lt (hlt _ ht)
  have W := Walks.tuple (prog := prog) (w := w) hh I t htI #[v1, v2]
  have hst : ∀ (i : Nat) (h : Heap) (oI : Obj) (h' : Heap), h.IsTupleIter I t i → h.get? I = some oI → h'.get? I = some oI → h'.IsTupleIter I t i := fun i h oI h' e a b => e.at fun o e' => by
    rw [a] at e'; cases e'; exact b
  have htu : ∀ (h : Heap) (nw : List (Addr × Obj)), News h₀ env.locals h nw → (t, Pair2 v1 v2) ∈ nw → h.IsTuple t #[v1, v2] := fun h nw N hm => ⟨_, (N _ hm).1, rfl, _, rfl⟩
  have back : ∀ (i : Nat) (h h₁ : Heap) (m₁ : Str → Option Value) (nw : List (Addr × Obj)), (∀ p ∈ nw, p.1 ≠ I) → Fr h₀ env.locals h m₁ → News h₀ env.locals h nw → (h₁.IsTupleIter I t i ∧ h₁.IsTuple t #[v1, v2]) → (∀ b o, b ∉ [I] → h.get? b = some o → h₁.get? b = some o) →
      Fr h₀ env.locals h₁ m₁ ∧ ∃ oI, h₁.get? I = some oI ∧ News h₀ env.locals h₁ ((I, oI) :: nw) := by
    intro i h h₁ m₁ nw hn F N hst₁ hk
    obtain ⟨oI, heI, _⟩ := hst₁.1
    refine ⟨fr_but F hk (Ne.symm hIL) hI₀, oI, heI, fun p hp => ?_⟩
    rcases List.mem_cons.mp hp with rfl | hp
    · exact ⟨heI, hIL, hI₀⟩
    · exact news_but N hk hn p hp
  refine codeAny_forLoop_any (fun k s' => ∃ i, i ≤ 2 ∧ k = 3 - i ∧ TwJ prog w A h₀ env target body Q E s m news I t v1 v2 i s') ?_ 3 ⟨0, by omega, rfl, s.heap.push { cls := .type "tuple_iterator", data := .fields #[.ref t, .int 0 0] }, s.toks, rfl, ⟨_, by rw [← hIe]; exact Heap.get?_push_size _ rfl, rfl, rfl⟩, F.push _, fun p hp => ⟨Heap.get?_push_of_some _ (N p hp).1, (N p hp).2⟩⟩
  rintro k s' ⟨i, hi, rfl, hJ⟩
  have c : i = 0 ∨ i = 1 ∨ i = 2 := by omega
  rcases c with rfl | rfl | rfl
  · obtain ⟨h, tk, rfl, hit, F', N'⟩ := hJ
    refine W.item 0 _ _ _ (show 0 < 2 by decide) ⟨hit, htu _ _ N' ht⟩ fun v h₁ tk₁ hP hst₁ hk₁ => ?_
    have hv : v = v1 := (Option.some.inj hP).symm
    subst hv
    refine wpAny_of_eq (hgo _ _) ?_
    obtain ⟨F₁, oI, heI, N₁⟩ := back _ _ _ _ _ (fun p hp => Nat.ne_of_lt (hlt p hp)) F' N' hst₁ hk₁
    have fin : ∀ s₃ : Shared, TwEnd h₀ env.locals s I oI t (Pair2 v v2) (fun s₄ m₁ nw =>
        ∀ oI', News h₀ env.locals s₄.heap ((I, oI') :: nw) → wpAny (model prog w) A (assign target env v2) (fun _ s₅ => wpAny (model prog w) A (execs body env) (OwnPost Q (TwEnd h₀ env.locals s I oI' t (Pair2 v v2) fun s₆ _ _ => Q .next s₆)) E s₅) E s₄) s₃ →
        ∃ m₁, m₁ < 3 - 0 ∧ ∃ i, i ≤ 2 ∧ m₁ = 3 - i ∧ TwJ prog w A h₀ env target body Q E s m news I t v v2 i s₃ := by
      rintro s₃ ⟨m₁, nw, h₃, tk₃, rfl, F₃, N₃, ht₃, hn₃, hr₃⟩
      exact ⟨2, by omega, 1, by omega, rfl, m₁, nw, h₃, tk₃, rfl, hst _ _ _ _ hst₁.1 heI (N₃ _ (.head _)).1, F₃, fun p hp => N₃ p (.tail _ hp), ht₃, hn₃, hr₃⟩
    refine wpAny_mono (wpAny_passesOwn hE (turn I oI h₁ tk₁ hlt F₁ N₁)) (fun _ s₂ h₂ => wpAny_mono (wpAny_passesOwn hE h₂) (fun f s₃ h₃ => ?_) fun _ _ e => e) fun _ _ e => e
    cases f with
    | ret v => exact h₃
    | brk => exact h₃
    | next => exact fin s₃ h₃
    | cont => exact fin s₃ h₃
  · obtain ⟨m₁, nw, h, tk, rfl, hit, F', N', ht', hn', hr⟩ := hJ
    refine W.item 1 _ _ _ (show 1 < 2 by decide) ⟨hit, htu _ _ N' ht'⟩ fun v h₁ tk₁ hP hst₁ hk₁ => ?_
    have hv : v = v2 := (Option.some.inj hP).symm
    subst hv
    refine wpAny_of_eq (hgo _ _) ?_
    obtain ⟨F₁, oI, heI, N₁⟩ := back _ _ _ _ _ hn' F' N' hst₁ hk₁
    have fin : ∀ s₃ : Shared, TwEnd h₀ env.locals s I oI t (Pair2 v1 v) (fun s₄ _ _ => Q .next s₄) s₃ →
        ∃ m₁, m₁ < 3 - 1 ∧ ∃ i, i ≤ 2 ∧ m₁ = 3 - i ∧ TwJ prog w A h₀ env target body Q E s m news I t v1 v i s₃ := by
      rintro s₃ ⟨m₁, nw, h₃, tk₃, rfl, F₃, N₃, ht₃, hn₃, hr₃⟩
      exact ⟨1, by omega, 2, by omega, rfl, m₁, nw, h₃, tk₃, rfl, hst _ _ _ _ hst₁.1 heI (N₃ _ (.head _)).1, F₃, fun p hp => N₃ p (.tail _ hp), ht₃, hn₃, hr₃⟩
    refine wpAny_mono (wpAny_passesOwn hE (hr h₁ tk₁ F₁ (fun p hp => N₁ p (.tail _ hp)) oI N₁)) (fun _ s₂ h₂ => wpAny_mono (wpAny_passesOwn hE h₂) (fun f s₃ h₃ => ?_) fun _ _ e => e) fun _ _ e => e
    cases f with
    | ret v => exact h₃
    | brk => exact h₃
    | next => exact fin s₃ h₃
    | cont => exact fin s₃ h₃
  · obtain ⟨m₁, nw, h, tk, rfl, hit, F', N', ht', hn', hr⟩ := hJ
    refine W.done _ _ _ ⟨hit, htu _ _ N' ht'⟩ fun h₁ tk₁ hk₁ => wpAny_execs_nil ?_
    exact hr h₁ tk₁ (fr_but F' hk₁ (Ne.symm hIL) hI₀) (news_but N' hk₁ hn')
end two

end
section
section ser
open PyProof.Rows.LCg
variable {prog : Program} {w : World} {A : Around} {h₀ : Heap} {L : Addr} {m : Str → Option Value} {env : Env} {s : Shared} {q1 q2 q3 q4 q5 q6 q7 q8 q9 q10 : Addr × Obj} {rest : List (Addr × Obj)} {r at_ : Addr}
def SerLed (r : Addr) (q1 q2 q3 q4 q5 q6 q7 q8 q9 q10 : Addr × Obj) (at_ : Addr) (rest : List (Addr × Obj)) (c : List Value × Nat × Obj) : List (Addr × Obj) :=
  (r, W.listOf c.1.toArray c.2.1) :: q1 :: q2 :: q3 :: q4 :: q5 :: q6 :: q7 :: q8 :: q9 :: q10 :: (at_, c.2.2) :: rest
def SerEnd (h₀ : Heap) (L : Addr) (m : Str → Option Value) (s : Shared) (I : Addr) (oI : Obj) (r : Addr) (q1 q2 q3 q4 q5 q6 q7 q8 q9 q10 : Addr × Obj) (at_ : Addr) (rest : List (Addr × Obj)) (ov un : Nat → Int) (i : Nat) (s₃ : Shared) : Prop :=
  TgEnd h₀ L m s I oI (SerLed r q1 q2 q3 q4 q5 q6 q7 q8 q9 q10 at_ rest) (fun i c => IntsAre c.1 (rowL ov un i) ∧ ∃ x, c.2.2.data = .cell x) i s₃
theorem ser_end {I : Addr} {oI oat : Obj} {ov un : Nat → Int} {i c : Nat} {h' : Heap} {tk : Nat} {news : List (Addr × Obj)} {vs : List Value} {x : Option Value}
    (F : Fr h₀ L h' m) (N : News h₀ L h' news) (hs : ∀ p ∈ (I, oI) :: (r, W.listOf vs.toArray c) :: q1 :: q2 :: q3 :: q4 :: q5 :: q6 :: q7 :: q8 :: q9 :: q10 :: (at_, oat) :: rest, p ∈ news)
    (hx : oat.data = .cell x) (hi : IntsAre vs (rowL ov un i)) :
    OwnEnd (SerEnd h₀ L m s I oI r q1 q2 q3 q4 q5 q6 q7 q8 q9 q10 at_ rest ov un i) { s with heap := h', toks := tk } :=
  tg_end (vs, c, oat) F N hs ⟨hi, x, hx⟩
theorem ser_range {E : Value → Shared → Prop} {Q : Flow → Shared → Prop} {target : Expr} {body : List Stmt} {rg : Addr} {oat : Obj} {x₀ : Option Value} {b₀ : Int} {t₀ u₀ v₀ : Tok} {n : Nat} (ov un : Nat → Int) (rest : List (Addr × Obj))
    (hh : A.handled = none) (hr : IsRange s.heap rg 0 b₀ 1 t₀ u₀ v₀) (hsmall : Builtin.Range.small 0 b₀ 1 = true) (hn : Builtin.Range.rangeSize 0 b₀ 1 = (n : Int)) (F : Fr h₀ env.locals s.heap m)
    (N : News h₀ env.locals s.heap ((r, W.listOf #[] 0) :: q1 :: q2 :: q3 :: q4 :: q5 :: q6 :: q7 :: q8 :: q9 :: q10 :: (at_, oat) :: rest)) (hx : oat.data = .cell x₀)
    (turn : ∀ (I : Addr) (i : Nat) (t : Tok) (vs : List Value) (c : Nat) (oat : Obj) (x : Option Value) (h : Heap) (tk : Nat) (oI : Obj), (∀ p ∈ (r, W.listOf vs.toArray c) :: q1 :: q2 :: q3 :: q4 :: q5 :: q6 :: q7 :: q8 :: q9 :: q10 :: (at_, oat) :: rest, p.1 < I) → i < n → IntsAre vs (rowL ov un i) → oat.data = .cell x →
      Fr h₀ env.locals h m → News h₀ env.locals h ((I, oI) :: (r, W.listOf vs.toArray c) :: q1 :: q2 :: q3 :: q4 :: q5 :: q6 :: q7 :: q8 :: q9 :: q10 :: (at_, oat) :: rest) →
      wpAny (model prog w) A (assign target env (.int (i : Int) t)) (fun _ s₂ => wpAny (model prog w) A (execs body env) (OwnPost Q (SerEnd h₀ env.locals m s I oI r q1 q2 q3 q4 q5 q6 q7 q8 q9 q10 at_ rest ov un (i + 1))) E s₂) E { s with heap := h, toks := tk })
    (done : ∀ (vs : List Value) (c : Nat) (oat : Obj) (x : Option Value) (h : Heap) (tk : Nat), IntsAre vs (rowL ov un n) → oat.data = .cell x → Fr h₀ env.locals h m → News h₀ env.locals h ((r, W.listOf vs.toArray c) :: q1 :: q2 :: q3 :: q4 :: q5 :: q6 :: q7 :: q8 :: q9 :: q10 :: (at_, oat) :: rest) → Q .next { s with heap := h, toks := tk }) :
    wpAny (model prog w) A (pyIter (.ref rg)) (fun it s₂ => TgAt prog w A env target body Q E it s₂) E s :=
  tg_range (r :: q1.1 :: q2.1 :: q3.1 :: q4.1 :: q5.1 :: q6.1 :: q7.1 :: q8.1 :: q9.1 :: q10.1 :: at_ :: rest.map (·.1)) (SerLed r q1 q2 q3 q4 q5 q6 q7 q8 q9 q10 at_ rest) (fun i c => IntsAre c.1 (rowL ov un i) ∧ ∃ x, c.2.2.data = .cell x) ([], 0, oat) hh hr hsmall hn (fun _ => rfl) F N ⟨.nil, x₀, hx⟩
    (fun I i t c h tk oI hl hi hp F N => by
      obtain ⟨vs, c, oat⟩ := c
      obtain ⟨h1, x, h2⟩ := hp
      exact turn I i t vs c oat x h tk oI hl hi h1 h2 F N)
    (fun c h tk hp F N => by
      obtain ⟨vs, c, oat⟩ := c
      obtain ⟨h1, x, h2⟩ := hp
      exact done vs c oat x h tk h1 h2 F N)
theorem tw_endR {I t : Addr} {o oI oR : Obj} {R : Shared → (Str → Option Value) → List (Addr × Obj) → Prop} {h : Heap} {tk : Nat} {m₁ : Str → Option Value}
    (F : Fr h₀ L h m₁) (N : News h₀ L h ((r, oR) :: (I, oI) :: (t, o) :: q2 :: q3 :: q4 :: q5 :: q6 :: q7 :: q8 :: q9 :: q10 :: q1 :: rest))
    (hl : AllLt I ((t, o) :: q2 :: q3 :: q4 :: q5 :: q6 :: q7 :: q8 :: q9 :: q10 :: q1 :: [])) (hn : ∀ p ∈ rest, p.1 ≠ I) (hr : (@Ne Nat r I))
    (hk : ∀ h' tk', Fr h₀ L h' m₁ → News h₀ L h' ((t, o) :: q2 :: q3 :: q4 :: q5 :: q6 :: q7 :: q8 :: q9 :: q10 :: q1 :: (r, oR) :: rest) → R { s with heap := h', toks := tk' } m₁ ((t, o) :: q2 :: q3 :: q4 :: q5 :: q6 :: q7 :: q8 :: q9 :: q10 :: q1 :: (r, oR) :: rest)) : OwnEnd (TwEnd h₀ L s I oI t o R) { s with heap := h, toks := tk } :=
  tw_end ((t, o) :: q2 :: q3 :: q4 :: q5 :: q6 :: q7 :: q8 :: q9 :: q10 :: q1 :: (r, oR) :: rest) F N (.tail _ (.head _)) (fun p hp => by
    simp only [List.mem_cons] at hp ⊢
    rcases hp with h | h | h | h | h | h | h | h | h | h | h | h | h <;> simp [h]) (.head _) (fun p hp => by
    have h0 := kst_ltOf hl
    have e : p ∈ ((t, o) :: q2 :: q3 :: q4 :: q5 :: q6 :: q7 :: q8 :: q9 :: q10 :: q1 :: []) ∨ p = (r, oR) ∨ p ∈ rest := by
      simp only [List.mem_cons, List.not_mem_nil, or_false] at hp ⊢
      rcases hp with h | h | h | h | h | h | h | h | h | h | h | h | h <;> simp [h]
    rcases e with h | h | h
    · exact Nat.ne_of_lt (h0 p h)
    · rw [h]; exact hr
    · exact hn p h) hk
theorem ltw_cut {I a1 a2 a3 a4 a5 a6 a7 a8 a9 a10 a11 : Nat} {X : Prop} (h : a1 < I ∧ a2 < I ∧ a3 < I ∧ a4 < I ∧ a5 < I ∧ a6 < I ∧ a7 < I ∧ a8 < I ∧ a9 < I ∧ a10 < I ∧ a11 < I ∧ X) : a1 < I ∧ a2 < I ∧ a3 < I ∧ a4 < I ∧ a5 < I ∧ a6 < I ∧ a7 < I ∧ a8 < I ∧ a9 < I ∧ a10 < I ∧ a11 < I ∧ True :=
  ⟨h.1, h.2.1, h.2.2.1, h.2.2.2.1, h.2.2.2.2.1, h.2.2.2.2.2.1, h.2.2.2.2.2.2.1, h.2.2.2.2.2.2.2.1, h.2.2.2.2.2.2.2.2.1, h.2.2.2.2.2.2.2.2.2.1, h.2.2.2.2.2.2.2.2.2.2.1, trivial⟩
theorem ltw_new {I a1 a2 a3 a4 a5 a6 a7 a8 a9 a10 a11 : Nat} {news : List (Addr × Obj)} (h : a1 < I ∧ a2 < I ∧ a3 < I ∧ a4 < I ∧ a5 < I ∧ a6 < I ∧ a7 < I ∧ a8 < I ∧ a9 < I ∧ a10 < I ∧ a11 < I ∧ AllLt I news) : ∀ p ∈ news, p.1 ≠ I :=
  fun p hp => Nat.ne_of_lt (kst_ltOf h.2.2.2.2.2.2.2.2.2.2.2 p hp)
theorem conv_in {un : Nat → Int} {N i k : Nat} {l : List Int} {a b y : Int} (hk : k < i) (hi : i < N) (hl : l.length = i) (ea : a = (fill un N).getD (1 + (k : Int)).toNat 0) (eb : b = l.getD ((i : Int) - (1 + (k : Int))).toNat 0) (e : y = a * b) : y = un (1 + k) * l.getD (i - (1 + k)) 0 := by
  have h1 : (1 + (k : Int)).toNat = 1 + k := by omega
  have h2 : ((i : Int) - (1 + (k : Int))).toNat = i - (1 + k) := by omega
  rw [h1, fill_get (by omega)] at ea
  rw [h2] at eb
  rw [e, ea, eb]
theorem conv_end {ov un : Nat → Int} {N i : Nat} {vs : List Value} {y : Int} {t : Tok} (hi : i < N) (ey : y = (fill ov N).getD ((i : Nat) : Int).toNat 0) (h : IntsAre vs (rowL ov un i)) :
    IntsAre (vs ++ [.int (y - (fill (fun j => un (1 + j) * (rowL ov un i).getD (i - (1 + j)) 0) i).sum) t]) (rowL ov un (i + 1)) := by
  rw [Int.toNat_natCast, fill_get hi] at ey
  subst ey
  exact ints_snoc h
theorem crest_row {ov un : Nat → Int} {i : Nat} {vr : List Value} {elt : Expr} {x : Str} {scope : Scope} {cl : List (Str × Addr)} {Fin : List Value → List (Addr × Obj) → Prop} {news : List (Addr × Obj)} (_ : IntsAre vr (rowL ov un i))
    (turn : IntAsk prog w A h₀ L m (fun C => compEnvC scope cl C env) elt x 1 i (fun j => un (1 + j) * (rowL ov un i).getD (i - (1 + j)) 0) news)
    (fin : ∀ ys, IntsAre ys (fill (fun j => un (1 + j) * (rowL ov un i).getD (i - (1 + j)) 0) i) → Fin ys news) :
    CompRest prog w A h₀ L m env elt x scope cl s (fun _ => True) (fun i v => ∃ t, v = .int (1 + (i : Int)) t) Fin i 0 [] news := crest _ turn fin
theorem li_sum {E : Value → Shared → Prop} {l : Addr} {c : Nat} {vs : List Value} {ns : List Int} {news : List (Addr × Obj)} {Q : Value → Shared → Prop} (F : Fr h₀ L s.heap m) (N : News h₀ L s.heap news) (hm : (l, W.listOf vs.toArray c) ∈ news) (hh : A.handled = none) (hi : IntsAre vs ns)
    (h : ∀ h' tk t', Fr h₀ L h' m → News h₀ L h' news → Q (.int ns.sum t') { s with heap := h', toks := tk }) : wpAny (model prog w) A (call (.builtin "sum") [.ref l]) Q E s :=
  PyProof.Rows.LSm.sum_ints F N hh ⟨_, (N _ hm).1, rfl, c, rfl⟩ hi h
theorem sz_row {n : Int} {i : Nat} {vr : List Value} {ov un : Nat → Int} (h : IntsAre vr (rowL ov un i)) (hi : i < (n + 1).toNat) (hn : n ≤ 4) : vr.toArray.size ≤ sizeLine := by
  rw [List.size_toArray, h.length, row_len, PySem.sizeLine_eq]; omega
theorem ser_endP {I : Addr} {oI oat : Obj} {ov un : Nat → Int} {i c : Nat} {h' : Heap} {tk : Nat} {news : List (Addr × Obj)} {vs : List Value} {v : Value} {x : Option Value}
    (F : Fr h₀ L h' m) (N : News h₀ L h' news) (hs : ∀ p ∈ (I, oI) :: (r, W.listOf (vs.toArray.push v) c) :: q1 :: q2 :: q3 :: q4 :: q5 :: q6 :: q7 :: q8 :: q9 :: q10 :: (at_, oat) :: rest, p ∈ news)
    (hx : oat.data = .cell x) (hi : IntsAre (vs ++ [v]) (rowL ov un i)) :
    OwnEnd (SerEnd h₀ L m s I oI r q1 q2 q3 q4 q5 q6 q7 q8 q9 q10 at_ rest ov un i) { s with heap := h', toks := tk } :=
  ser_end (vs := vs ++ [v]) F N (by rw [← List.push_toArray]; exact hs) hx hi
theorem ser_ret {p t o1 o2 : Addr × Obj} {R r1 r2 : Addr} {x1 x2 : Value} {O1 O2 : Obj} {c : Nat} {news : List (Addr × Obj)} (hp : p ∈ (R, W.listOf #[x1, x2] c) :: (r1, O1) :: (r2, O2) :: news) :
    p ∈ t :: (R, W.listOf ((#[].push x1).push x2) c) :: o1 :: o2 :: q1 :: q2 :: q3 :: q4 :: q5 :: q6 :: q7 :: (r2, O2) :: (r1, O1) :: news := by
  have e : (#[].push x1).push x2 = #[x1, x2] := rfl
  rw [e]
  simp only [List.mem_cons] at hp ⊢
  rcases hp with h | h | h | h <;> simp [h]
end ser

end
section
local macro_rules | `(tactic| k_ne) => `(tactic| (refine neN ?_; (try dsimp only); first | exact Nat.ne_of_lt (by with_reducible assumption) | exact Nat.ne_of_gt (by with_reducible assumption) | with_reducible assumption | exact Ne.symm (by with_reducible assumption) | (refine Nat.ne_of_gt ?_; first | exact Nat.lt_succ_self _ | (refine Nat.lt_succ_of_lt ?_; first | exact Nat.lt_succ_self _ | (refine Nat.lt_succ_of_lt ?_; first | exact Nat.lt_succ_self _ | (refine Nat.lt_succ_of_lt ?_; first | exact Nat.lt_succ_self _ | (refine Nat.lt_succ_of_lt ?_; exact Nat.lt_succ_self _))))) | (refine Nat.ne_of_lt ?_; first | exact Nat.lt_succ_self _ | (refine Nat.lt_succ_of_lt ?_; first | exact Nat.lt_succ_self _ | (refine Nat.lt_succ_of_lt ?_; first | exact Nat.lt_succ_self _ | (refine Nat.lt_succ_of_lt ?_; first | exact Nat.lt_succ_self _ | (refine Nat.lt_succ_of_lt ?_; exact Nat.lt_succ_self _))))) | ((try (rename @Ne _ _ _ ∧ _ => oA; repeat ((have := oA.1); replace oA := oA.2))); (try (rename @Ne _ _ _ ∧ _ => oB; repeat ((have := oB.1); replace oB := oB.2))); (try (rename @Ne _ _ _ ∧ _ => oC; repeat ((have := oC.1); replace oC := oC.2))); first | with_reducible assumption | exact Ne.symm (by with_reducible assumption))))
local macro_rules | `(tactic| k_lt $h:ident) => `(tactic| (replace $h := allLt_of $h; simp only [AllLt, and_true] at $h:ident; (have hz9 := $h); repeat ((have := hz9.1); replace hz9 := hz9.2)))

section
variable {w : World} {p : Program} {loose : List Str} {mean : ExcName → Option Value} {mg mb : Str → Option Value}
    {dp un : Nat} {gd : Option (List Code)} {cn : Str} {cs : Scope} {a : Addr} {ccd : Value} {cl : List (Str × Addr)} {outer : List Env} {A₀ : Around} {base h₀ : Heap} {L : Addr} {m : Str → Option Value} {news : List (Addr × Obj)} {s : Shared}
    {Q E : Value → Shared → Prop}

theorem series_spec {wd : List UInt8} {n : Int} {tw tn : Tok}
    (B : Below A₀ base outer h₀) (F : Fr h₀ L s.heap m) (X : (Mine.kk.heap_1 w.params).In h₀)
    (N : News h₀ L s.heap news) (T : Top p loose mean mg mb h₀) (hk : cs.kind = .function)
    (hlow : Low wd) (hn0 : 0 ≤ n) (hn : n ≤ 4) (hw0 : 1 ≤ wd.length) (hw3 : wd.length ≤ 3)
    (hdp : dp + 7 < recursionLimit) (hun : un + 60 < cLine)
    (hret : ∀ (R r1 r2 : Addr) (c c1 c2 : Nat) (v1 v2 : List Value) (h' : Heap) (tk' : Nat), IntsAre v1 (rowL (meetF wd) (undF wd) (n + 1).toNat) → IntsAre v2 (rowL (endF wd) (undF wd) (n + 1).toNat) → Fr h₀ L h' m →
      News h₀ L h' ((R, W.listOf #[.ref r1, .ref r2] c) :: (r1, W.listOf v1.toArray c1) :: (r2, W.listOf v2.toArray c2) :: news) → (∀ p ∈ news, p.1 < R) → (∀ p ∈ news, p.1 < r1) → (∀ p ∈ news, p.1 < r2) → Q (.ref R) { s with heap := h', toks := tk' }) :
    wpAny (model PySem.Challenge.pw_xm0621_01 w) (ktrTop dp un gd cn cs L a ccd cl outer) (call (.ref 274) [.bytes wd.toArray tw, .int n tn]) Q E s := by
  have hsz := hlow.1
  k_with_none
  k_with "exec For Name Tuple cons nil" => (k_here; k_dflt (refine' tg_for (by (intro _ _; with_unfolding_all rfl)) (by (intro _; with_unfolding_all rfl)) ?_))
  k_with "exec For Name Call cons nil" => (k_here; k_dflt (refine' tg_for (by (intro _ _; with_unfolding_all rfl)) (by (intro _; with_unfolding_all rfl)) ?_))
  k_with "OwnPost" => dsimp only [OwnPost]
  k_with "ite" => (k_here; first | (refine ite_isFalse (by simp only [bne_eq_false_iff_eq, decide_eq_false_iff_not, beq_eq_false_iff_ne, Bool.not_eq_false', decide_eq_true_eq, beq_iff_eq, List.size_toArray, ne_eq]; omega) ?_; walk_say "OWN NO") | (refine ite_pos (by simp only [bne_iff_ne, decide_eq_true_eq, beq_iff_eq, Bool.not_eq_true', decide_eq_false_iff_not, beq_eq_false_iff_ne, List.size_toArray, ne_eq]; omega) ?_; walk_say "OWN YES"))
  k_with "subscriptTail" => (k_here; (with_reducible show wpAny _ _ (subscriptTail _ _ (Value.bytes (List.toArray _) _) (Value.int _ _)) _ _ _); k_dflt (refine' by_item (by assumption) (by first | assumption | omega | (simp only [List.size_toArray] at *; omega)) (by first | assumption | omega | (simp only [List.size_toArray] at *; omega)) ?_); intro kb eb hb1 hb2)
  k_with "call ref" => (k_here; (k_dflt show wpAny _ _ (call (Value.ref 133) [Value.ref _, Value.int _ _]) _ _ _); k_dflt (refine' at_spec (by k_asm) (by k_asm) (by k_asm) (by k_asm) (by k_asm) (by first | exact rfl | assumption) (by k_mem) (by k_mem) (by omega) (by assumption) (by ktr_room) (by ktr_units) ?_); intro ka ta h' tk' F' N' ha1 ha2)
  k_with "call ref" => (k_here; (k_dflt show wpAny _ _ (call (Value.ref 119) [Value.ref _]) _ _ _); k_dflt (refine' count_spec (by k_asm) (by k_asm) (by k_asm) (by k_asm) (by k_asm) (by first | exact rfl | assumption) (by k_mem) (by k_mem) (by ktr_room) (by ktr_units) ?_); intro h' tk' F' N')
  k_with "call ref" => (k_here; (first | k_dflt show wpAny _ _ (call (Value.ref 269) _) _ _ _ | k_dflt show wpAny _ _ (call (Value.ref 274) _) _ _ _); k_dflt (refine wpAny_call ?_; refine' code_defC (by k_asm) (by k_asm) (by k_asm) (by k_asm) (by k_asm) (by exact rfl) (by exact rfl) (by first | exact rfl | assumption) (by k_is) (by k_is) (by ktr_room) (by exact BindsTo.of_eq rfl) (by exact rfl) (by decide +kernel) ?_ (by exact rfl) (by exact rfl) (by exact rfl); k_whole; intro g' L' h' tk' cells' FG' F' N' Y' B' X' T' l1; k_cells Y'; (have l2 := lt_up l1); (have l3 := lt_up l2); (have l4 := lt_up l3); (have l5 := lt_up l4); (have l6 := lt_up l5); (have l7 := lt_up l6); (try simp only [List.cons_append, List.nil_append] at N'); (try dsimp only); (try k_lift B'); (try k_fold)))
  k_with "subscriptTail" => (k_here; (with_reducible show wpAny _ _ (subscriptTail _ (Expr.Slice _ _ none _) (Value.bytes (List.toArray _) _) (Value.ref _)) _ _ _); (with_reducible rename Fr _ _ _ _ => F'); (with_reducible rename News _ _ _ _ => N'); (refine by_slice (s := ⟨_, _, _, _, _⟩) F' N' (by constructor) (by constructor) (by assumption) rfl ?_); intro _ _ _ _ _)
  k_with "eval ListComp" => (k_here; k_dflt (refine LCg.ListComp_U (F₀ := by k_asm) (by with_unfolding_all rfl) (by decide) (by rfl) (by decide) (by rfl) ?_))
  k_with "subscriptTail Name Name ref int" => (k_here; (with_reducible show wpAny _ _ (subscriptTail _ _ (Value.ref _) (Value.int _ _)) _ _ _); (with_reducible rename News _ _ _ _ => lN'); k_dflt (refine' li_item lN' (by k_mem) (by with_reducible assumption) (by with_reducible assumption) (by (first | with_reducible assumption | exact idxP (by with_reducible assumption))) (by (first | rw [fill_len] | rw [row_len]); with_reducible assumption) (by with_reducible assumption) ?_); intro ky tk' ky1 ky2 ky3)
  k_with "subscriptTail Name BinOp ref int" => (k_here; (with_reducible show wpAny _ _ (subscriptTail _ _ (Value.ref _) (Value.int _ _)) _ _ _); (with_reducible rename News _ _ _ _ => lN'); k_dflt (refine' li_item lN' (by k_mem) (by with_reducible assumption) (by with_reducible assumption) (by (first | with_reducible assumption | exact idxP (by with_reducible assumption))) (by (first | rw [fill_len] | rw [row_len]); with_reducible assumption) (by with_reducible assumption) ?_); intro ky tk' ky1 ky2 ky3)
  k_with "binaryOp Mult int int" => (k_here; k_dflt (refine' mul_small (by (first | exact sm2 (by with_reducible assumption) (by with_reducible assumption) | exact ⟨by decide, by decide⟩)) (by (first | exact sm1 (by with_reducible assumption) (by with_reducible assumption) | exact sm3 (by with_reducible assumption) (by with_reducible assumption))) ?_); intro km km1)
  k_with "call builtin:sum" => (k_here; (with_reducible show wpAny _ _ (call (Value.builtin "sum") [Value.ref _]) _ _ _); (with_reducible rename Fr _ _ _ _ => lF'); (with_reducible rename News _ _ _ _ => lN'); k_dflt (refine' li_sum lF' lN' (by k_mem) rfl (by with_reducible assumption) ?_); clear lF' lN'; intro h' tk' t' F' N')
  k_with "call builtin:list.append" => (k_here; (with_reducible show wpAny _ _ (call (Value.builtin _) [Value.ref _, Value.int _ _]) _ _ _); k_dflt (refine' append_K (by k_asm) (by k_asm) (by k_upd) ?_ (by exact sz_row (by with_reducible assumption) (by with_reducible assumption) (by with_reducible assumption)); k_whole); intro h' F' N'; (try k_sweep))
  have hMk9 := kstMark
  k_with "CompSrc" => ((with_reducible show LCg.CompSrc _ _ _ _ _ _ _ (Expr.Call _ [Expr.BoolOp _ _ _] _ _) _ _ _ _ _ _); (with_reducible rename Fr _ _ _ _ => lF'); (with_reducible rename News _ _ _ _ => lN'); (with_reducible rename IsRange _ _ _ _ _ _ _ _ => rgX); with_unfolding_all refine' LCg.CompSrc.range (n := (n + 1).toNat) rfl lF' lN' rgX ?asm ?ars ?asz (fun g9 => crest (meetF wd) ?aturn ?afin); (case asm => exact smN hn0 hn); (case ars => exact szN); (case asz => exact lnN hn); (case aturn => unfold IntAsk; intro s9 I9 C9 D9 oI9 oC9 oD9 mC9 k9 t9 Q9 E9 hk9 hC9 hm9 F9 N9 off9 n19 n29 n39 hret9; simp only [LCg.Off3, and_true] at off9; obtain ⟨x91, x92, x93, x94, x95⟩ := idxA hn hk9; clear lF' lN' rgX; (try dsimp only); k_dflt k_steps; (focus ((with_reducible rename News _ _ _ _ => nE); (with_reducible rename Fr _ _ _ _ => fE); exact hret9 _ _ _ _ (meet_in (by with_reducible assumption)) fE nE)); (focus (exact hret9 _ _ _ _ (meet_out (by with_reducible assumption)) F9 N9))); (case' afin => intro ysM hysM; have hbdM := fill_bd (meet_bd wd) (n + 1).toNat; clear lF' lN' rgX))
  k_with "CompSrc" => ((with_reducible show LCg.CompSrc _ _ _ _ _ _ _ (Expr.Call _ [Expr.Compare _ _ _ _] _ _) _ _ _ _ _ _); (with_reducible rename Fr _ _ _ _ => lF'); (with_reducible rename News _ _ _ _ => lN'); (with_reducible rename IsRange _ _ _ _ _ _ _ _ => rgX); with_unfolding_all refine' LCg.CompSrc.range (n := (n + 1).toNat) rfl lF' lN' rgX ?bsm ?brs ?bsz (fun g9 => crest (endF wd) ?bturn ?bfin); (case bsm => exact smN hn0 hn); (case brs => exact szN); (case bsz => exact lnN hn); (case bturn => unfold IntAsk; intro s9 I9 C9 D9 oI9 oC9 oD9 mC9 k9 t9 Q9 E9 hk9 hC9 hm9 F9 N9 off9 n19 n29 n39 hret9; simp only [LCg.Off3, and_true] at off9; obtain ⟨x91, x92, x93, x94, x95⟩ := idxA hn hk9; clear lF' lN' rgX; (try dsimp only); k_dflt k_steps; (focus (exact hret9 _ _ _ _ ends_is F9 N9))); (case' bfin => intro ysE hysE; have hbdE := fill_bd (end_bd wd) (n + 1).toNat; clear lF' lN' rgX))
  k_with "CompSrc" => ((with_reducible show LCg.CompSrc _ _ _ _ _ _ _ (Expr.BinOp _ Operator.Sub _ _) _ _ _ _ _ _); (with_reducible rename Fr _ _ _ _ => lF'); (with_reducible rename News _ _ _ _ => lN'); (with_reducible rename IsRange _ _ _ _ _ _ _ _ => rgX); with_unfolding_all refine' LCg.CompSrc.range (n := (n + 1).toNat) rfl lF' lN' rgX ?csm ?crs ?csz (fun g9 => crest (undF wd) ?cturn ?cfin); (case csm => exact smN hn0 hn); (case crs => exact szN); (case csz => exact lnN hn); (case cturn => unfold IntAsk; intro s9 I9 C9 D9 oI9 oC9 oD9 mC9 k9 t9 Q9 E9 hk9 hC9 hm9 F9 N9 off9 n19 n29 n39 hret9; simp only [LCg.Off3, and_true] at off9; obtain ⟨x91, x92, x93, x94, x95⟩ := idxA hn hk9; clear lF' lN' rgX; (try dsimp only); k_dflt k_steps; (focus ((with_reducible rename News _ _ _ _ => nE); (with_reducible rename Fr _ _ _ _ => fE); exact hret9 _ _ _ _ (und_in hk9 (by with_reducible assumption) (by with_reducible assumption) (by with_reducible assumption) (by with_reducible assumption) (by with_reducible assumption)) fE nE)); (focus ((with_reducible rename News _ _ _ _ => nE); (with_reducible rename Fr _ _ _ _ => fE); exact hret9 _ _ _ _ (und_out hk9 (by with_reducible assumption) (by with_reducible assumption) (by with_reducible assumption)) fE nE))); (case' cfin => intro ysU hysU; have hbdU := fill_bd (und_bd wd) (n + 1).toNat; clear lF' lN' rgX))
  k_with "pyIter ref" => ((with_reducible show wpAny _ _ (pyIter (Value.ref _)) (fun it s₂ => TgAt _ _ _ _ _ _ _ _ it s₂) _ _); (with_reducible rename Fr _ _ _ _ => lF'); (with_reducible rename News _ _ _ _ => lN'); with_unfolding_all refine' tg_two rfl lF' lN' ?wmem ?wturn; (case wmem => k_mem); (case' wturn => intro Iw oIw hw tkw ltw Fw Nw; k_lt ltw; clear lF' lN'))
  k_with "pyIter ref" => ((with_reducible show wpAny _ _ (pyIter (Value.ref _)) (fun it s₂ => TgAt _ _ _ _ _ _ _ _ it s₂) _ _); (with_reducible rename Fr _ _ _ _ => lF'); (with_reducible rename News _ _ _ _ => lN'); (with_reducible rename IsRange _ _ _ _ _ _ _ _ => rgX); with_unfolding_all refine' ser_range (n := (n + 1).toNat) (meetF wd) (undF wd) (_ :: news) rfl rgX ?dsm ?drs lF' lN' ?dx ?dturn ?ddone; (case dsm => exact smN hn0 hn); (case drs => exact szN); (case dx => assumption); (all_goals (clear lF' lN' rgX)); (case' dturn => intro Ir ir tr vr cr oR xR hr0 tkr oIr ltr hir hvr hor FR NR; k_lt ltr; obtain ⟨x81, x82, x83, x84⟩ := idxR hn hir; have hbdR := row_bd4 (meet_bd wd) (und_bd wd) (k := ir) x84); (case' ddone => intro vr cr oR xR hr0 tkr hvr hor FR NR))
  k_with "pyIter ref" => ((with_reducible show wpAny _ _ (pyIter (Value.ref _)) (fun it s₂ => TgAt _ _ _ _ _ _ _ _ it s₂) _ _); (with_reducible rename Fr _ _ _ _ => lF'); (with_reducible rename News _ _ _ _ => lN'); (with_reducible rename IsRange _ _ _ _ _ _ _ _ => rgX); with_unfolding_all refine' ser_range (n := (n + 1).toNat) (endF wd) (undF wd) (_ :: _ :: news) rfl rgX ?fsm ?frs lF' lN' ?fx ?fturn ?fdone; (case fsm => exact smN hn0 hn); (case frs => exact szN); (case fx => assumption); (all_goals (clear lF' lN' rgX)); (case' fturn => intro Ir ir tr vr cr oR xR hr0 tkr oIr ltr hir hvr hor FR NR; k_lt ltr; obtain ⟨x81, x82, x83, x84⟩ := idxR hn hir; have hbdR := row_bd4 (end_bd wd) (und_bd wd) (k := ir) x84); (case' fdone => intro vr cr oR xR hr0 tkr hvr hor FR NR))
  k_with "CompSrc" => ((with_reducible show LCg.CompSrc _ _ _ _ _ _ _ (Expr.BinOp _ Operator.Mult _ _) _ _ _ _ _ _); (with_reducible rename Fr _ _ _ _ => lF'); (with_reducible rename News _ _ _ _ => lN'); (with_reducible rename IsRange _ _ _ _ _ _ _ _ => rgX); with_unfolding_all refine' LCg.CompSrc.range (n := ir) rfl lF' lN' rgX ?gsm ?grs ?gsz (fun g9 => crest_row hvr ?gturn ?gfin); (case gsm => exact smI hn hir); (case grs => exact szI); (case gsz => exact lnI hn hir); (case gturn => unfold IntAsk; intro s9 I9 C9 D9 oI9 oC9 oD9 mC9 k9 t9 Q9 E9 hk9 hC9 hm9 F9 N9 off9 n19 n29 n39 hret9; simp only [LCg.Off3, and_true] at off9; obtain ⟨x91, x92, x93, x94, x95, x96⟩ := idxC hn hir hk9; clear lF' lN' rgX; (try dsimp only); k_dflt k_steps; (with_reducible rename News _ _ _ _ => nE); (with_reducible rename Fr _ _ _ _ => fE); exact hret9 _ _ _ _ (conv_in hk9 hir (row_len ir) (by with_reducible assumption) (by with_reducible assumption) (by with_reducible assumption)) fE nE); (case' gfin => intro ysC hysC; clear lF' lN' rgX))
  k_with "CompSrc" => ((with_reducible show LCg.CompSrc _ _ _ _ _ _ _ (Expr.BinOp _ Operator.Mult _ _) _ _ _ _ _ _); (with_reducible rename Fr _ _ _ _ => lF'); (with_reducible rename News _ _ _ _ => lN'); (with_reducible rename IsRange _ _ _ _ _ _ _ _ => rgX); with_unfolding_all refine' LCg.CompSrc.range (n := ir) rfl lF' lN' rgX ?esm ?ers ?esz (fun g9 => crest_row hvr ?eturn ?efin); (case esm => exact smI hn hir); (case ers => exact szI); (case esz => exact lnI hn hir); (case eturn => unfold IntAsk; intro s9 I9 C9 D9 oI9 oC9 oD9 mC9 k9 t9 Q9 E9 hk9 hC9 hm9 F9 N9 off9 n19 n29 n39 hret9; simp only [LCg.Off3, and_true] at off9; obtain ⟨x91, x92, x93, x94, x95, x96⟩ := idxC hn hir hk9; clear lF' lN' rgX; (try dsimp only); k_dflt k_steps; (with_reducible rename News _ _ _ _ => nE); (with_reducible rename Fr _ _ _ _ => fE); exact hret9 _ _ _ _ (conv_in hk9 hir (row_len ir) (by with_reducible assumption) (by with_reducible assumption) (by with_reducible assumption)) fE nE); (case' efin => intro ysC hysC; clear lF' lN' rgX))
  k_steps
  rotate_left
  · ((with_reducible rename News _ _ _ _ => nE); (with_reducible rename Fr _ _ _ _ => fE); exact ser_endP fE nE (fun p hp => .tail _ hp) (by with_reducible assumption) (conv_end hir (by with_reducible assumption) hvr))
  · (with_reducible rename News _ _ _ _ => nE); (with_reducible rename Fr _ _ _ _ => fE)
    with_unfolding_all refine' tw_endR fE nE ?ya ?yb ?yr ?yt
    case ya => exact ltw_cut ltw
    case yb => exact ltw_new ltw
    case yr => k_ne
    case yt =>
      intro hX tkX FX NX0 oI2 NX
      clear NX0 fE nE
      k_steps
      rotate_left
      · ((with_reducible rename News _ _ _ _ => nE); (with_reducible rename Fr _ _ _ _ => fE); exact ser_endP fE nE (fun p hp => .tail _ hp) (by with_reducible assumption) (conv_end hir (by with_reducible assumption) hvr))
      · (with_reducible rename News _ _ _ _ => nE); (with_reducible rename Fr _ _ _ _ => fE)
        with_unfolding_all refine' tw_endR fE nE ?za ?zb ?zr ?zt
        case za => exact ltw_cut ltw
        case zb =>
          intro p hp
          rcases List.mem_cons.mp hp with rfl | hp
          · k_ne
          · exact ltw_new ltw p hp
        case zr => k_ne
        case zt =>
          intro hY tkY FY NY
          clear fE nE
          k_steps
          rename News h₀ _ _ _ => kN
          rename Fr h₀ _ _ m => kF
          rename ∀ p : Addr × Obj, p ∈ news → p.1 < _ => hl7
          exact hret _ _ _ _ _ _ _ _ _ _ (by with_reducible assumption) (by with_reducible assumption) kF (fun p hp => kN p (ser_ret hp)) (fun p hp => Nat.lt_trans (hl7 p hp) (by omega)) (fun p hp => Nat.lt_trans (hl7 p hp) (by omega)) (fun p hp => Nat.lt_trans (hl7 p hp) (by omega))
end

end
section
section shown
variable {prog : Program} {w : World} {A : Around} {E : Value → Shared → Prop} {s : Shared} {h₀ : Heap} {L D : Addr} {m : Str → Option Value} {news news' : List (Addr × Obj)} {n : Nat}
theorem ints_last {vs : List Value} {ns : List Int} {p : Int} (hi : IntsAre vs (ns ++ [p])) : ∃ us t, vs = us ++ [.int p t] ∧ IntsAre us ns := by
  induction ns generalizing vs with
  | nil =>
    cases hi with
    | cons k t r => cases r; exact ⟨[], t, rfl, .nil⟩
  | cons a ns ih =>
    cases hi with
    | cons k t r =>
      obtain ⟨us, u, rfl, h⟩ := ih r
      exact ⟨.int a t :: us, u, rfl, .cons a t h⟩
theorem pop_row {vs : List Value} {ns : List Int} {p : Int} {Q : Value → Shared → Prop} (F : Fr h₀ L s.heap m) (N : News h₀ L s.heap ((D, W.listOf vs.toArray n) :: news)) (hn : ∀ p ∈ news, p.1 ≠ D) (hi : IntsAre vs (ns ++ [p])) (hz : ns.length ≤ 7)
    (h : ∀ us h' t, Fr h₀ L h' m → News h₀ L h' ((D, W.listOf us.toArray (n + 1)) :: news) → IntsAre us ns → Q (.int p t) { s with heap := h' }) : wpAny (model prog w) A (call (.builtin "list.pop") [.ref D]) Q E s := by
  obtain ⟨us, t, rfl, hu⟩ := ints_last hi
  refine kl_pop F N (p := us) (y := .int p t) (kpa_last _ us) (.head hn) ?_ fun h' F' N' => h us h' t F' N' hu
  have e := hu.length
  rw [PySem.sizeLine_eq]
  show (us ++ [Value.int p t]).length ≤ _
  rw [List.length_append, e, List.length_singleton]; omega
theorem app_row {us : List Value} {ns : List Int} {y : Int} {t : Tok} {Q : Value → Shared → Prop} (F : Fr h₀ L s.heap m) (N : News h₀ L s.heap ((D, W.listOf us.toArray n) :: news)) (hn : ∀ p ∈ news, p.1 ≠ D) (hi : IntsAre us ns) (hz : ns.length ≤ 7)
    (h : ∀ vs h', Fr h₀ L h' m → News h₀ L h' ((D, W.listOf vs.toArray (n + 1)) :: news) → IntsAre vs (ns ++ [y]) → Q .none { s with heap := h' }) : wpAny (model prog w) A (call (.builtin "list.append") [.ref D, .int y t]) Q E s :=
  append_K F N (.head hn) (fun h' F' N' => h (us ++ [.int y t]) h' F' (by rw [← List.push_toArray]; exact N') (ints_snoc hi)) (by rw [List.size_toArray, hi.length, PySem.sizeLine_eq]; omega)
theorem len_row {us : List Value} {ns : List Int} {Q : Value → Shared → Prop} (N : News h₀ L s.heap ((D, W.listOf us.toArray n) :: news)) (hi : IntsAre us ns) (hz : ns.length ≤ 8)
    (h : Q (.int (ns.length : Int) (s.toks + 1)) { s with toks := s.toks + 1 + 1 }) : wpAny (model prog w) A (call (.builtin "len") [.ref D]) Q E s := by
  have hl : s.heap.IsList D us.toArray := ⟨_, (N _ (.head _)).1, rfl, n, rfl⟩
  have e : us.toArray.size = ns.length := by rw [List.size_toArray, hi.length]
  exact len_list hl (by rw [e]; omega) (by rw [e]; exact h)
theorem it_row {value slice : PySem.Expr} {vs : List Value} {ns : List Int} {k : Int} {u : Tok} {Q : Value → Shared → Prop} (N : News h₀ L s.heap ((D, W.listOf vs.toArray n) :: news)) (hi : IntsAre vs ns)
    (h0 : 0 ≤ k) (h1 : k < (ns.length : Int)) (hz : ns.length ≤ 8) (h : ∀ (y : Int) (t : Tok), Q (.int y t) s)
    (hs : subscripted slice false (.ref D) (.int k u) = operate [.ref D, .int k u] (getItem (.ref D) (.int k u)) := by with_unfolding_all rfl) :
    wpAny (model prog w) A (subscriptTail value slice (.ref D) (.int k u)) Q E s :=
  item_anyK ⟨_, (N _ (.head _)).1, rfl, n, rfl⟩ hi h0 h1 (by omega) (fun t => h _ t) hs
theorem snoc_len {ns : List Int} {p : Int} (h : ns.length ≤ 7) : (ns ++ [p]).length ≤ 8 ∧ (ns ++ [p]).length = ns.length + 1 := by rw [List.length_append, List.length_singleton]; omega
end shown

end
section

section
variable {w : World} {p : Program} {loose : List Str} {mean : ExcName → Option Value} {mg mb : Str → Option Value}
    {dp un : Nat} {gd : Option (List Code)} {cn : Str} {cs : Scope} {a : Addr} {ccd : Value} {cl : List (Str × Addr)} {outer : List Env} {A₀ : Around} {base h₀ : Heap} {L : Addr} {m : Str → Option Value} {news : List (Addr × Obj)} {s : Shared}
    {Q E : Value → Shared → Prop}

theorem shown_spec0 {l : Addr} {c : Nat} {vs : List Value} {ns : List Int} {pl many : Int} {tm : Tok}
    (B : Below A₀ base outer h₀) (F : Fr h₀ L s.heap m) (X : (Mine.kk.heap_1 w.params).In h₀)
    (N : News h₀ L s.heap ((l, W.listOf vs.toArray c) :: news)) (T : Top p loose mean mg mb h₀) (hk : cs.kind = .function)
    (hn : ∀ p ∈ news, p.1 ≠ l) (hi : IntsAre vs (ns ++ [pl])) (hz : ns.length ≤ 7) (hp0 : 0 ≤ pl) (hp7 : pl ≤ 100) (hm : 0 < many)
    (hdp : dp + 3 < recursionLimit) (hun : un + 24 < cLine)
    (hret : ∀ (r : Int) (t : Tok) (vs' : List Value) (c' : Nat) (h' : Heap) (tk' : Nat), 0 ≤ r → r < many → IntsAre vs' (ns ++ [pl + 1]) → Fr h₀ L h' m → News h₀ L h' ((l, W.listOf vs'.toArray c') :: news) → Q (.int r t) { s with heap := h', toks := tk' }) :
    wpAny (model PySem.Challenge.pw_xm0621_01 w) (ktrTop dp un gd cn cs L a ccd cl outer) (call (.ref 264) [.ref l, .int many tm]) Q E s := by
  k_with_none
  k_with "call builtin:list.pop" => (k_here; (with_reducible rename Fr _ _ _ _ => lF'); (with_reducible rename News _ _ _ _ => lN'); k_dflt (refine' pop_row lF' lN' (by assumption) (by assumption) (by assumption) ?_); clear lF' lN'; intro us' h' t' F' N' hu')
  k_with "call builtin:list.append" => (k_here; (with_reducible rename Fr _ _ _ _ => lF'); (with_reducible rename News _ _ _ _ => lN'); k_dflt (refine' app_row lF' lN' (by assumption) (by assumption) (by assumption) ?_); clear lF' lN'; intro us' h' F' N' hu')
  k_with "call builtin:len" => (k_here; (with_reducible rename News _ _ _ _ => lN'); k_dflt (refine' len_row lN' (by assumption) (by exact (snoc_len (by assumption)).1) ?_))
  k_with "subscriptTail" => (k_here; (with_reducible show wpAny _ _ (subscriptTail _ _ (Value.ref _) (Value.int _ _)) _ _ _); (with_reducible rename News _ _ _ _ => lN'); k_dflt (refine' it_row lN' (by assumption) (by assumption) (by (have q9 := snoc_len (p := 0) (by assumption)); omega) (by exact (snoc_len (by assumption)).1) ?_); intro ky tk')
  have hMk9 := kstMark
  have q8 := snoc_len (p := pl + 1) hz
  refine wpAny_call ?_
  k_dflt cell_enter
  k_steps
  · rename News h₀ _ _ _ => kN
    rename Fr h₀ _ _ m => kF
    exact hret _ _ _ _ _ _ (fmod_lo _ hm) (fmod_hi _ hm) (by with_reducible assumption) kF kN
  · rename News h₀ _ _ _ => kN
    rename Fr h₀ _ _ m => kF
    exact hret _ _ _ _ _ _ (fmod_lo _ hm) (fmod_hi _ hm) (by with_reducible assumption) kF kN
theorem shown_spec {l : Addr} {c : Nat} {vs : List Value} {ns : List Int} {pl many : Int} {tm : Tok} {f : Obj → List (Addr × Obj)}
    (B : Below A₀ base outer h₀) (F : Fr h₀ L s.heap m) (X : (Mine.kk.heap_1 w.params).In h₀)
    (N : News h₀ L s.heap news) (T : Top p loose mean mg mb h₀) (hk : cs.kind = .function)
    (U : UpdF l (W.listOf vs.toArray c) news f) (hi : IntsAre vs (ns ++ [pl])) (hz : ns.length ≤ 7) (hp0 : 0 ≤ pl) (hp7 : pl ≤ 100) (hm : 0 < many)
    (hdp : dp + 3 < recursionLimit) (hun : un + 24 < cLine)
    (hret : ∀ (r : Int) (t : Tok) (vs' : List Value) (c' : Nat) (h' : Heap) (tk' : Nat), 0 ≤ r → r < many → IntsAre vs' (ns ++ [pl + 1]) → Fr h₀ L h' m → News h₀ L h' (f (W.listOf vs'.toArray c')) → Q (.int r t) { s with heap := h', toks := tk' }) :
    wpAny (model PySem.Challenge.pw_xm0621_01 w) (ktrTop dp un gd cn cs L a ccd cl outer) (call (.ref 264) [.ref l, .int many tm]) Q E s := by
  obtain ⟨pre, post, rfl, hf, ha, hb⟩ := U.split
  have perm : ∀ (o : Obj) (h : Heap), News h₀ L h (pre ++ (l, o) :: post) ↔ News h₀ L h ((l, o) :: (pre ++ post)) := fun o h =>
    ⟨fun N p hp => N p (by simp only [List.mem_cons, List.mem_append] at hp ⊢; rcases hp with h | h | h <;> simp [h]), fun N p hp => N p (by simp only [List.mem_cons, List.mem_append] at hp ⊢; rcases hp with h | h | h <;> simp [h])⟩
  refine shown_spec0 B F X ((perm _ _).mp N) T hk (fun p hp => ?_) hi hz hp0 hp7 hm hdp hun fun r t vs' c' h' tk' h1 h2 h3 F' N' => hret r t vs' c' h' tk' h1 h2 h3 F' (by rw [hf]; exact (perm _ _).mpr N')
  rcases List.mem_append.mp hp with h | h
  · exact ha p h
  · exact hb p h
end

end
section
section plain
def occG (t wd : List Bool) (i : Nat) : Bool := (t.drop i).take wd.length == wd
def fstG (t wd : List Bool) : Option Nat := (List.range (t.length + 1)).find? (occG t wd)
def stepG (wd : List Bool) (n : Nat) (a : Int × Int) (t : List Bool) : Int × Int := match fstG t wd with
  | none => (a.1 + 1, a.2)
  | some i => if i + wd.length = n then (a.1, a.2 + 1) else a
def cntG (wd : List Bool) (n : Nat) (ts : List (List Bool)) : Int × Int := ts.foldl (stepG wd n) (0, 0)
def txb : Nat → List (List Bool)
  | 0 => [[]]
  | k + 1 => (txb k).flatMap fun t => [false, true].map fun b => t ++ [b]
def meetG (wd : List Bool) (k : Nat) : Int := if (decide (k < wd.length) && (wd.drop k == wd.take (wd.length - k))) = true then 1 else 0
def endG (wd : List Bool) (k : Nat) : Int := if k = wd.length then 1 else 0
def undG (wd : List Bool) (k : Nat) : Int := endG wd k + meetG wd k - (if 0 < k then 2 * meetG wd (k - 1) else 0)
theorem map_beq {f : Bool → UInt8} (hf : ∀ a b, f a = f b → a = b) (x y : List Bool) : (x.map f == y.map f) = (x == y) := by
  rw [Bool.eq_iff_iff, beq_iff_eq, beq_iff_eq]
  exact ⟨fun h => List.map_inj_right (fun a b => hf a b) |>.mp h, fun h => by rw [h]⟩
variable {f : Bool → UInt8}
theorem occ_map (hf : ∀ a b, f a = f b → a = b) (t wd : List Bool) : occB (t.map f) (wd.map f) = occG t wd := by
  funext i
  unfold occB occG
  rw [List.length_map, ← List.map_drop, ← List.map_take, map_beq hf]
theorem fst_map (hf : ∀ a b, f a = f b → a = b) (t wd : List Bool) : fstAt (t.map f) (wd.map f) = fstG t wd := by
  unfold fstAt fstG
  rw [List.length_map, occ_map hf]
theorem step_map (hf : ∀ a b, f a = f b → a = b) (wd : List Bool) (n : Nat) (a : Int × Int) (t : List Bool) : cntStep (wd.map f) n a (t.map f) = stepG wd n a t := by
  unfold cntStep stepG
  rw [fst_map hf, List.length_map]
  all_goals (cases fstG t wd <;> rfl)
theorem cnt_map (hf : ∀ a b, f a = f b → a = b) (wd : List Bool) (n : Nat) (ts : List (List Bool)) : cnt (wd.map f) n (ts.map (List.map f)) = cntG wd n ts := by
  have h : (fun (a : Int × Int) (t : List Bool) => cntStep (wd.map f) n a (t.map f)) = stepG wd n := by
    funext a t
    exact step_map hf wd n a t
  unfold cnt cntG
  rw [List.foldl_map, h]
theorem meet_map (hf : ∀ a b, f a = f b → a = b) (wd : List Bool) : meetF (wd.map f) = meetG wd := by
  funext k
  unfold meetF meetB meetG
  rw [List.length_map, ← List.map_drop, ← List.map_take, map_beq hf]
theorem end_map (wd : List Bool) : endF (wd.map f) = endG wd := by
  funext k
  unfold endF endG
  rw [List.length_map]
theorem und_map (hf : ∀ a b, f a = f b → a = b) (wd : List Bool) : undF (wd.map f) = undG wd := by
  funext k
  unfold undF undG
  rw [meet_map hf, end_map]
def bLet (la lb : Int) (b : Bool) : UInt8 := if b then lb.toNat.toUInt8 else la.toNat.toUInt8
theorem txs_map (la lb : Int) : ∀ k, txs [la, lb] k = (txb k).map (List.map (bLet la lb))
  | 0 => rfl
  | k + 1 => by
    rw [txs, txb, txs_map la lb k]
    simp only [List.flatMap_map, List.map_flatMap, List.map_cons, List.map_nil]
    congr 1
    funext t
    simp [ext1, bLet]
theorem b_inj {la lb : Int} (ha : 97 ≤ la ∧ la < 110) (hb : 110 ≤ lb ∧ lb < 123) : ∀ a b, bLet la lb a = bLet la lb b → a = b := by
  have hne : la.toNat.toUInt8 ≠ lb.toNat.toUInt8 := by
    intro h
    have h' := congrArg UInt8.toNat h
    simp only [Nat.toUInt8, UInt8.toNat_ofNat'] at h'
    omega
  intro a b h
  cases a <;> cases b <;> simp [bLet] at h ⊢ <;> first | exact hne h | exact hne h.symm
theorem word_map {la lb : Int} : ∀ {zs : List Int}, (∀ z ∈ zs, z = la ∨ z = lb) → ∃ w : List Bool, w.length = zs.length ∧ zs.map (fun n => n.toNat.toUInt8) = w.map (bLet la lb)
  | [], _ => ⟨[], rfl, rfl⟩
  | z :: zs, h => by
    obtain ⟨w, hl, e⟩ := word_map (zs := zs) (fun y hy => h y (.tail _ hy))
    rcases h z (.head _) with rfl | rfl
    · exact ⟨false :: w, by simp [hl], by simp only [List.map_cons, e]; rfl⟩
    · exact ⟨true :: w, by simp [hl], by simp only [List.map_cons, e]; rfl⟩
def allW : List (List Bool) := txb 1 ++ txb 2 ++ txb 3
def okAt (w : List Bool) (N : Nat) : Bool := ((List.range (N + 1)).all fun k => cntG w k (txb k) == ((rowL (meetG w) (undG w) (N + 1)).getD k 0, (rowL (endG w) (undG w) (N + 1)).getD k 0)) && (cntG w.reverse (N - 1) (txb (N - 1)) == ((rowL (meetG w) (undG w) (N + 1)).getD (N - 1) 0, (rowL (endG w) (undG w) (N + 1)).getD (N - 1) 0))
theorem all_ok : (allW.all fun w => okAt w 3 && okAt w 4) = true := by decide +kernel
theorem in_txb : ∀ w : List Bool, w ∈ txb w.length := by
  intro w
  have key : ∀ (n : Nat) (w : List Bool), w.length = n → w ∈ txb n := by
    intro n
    induction n with
    | zero =>
      intro w h
      have : w = [] := List.length_eq_zero_iff.mp h
      subst this
      exact .head _
    | succ n ih =>
      intro w h
      rcases List.eq_nil_or_concat w with rfl | ⟨u, b, rfl⟩
      · cases h
      · rw [txb, List.mem_flatMap]
        refine ⟨u, ih u (by simp at h; exact h), ?_⟩
        cases b <;> simp
  exact key _ w rfl
theorem in_all {w : List Bool} (h0 : 1 ≤ w.length) (h3 : w.length ≤ 3) : w ∈ allW := by
  have h := in_txb w
  have : w.length = 1 ∨ w.length = 2 ∨ w.length = 3 := by omega
  unfold allW
  rcases this with e | e | e <;> rw [e] at h <;> simp [h]
theorem ok_of {w : List Bool} {N : Nat} (h0 : 1 ≤ w.length) (h3 : w.length ≤ 3) (hN : N = 3 ∨ N = 4) : okAt w N = true := by
  have h := List.all_eq_true.mp all_ok w (in_all h0 h3)
  rw [Bool.and_eq_true] at h
  rcases hN with rfl | rfl
  · exact h.1
  · exact h.2
/-- the plain law -/
theorem plain {la lb : Int} {zs : List Int} {wd : List UInt8} {N : Nat} (ha : 97 ≤ la ∧ la < 110) (hb : 110 ≤ lb ∧ lb < 123) (hz : ∀ z ∈ zs, z = la ∨ z = lb) (hw : wd = zs.map fun n => n.toNat.toUInt8) (h0 : 1 ≤ zs.length) (h3 : zs.length ≤ 3) (hN : N = 3 ∨ N = 4) :
    (∀ k : Nat, k ≤ N → cnt wd k (txs [la, lb] k) = ((rowL (meetF wd) (undF wd) (N + 1)).getD k 0, (rowL (endF wd) (undF wd) (N + 1)).getD k 0)) ∧
    cnt wd.reverse (N - 1) (txs [la, lb] (N - 1)) = ((rowL (meetF wd) (undF wd) (N + 1)).getD (N - 1) 0, (rowL (endF wd) (undF wd) (N + 1)).getD (N - 1) 0) := by
  obtain ⟨w, hl, e⟩ := word_map hz
  have hf := b_inj ha hb
  have e' : wd = w.map (bLet la lb) := hw.trans e
  subst e'
  have ok := ok_of (w := w) (by omega) (by omega) hN
  unfold okAt at ok
  rw [Bool.and_eq_true, List.all_eq_true] at ok
  rw [meet_map hf, und_map hf, end_map]
  refine ⟨fun k hk => ?_, ?_⟩
  · rw [txs_map, cnt_map hf]
    exact eq_of_beq (ok.1 k (List.mem_range.mpr (by omega)))
  · rw [← List.map_reverse, txs_map, cnt_map hf]
    exact eq_of_beq ok.2
theorem word_low {la lb : Int} {zs : List Int} {wd : List UInt8} (ha : 97 ≤ la ∧ la < 110) (hb : 110 ≤ lb ∧ lb < 123) (hz : ∀ z ∈ zs, z = la ∨ z = lb) (hw : wd = zs.map fun n => n.toNat.toUInt8) (h3 : zs.length ≤ 3) : Low wd ∧ Low wd.reverse ∧ wd.length = zs.length := by
  subst hw
  have hl : (zs.map fun n => n.toNat.toUInt8).length = zs.length := List.length_map ..
  have hc : ∀ c ∈ zs.map (fun n => n.toNat.toUInt8), 97 ≤ c.toNat ∧ c.toNat ≤ 122 := by
    intro c hc
    obtain ⟨z, hz', rfl⟩ := List.mem_map.mp hc
    simp only [Nat.toUInt8, UInt8.toNat_ofNat']
    rcases hz z hz' with rfl | rfl <;> omega
  exact ⟨⟨by omega, hc⟩, ⟨by rw [List.length_reverse]; omega, fun c h => hc c (List.mem_reverse.mp h)⟩, hl⟩
end plain

end
section
section wrest
open PyProof.Rows.LCg
variable {prog : Program} {w : World} {A : Around} {h₀ : Heap} {L : Addr} {m : Str → Option Value} {env : Env} {elt : Expr} {x : Str} {scope : Scope} {cl : List (Str × Addr)} {s : Shared} {Fin : List Value → List (Addr × Obj) → Prop}
theorem wrest {σ : Type} {n : Nat} (Led : σ → List (Addr × Obj)) (P : Nat → σ → Prop) (R : Int → Prop) (c₀ : σ) (hoff : ∀ (I C D : Addr) (c c' : σ), Off3 I C D (Led c) → Off3 I C D (Led c')) (hp : P 0 c₀)
    (turn : ∀ (s : Shared) (I C D : Addr) (oI oC oD : Obj) (mC : Str → Option Value) (k : Nat) (t : Tok) (Q E : Value → Shared → Prop) (c : σ), k < n → NsObj oC mC → mC x = some (.int (0 + (k : Int)) t) → P k c →
      Fr h₀ L s.heap m → News h₀ L s.heap ((I, oI) :: (C, oC) :: (D, oD) :: Led c) → Off3 I C D (Led c) → (@Ne Nat I C) → (@Ne Nat I D) → (@Ne Nat C D) →
      (∀ y t' h' tk' c', R y → P (k + 1) c' → Fr h₀ L h' m → News h₀ L h' ((I, oI) :: (C, oC) :: (D, oD) :: Led c') → Q (.int y t') { s with heap := h', toks := tk' }) →
      wpAny (model prog w) A (eval elt (compEnvC scope cl C env)) Q E s)
    (fin : ∀ ys zs c, IntsAre ys zs → zs.length = n → (∀ z ∈ zs, R z) → P n c → Fin ys (Led c)) :
    CompRest prog w A h₀ L m env elt x scope cl s (fun _ => True) (fun i v => ∃ t, v = .int (0 + (i : Int)) t) Fin n 0 [] (Led c₀) := by
  have key : ∀ (j i : Nat) (ys : List Value) (zs : List Int) (c : σ), i + j = n → IntsAre ys zs → zs.length = i → (∀ z ∈ zs, R z) → P i c → CompRest prog w A h₀ L m env elt x scope cl s (fun _ => True) (fun i v => ∃ t, v = .int (0 + (i : Int)) t) Fin j i ys (Led c) := by
    intro j
    induction j with
    | zero =>
      intro i ys zs c hi hy hl hz hp
      have e : i = n := by omega
      subst e
      exact CompRest.zero (fin ys zs c hy hl hz hp)
    | succ j ih =>
      intro i ys zs c hi hy hl hz hp
      refine CompRest.succ ?_
      rintro v I oI C oC D m₂ h tk E' ⟨t, rfl⟩ hC hx F N off ⟨n1, n2, n3⟩
      refine turn _ I C D oI oC (lst ys) m₂ i t _ E' c (by omega) hC hx hp F N off n1 n2 n3 fun y t' h' tk' c' hy' hp' F' N' => ?_
      refine ⟨h', tk', Led c', rfl, F', N', hoff I C D c c' off, trivial, ?_⟩
      refine ih (i + 1) _ (zs ++ [y]) c' (by omega) (ints_snoc hy) (by rw [List.length_append, hl]; rfl) (fun z hz' => ?_) hp'
      rcases List.mem_append.mp hz' with h | h
      · exact hz z h
      · rw [List.mem_singleton.mp h]; exact hy'
  exact key n 0 [] [] c₀ (by omega) .nil rfl (fun z hz => (nomatch hz)) hp
theorem word_rest {n : Nat} {p1 p2 p4 p5 p6 p7 p8 : Addr × Obj} {rl : Addr} {c : Nat} {vs : List Value} {ns : List Int} {pl : Int} (R : Int → Prop) (hv : IntsAre vs (ns ++ [pl]))
    (turn : ∀ (s : Shared) (I C D : Addr) (oI oC oD : Obj) (mC : Str → Option Value) (k : Nat) (t : Tok) (Q E : Value → Shared → Prop) (vs : List Value) (c : Nat), k < n → NsObj oC mC → mC x = some (.int (0 + (k : Int)) t) → IntsAre vs (ns ++ [pl + (k : Int)]) →
      Fr h₀ L s.heap m → News h₀ L s.heap ((I, oI) :: (C, oC) :: (D, oD) :: p1 :: p2 :: (rl, W.listOf vs.toArray c) :: p4 :: p5 :: p6 :: p7 :: p8 :: []) → Off3 I C D (p1 :: p2 :: (rl, W.listOf vs.toArray c) :: p4 :: p5 :: p6 :: p7 :: p8 :: []) → (@Ne Nat I C) → (@Ne Nat I D) → (@Ne Nat C D) →
      (∀ y t' h' tk' vs' c', R y → IntsAre vs' (ns ++ [pl + (k : Int) + 1]) → Fr h₀ L h' m → News h₀ L h' ((I, oI) :: (C, oC) :: (D, oD) :: p1 :: p2 :: (rl, W.listOf vs'.toArray c') :: p4 :: p5 :: p6 :: p7 :: p8 :: []) → Q (.int y t') { s with heap := h', toks := tk' }) →
      wpAny (model prog w) A (eval elt (compEnvC scope cl C env)) Q E s)
    (fin : ∀ ys zs vs c, IntsAre ys zs → zs.length = n → (∀ z ∈ zs, R z) → Fin ys (p1 :: p2 :: (rl, W.listOf vs c) :: p4 :: p5 :: p6 :: p7 :: p8 :: [])) :
    CompRest prog w A h₀ L m env elt x scope cl s (fun _ => True) (fun i v => ∃ t, v = .int (0 + (i : Int)) t) Fin n 0 [] (p1 :: p2 :: (rl, W.listOf vs.toArray c) :: p4 :: p5 :: p6 :: p7 :: p8 :: []) :=
  wrest (σ := List Value × Nat) (fun c => p1 :: p2 :: (rl, W.listOf c.1.toArray c.2) :: p4 :: p5 :: p6 :: p7 :: p8 :: []) (fun k c => IntsAre c.1 (ns ++ [pl + (k : Int)])) R (vs, c) (fun _ _ _ _ _ h => h) (by rw [show pl + ((0 : Nat) : Int) = pl by omega]; exact hv)
    (fun s I C D oI oC oD mC k t Q E c hk hC hx hp F N off n1 n2 n3 hret => turn s I C D oI oC oD mC k t Q E c.1 c.2 hk hC hx hp F N off n1 n2 n3 fun y t' h' tk' vs' c' hy hv' F' N' => hret y t' h' tk' (vs', c') hy (by rw [show pl + ((k + 1 : Nat) : Int) = pl + (k : Int) + 1 by omega]; exact hv') F' N')
    (fun ys zs c hy hl hz _ => fin ys zs c.1.toArray c.2 hy hl hz)
theorem it_two {E : Value → Shared → Prop} {Q : Value → Shared → Prop} {l : Addr} {c : Nat} {news : List (Addr × Obj)} {value slice : PySem.Expr} {la lb k : Int} {ta tb u : Tok} (N : News h₀ L s.heap news) (hm : (l, W.listOf #[.int la ta, .int lb tb] c) ∈ news) (h0 : 0 ≤ k) (h1 : k < 2)
    (h : ∀ (y : Int) (t : Tok), (y = la ∨ y = lb) → Q (.int y t) s)
    (hs : subscripted slice false (.ref l) (.int k u) = operate [.ref l, .int k u] (getItem (.ref l) (.int k u)) := by with_unfolding_all rfl) :
    wpAny (model prog w) A (subscriptTail value slice (.ref l) (.int k u)) Q E s := by
  refine item_anyK (vs := [.int la ta, .int lb tb]) (ns := [la, lb]) ⟨_, (N _ hm).1, rfl, c, rfl⟩ (.cons _ _ (.cons _ _ .nil)) h0 h1 (by omega) (fun t => h _ t ?_) hs
  have : k = 0 ∨ k = 1 := by omega
  rcases this with rfl | rfl
  · exact .inl rfl
  · exact .inr rfl
theorem it_eq {E : Value → Shared → Prop} {Q : Value → Shared → Prop} {l : Addr} {c : Nat} {news : List (Addr × Obj)} {value slice : PySem.Expr} {vs : List Value} {ns : List Int} {k : Int} {u : Tok} (N : News h₀ L s.heap news) (hm : (l, W.listOf vs.toArray c) ∈ news) (hi : IntsAre vs ns) (h0 : 0 ≤ k) (h1 : k < (ns.length : Int)) (hf : k < 2 ^ 63)
    (h : ∀ (y : Int) (t : Tok), y = ns.getD k.toNat 0 → Q (.int y t) s)
    (hs : subscripted slice false (.ref l) (.int k u) = operate [.ref l, .int k u] (getItem (.ref l) (.int k u)) := by with_unfolding_all rfl) :
    wpAny (model prog w) A (subscriptTail value slice (.ref l) (.int k u)) Q E s :=
  item_anyK ⟨_, (N _ hm).1, rfl, c, rfl⟩ hi h0 h1 hf (fun t => h _ t rfl) hs
theorem fdv {E : Value → Shared → Prop} {Q : Value → Shared → Prop} {r b : Int} {t u : Tok} (h0 : 0 ≤ r) (h1 : r < 5) (hb : b = 2 ∨ b = 3)
    (h : ∀ c : Int, 0 ≤ c → c * b ≤ 4 → Q (.int c s.toks) { s with toks := s.toks + 1 }) : wpAny (model prog w) A (binaryOp .FloorDiv (.int r t) (.int b u)) Q E s := by
  refine PyProof.Rows.floordiv_int (by omega) (h _ ?_ ?_) (Or.inl (PyProof.noPylong_small (by rcases hb with rfl | rfl <;> decide)))
  · rw [Int.fdiv_eq_ediv_of_nonneg _ (by omega)]; rcases hb with rfl | rfl <;> omega
  · rw [Int.fdiv_eq_ediv_of_nonneg _ (by omega)]; rcases hb with rfl | rfl <;> omega
theorem smZ {b : Int} (h0 : 0 ≤ b) (hn : b ≤ 100) : Builtin.Range.small 0 b 1 = true := small_one (by omega) (by omega) (by omega) (by omega)
theorem szZ {b : Int} : Builtin.Range.rangeSize 0 b 1 = (b.toNat : Int) := by rw [rangeSize_nat, Int.sub_zero]
theorem lnZ {b : Int} (hn : b ≤ 100) : b.toNat ≤ sizeLine := by rw [PySem.sizeLine_eq]; omega
def PlainAt (la lb : Int) (wd : List UInt8) (N : Nat) : Prop :=
  (∀ k : Nat, k ≤ N → cnt wd k (txs [la, lb] k) = ((rowL (meetF wd) (undF wd) (N + 1)).getD k 0, (rowL (endF wd) (undF wd) (N + 1)).getD k 0)) ∧
    cnt wd.reverse (N - 1) (txs [la, lb] (N - 1)) = ((rowL (meetF wd) (undF wd) (N + 1)).getD (N - 1) 0, (rowL (endF wd) (undF wd) (N + 1)).getD (N - 1) 0)
theorem by_word {E : Value → Shared → Prop} {Q : Value → Shared → Prop} {l : Addr} {c : Nat} {vs : List Value} {zs : List Int} {la lb : Int} {news : List (Addr × Obj)} (F : Fr h₀ L s.heap m) (N : News h₀ L s.heap news) (hm : (l, W.listOf vs.toArray c) ∈ news) (hh : A.handled = none)
    (hi : IntsAre vs zs) (hz : ∀ z ∈ zs, z = la ∨ z = lb) (ha : 97 ≤ la ∧ la < 110) (hb : 110 ≤ lb ∧ lb < 123) (h0 : 1 ≤ zs.length) (h3 : zs.length ≤ 3)
    (h : ∀ (wd : List UInt8) (h' : Heap) (t k : Nat), Low wd → Low wd.reverse → 1 ≤ wd.length → wd.length ≤ 3 → (∀ N, (N = 3 ∨ N = 4) → PlainAt la lb wd N) → Fr h₀ L h' m → News h₀ L h' news → Q (.bytes wd.toArray t) { s with heap := h', toks := k }) :
    wpAny (model prog w) A (call (.type "bytes") [.ref l]) Q E s := by
  obtain ⟨l1, l2, l3⟩ := word_low ha hb hz rfl h3
  refine bytes_K F N ⟨_, (N _ hm).1, rfl, c, rfl⟩ hi (fun z hz' => by rcases hz z hz' with rfl | rfl <;> omega) (by rw [hi.length, PySem.sizeLine_eq]; omega) hh fun h' t k F' N' _ => ?_
  exact h _ h' t k l1 l2 (by rw [l3]; exact h0) (by rw [l3]; exact h3) (fun N hN => plain ha hb hz rfl h0 h3 hN) F' N'
theorem law_turn {la lb cq : Int} {wd : List UInt8} {il : Nat} {cf cz k1 k2 : Int} 
    (e1 : k1 = (rowL (meetF wd) (undF wd) (3 + cq + 1).toNat).getD ((il : Int)).toNat 0) (e2 : k2 = (rowL (endF wd) (undF wd) (3 + cq + 1).toNat).getD ((il : Int)).toNat 0) (hc : (cf, cz) = cnt wd ((il : Int)).toNat (txs [la, lb] ((il : Int)).toNat)) (wP : ∀ N, (N = 3 ∨ N = 4) → PlainAt la lb wd N) (h0 : 0 ≤ cq) (h1 : cq * 3 ≤ 4) (hil : il < (3 + cq + 1).toNat) : (cf == k1 && cz == k2) = true := by
  obtain ⟨N, hN, hN1⟩ : ∃ N : Nat, (N = 3 ∨ N = 4) ∧ (3 + cq + 1).toNat = N + 1 := ⟨(3 + cq).toNat, by omega, by omega⟩
  rw [hN1] at hil e1 e2
  rw [Int.toNat_natCast] at hc e1 e2
  have hp := (wP N hN).1 il (by omega)
  rw [hp, ← e1, ← e2] at hc
  injection hc with a b
  rw [a, b]
  simp
theorem law_last {la lb cq : Int} {wd : List UInt8} {cf cz k1 k2 : Int} 
    (e1 : k1 = (rowL (meetF wd) (undF wd) (3 + cq + 1).toNat).getD (3 + cq - 1).toNat 0) (e2 : k2 = (rowL (endF wd) (undF wd) (3 + cq + 1).toNat).getD (3 + cq - 1).toNat 0) (hc : (cf, cz) = cnt wd.reverse (3 + cq - 1).toNat (txs [la, lb] (3 + cq - 1).toNat)) (wP : ∀ N, (N = 3 ∨ N = 4) → PlainAt la lb wd N) (h0 : 0 ≤ cq) (h1 : cq * 3 ≤ 4) : (cf == k1 && cz == k2) = true := by
  obtain ⟨N, hN, hN1, hN2⟩ : ∃ N : Nat, (N = 3 ∨ N = 4) ∧ (3 + cq + 1).toNat = N + 1 ∧ (3 + cq - 1).toNat = N - 1 := ⟨(3 + cq).toNat, by omega, by omega, by omega⟩
  rw [hN1, hN2] at e1 e2
  rw [hN2] at hc
  rw [(wP N hN).2, ← e1, ← e2] at hc
  injection hc with a b
  rw [a, b]
  simp
end wrest

end
section
section loop0
variable {prog : Program} {w : World} {A : Around} {E : Value → Shared → Prop} {Q : Flow → Shared → Prop} {s : Shared} {env : Env} {h₀ : Heap} {x : Str} {body : List Stmt}
def Lp0End (h₀ : Heap) (L : Addr) (s : Shared) (I : Addr) (oI : Obj) (rest : List (Addr × Obj)) (x : Str) (m₀ : Str → Option Value) (j : Nat) (s₂ : Shared) : Prop :=
  LpEnd h₀ L s I oI (fun _ : Unit => rest) (fun _ => []) (fun _ _ => True) x [] m₀ j s₂
theorem lp0_end {L I : Addr} {oI : Obj} {rest news' : List (Addr × Obj)} {m₀ : Str → Option Value} {v : Str → Option Value} {j : Nat} {h' : Heap} {tk : Nat}
    (F : Fr h₀ L h' (fun y => if y = x then v y else m₀ y)) (N : News h₀ L h' news') (hn : ∀ p ∈ (I, oI) :: rest, p ∈ news') (hi : ∀ p ∈ rest, p.1 ≠ I) : OwnEnd (Lp0End h₀ L s I oI rest x m₀ j) { s with heap := h', toks := tk } :=
  lp_end () F N hn hi (fun p hp => (nomatch hp)) (fun z hz _ _ => if_neg hz) trivial
theorem lp0 {r : Addr} {b₀ : Int} {t₀ u₀ v₀ : Tok} {m₀ : Str → Option Value} {rest : List (Addr × Obj)} (n : Nat)
    (hh : A.handled = none) (hr : IsRange s.heap r 0 b₀ 1 t₀ u₀ v₀) (hsmall : Builtin.Range.small 0 b₀ 1 = true) (hn : Builtin.Range.rangeSize 0 b₀ 1 = (n : Int))
    (F : Fr h₀ env.locals s.heap m₀) (N : News h₀ env.locals s.heap rest)
    (turn : ∀ (I : Addr) (i : Nat) (t : Tok) (h : Heap) (tk : Nat) (oI : Obj), (∀ p ∈ rest, p.1 < I) → i < n → (∀ p ∈ rest, p.1 ≠ I) →
      Fr h₀ env.locals h (fun y => if y = x then some (.int (i : Int) t) else m₀ y) → News h₀ env.locals h ((I, oI) :: rest) →
      wpAny (model prog w) A (execs body env) (OwnPost Q (Lp0End h₀ env.locals s I oI rest x m₀ (i + 1))) E { s with heap := h, toks := tk })
    (done : ∀ (u : Str → Option Value) (h : Heap) (tk : Nat), Fr h₀ env.locals h (fun y => if y = x then u y else m₀ y) → News h₀ env.locals h rest → Q .next { s with heap := h, toks := tk }) :
    wpAny (model prog w) A (pyIter (.ref r)) (fun it s₂ => LoopAtV prog w A h₀ env x body Q E it s₂) E s :=
  own_range (fun _ : Unit => rest) (fun _ => []) [] (fun _ _ => True) () hh hr hsmall hn F N (fun p hp => (nomatch hp)) trivial
    (fun I i t c u h tk oI hl hi _ hne F N => turn I i t h tk oI hl hi hne F N)
    (fun c u h tk _ F N => done u h tk F N)
end loop0

end
section
section revd
open PySem.Builtin PySem.W.KBy
def revA (b : Array UInt8) : Array UInt8 := ((sliceRange (sliceBounds none none (some (-1)) b.size).1 (sliceBounds none none (some (-1)) b.size).2.1 (sliceBounds none none (some (-1)) b.size).2.2).filterMap (b[·]?)).toArray
theorem revA_eq (b : Array UInt8) : revA b = b.toList.reverse.toArray := by
  unfold revA
  rw [krv_bounds]
  show ((sliceRange ((b.size : Int) - 1) (-1) (-1)).filterMap (b[·]?)).toArray = _
  rw [krv_sliceRange, krv_range, List.filterMap_reverse, krv_all]
theorem meets_rev (b : Array UInt8) (t : Tok) (a : Addr) {u : Tok} :
    Meets («bytes.__getitem__» ⟨[.bytes b t, .ref a], []⟩) (fun _ R s => s.heap.IsSliceOf a .none .none (.int (-1) u) ∧ (revA b).size ≤ sizeLine ∧ R (.ok (.ret (.bytes (revA b) s.toks))) { s with toks := s.toks + 1 }) := by
  refine .of_wp fun prog w A R s hS => ?_
  obtain ⟨⟨o, ho, hc, hd⟩, hsz, h⟩ := hS
  have hT : s.TypeIs (.ref a) "slice" := ⟨o, ho, hc⟩
  show wpAny _ _ (Bytes.payload (.bytes b t) >>= fun r => _) _ _ s
  refine wpAny_bind (wpAny_of_eq (a := b) rfl ?_)
  show wpAny _ _ (Bytes.subscript? (.ref a) >>= fun r => _) _ _ s
  refine wpAny_bind ?_
  unfold Bytes.subscript?
  refine wpAny_bind (wpAny_specialOf hT slice_no_index (wpAny_pure ?_))
  refine wpAny_bind (wpAny_typeOf hT ?_)
  show wpAny _ _ (Bytes.sliceParts (.ref a) >>= fun r => _) _ _ s
  refine wpAny_bind ?_
  unfold Bytes.sliceParts
  refine wpAny_bind (wpAny_field (x := .int (-1) u) ho hd rfl ?_)
  kby_int
  refine wpAny_ite (ite_no (show ¬ ((rawInt (-1) == rawInt 0) = true) by decide) ?_)
  refine wpAny_bind (wpAny_field (x := .none) ho hd rfl ?_)
  kby_none
  refine wpAny_bind (wpAny_field (x := .none) ho hd rfl ?_)
  kby_none
  have go : wpAny (model prog w) A.in1 (sliceIndices (rawPart none) (rawPart none) (rawPart (some (-1))) b.size) (fun r s' => r = sliceBounds none none (some (-1)) b.size ∧ s' = s) (fun _ _ => False) s :=
    wpAny_of_eq (sliceIndices_raw none none (some (-1)) b.size (by decide)) ⟨rfl, rfl⟩
  refine wpAny_pure ?_
  refine wpAny_bind (wpAny_mono go (fun r s' hr => ?_) fun _ _ e => e.elim)
  obtain ⟨hr1, hr2⟩ := hr
  subst hr1 hr2
  refine wpAny_ite (ite_no (fun hc => by simp only [Bool.and_eq_true] at hc; exact absurd hc.1.1.2 (by decide)) ?_)
  exact wpAny_bind (wpAny_mkBytes (wpAny_pure ⟨_, rfl, h⟩) hsz)
theorem by_rev {prog : Program} {w : World} {A : Around} {E : Value → Shared → Prop} {s : Shared} {value slice : PySem.Expr} {x : List UInt8} {t u : Tok} {h₀ : Heap} {L : Addr} {m : PySem.Str → Option Value} {news : List (Addr × Obj)} {Q : Value → Shared → Prop}
    (hF : Fr h₀ L s.heap m) (hN : News h₀ L s.heap news) (hz : x.length ≤ 1000)
    (h : ∀ h' t' k, Fr h₀ L h' m → News h₀ L h' news → Q (.bytes x.reverse.toArray t') { s with heap := h', toks := k })
    (hs : subscripted slice false (.bytes x.toArray t) (.ref s.heap.objs.size) = operate [.ref s.heap.objs.size, .bytes x.toArray t] (getItem (.bytes x.toArray t) (.ref s.heap.objs.size)) := by with_unfolding_all rfl)
    (ht : ∀ r, letTemporaryGo value (.bytes x.toArray t) r = pure () := by intro _; with_unfolding_all rfl) :
    wpAny (model prog w) A (subscriptTail value slice (.bytes x.toArray t) (.ref s.heap.objs.size)) Q E { s with heap := s.heap.push { cls := .type "slice", data := .fields #[.none, .none, .int (-1) u] } } :=
  tail_of_ItemOn ⟨"bytes", _, FB.slot_bytes_getitem.lookup, typeIs_bytes _ _ _, getItem_meets (typeIs_bytes _ _ _) (by decide) FB.slot_bytes_getitem FB.entry_bytes_getitem (FB.args_bytes_getitem_2 _ _) (meets_rev x.toArray t _)
    ⟨Heap.IsSliceOf.new _ _ _ _, by rw [revA_eq, sizeLine_eq]; simp; omega, by rw [revA_eq]; exact h _ _ _ (hF.push _) (News.pushKeep hN _)⟩⟩ hs ht
end revd

end
section
theorem take7 (l : List Int) : (List.take 7 l).length ≤ 7 := by rw [List.length_take]; exact Nat.min_le_left _ _

local macro_rules | `(tactic| k_ne) => `(tactic| (refine neN ?_; (try dsimp only); first | exact Nat.ne_of_lt (by with_reducible assumption) | exact Nat.ne_of_gt (by with_reducible assumption) | with_reducible assumption | exact Ne.symm (by with_reducible assumption) | (refine Nat.ne_of_gt ?_; first | exact Nat.lt_succ_self _ | (refine Nat.lt_succ_of_lt ?_; first | exact Nat.lt_succ_self _ | (refine Nat.lt_succ_of_lt ?_; first | exact Nat.lt_succ_self _ | (refine Nat.lt_succ_of_lt ?_; first | exact Nat.lt_succ_self _ | (refine Nat.lt_succ_of_lt ?_; exact Nat.lt_succ_self _))))) | (refine Nat.ne_of_lt ?_; first | exact Nat.lt_succ_self _ | (refine Nat.lt_succ_of_lt ?_; first | exact Nat.lt_succ_self _ | (refine Nat.lt_succ_of_lt ?_; first | exact Nat.lt_succ_self _ | (refine Nat.lt_succ_of_lt ?_; first | exact Nat.lt_succ_self _ | (refine Nat.lt_succ_of_lt ?_; exact Nat.lt_succ_self _))))) | ((try (rename @Ne _ _ _ ∧ _ => oA; repeat ((have := oA.1); replace oA := oA.2))); (try (rename @Ne _ _ _ ∧ _ => oB; repeat ((have := oB.1); replace oB := oB.2))); (try (rename @Ne _ _ _ ∧ _ => oC; repeat ((have := oC.1); replace oC := oC.2))); first | with_reducible assumption | exact Ne.symm (by with_reducible assumption))))
local macro_rules | `(tactic| k_lt $h:ident) => `(tactic| (replace $h := allLt_of $h; simp only [AllLt, and_true] at $h:ident; (have hz9 := $h); repeat ((have := hz9.1); replace hz9 := hz9.2)))

theorem plY {k : Nat} : (0 : Int) ≤ 0 + 1 + 1 + 1 + 1 + (k : Int) := by omega
theorem plZ {k : Nat} {c : Int} (h : k < (1 + c).toNat) (h2 : c * 2 ≤ 4) : (0 : Int) + 1 + 1 + 1 + 1 + (k : Int) ≤ 100 := by omega
local macro_rules | `(tactic| kc_close) => `(tactic| first
  | (with_reducible rename _ = false => hf; exact absurd ((law_turn (by with_reducible assumption) (by with_reducible assumption) (by with_reducible assumption) (by with_reducible assumption) (by with_reducible assumption) (by with_reducible assumption) (by with_reducible assumption)).symm.trans hf) (by decide))
  | (rw [law_last (by with_reducible assumption) (by with_reducible assumption) (by with_reducible assumption) (by with_reducible assumption) (by with_reducible assumption) (by with_reducible assumption)]; (show GoodW _ _ _ _ _ (.ok (.ret (.bool _))) _); refine goodW_bool (by with_reducible assumption) (by with_reducible assumption) (raisesW_false ?_) ?_; (· wrow_none_raised); (· (refine postW_of (by wrow_shape) (w_eq_bool (w_res rfl) w_lit) ?_); w_fin)))
/- The head writes a quick twin of each big constant; these names are taken ahead, so that it leaves the biggest out (the compiled file would not fit). -/
def law_main.tw14090284624843534012 : Nat := 0
def law_main.tw11934705483901984596 : Nat := 0
def law_main.tw3306930039779537293 : Nat := 0
def law_main.tw15315299270005276276 : Nat := 0
def law_main.tw6924401866413787534 : Nat := 0
def law_main.tw14633167678093162828 : Nat := 0
def law_main.tw10005572885644401907 : Nat := 0
def law_main.tw10842381124402814338 : Nat := 0
def law_main.tw1879932780774878714 : Nat := 0
def law_main.tw8158384327203623158 : Nat := 0
def law_main.tw4660256105134729643 : Nat := 0
def law_main.tw12731874653704580340 : Nat := 0
def law_main.tw15696711027295579848 : Nat := 0
def law_main.tw12095483204511894155 : Nat := 0
def law_main.tw9303910789308108799 : Nat := 0
def law_main.tw18161915630714553012 : Nat := 0
def law_main.tw13733688260295542559 : Nat := 0
def law_main.tw2592930012809701145 : Nat := 0
def law_main.tw13884258636417046317 : Nat := 0
def law_main.tw1886267683660728072 : Nat := 0
def law_main.tw4344343888318783083 : Nat := 0
def law_main.tw16574076814696057076 : Nat := 0
def law_main.tw4806060809630251477 : Nat := 0
def law_main.tw8530108845852526039 : Nat := 0
def law_main.tw6489876347386804070 : Nat := 0
set_option Elab.async true in
theorem law_main : PySem.Challenge.rw_xm0621_01.Holds := by
  w_on
  o_law
  o_head (kHook Mine.kk.heap_1 [2, 3, 15, 22, 24, 25, 27, 28, 29, 30, 31, 32, 35, 37, 38, 40, 41, 42, 44, 45, 47, 48, 49, 51, 52, 54, 55, 56, 58, 59, 61, 62, 63, 65, 66, 68, 69, 70, 72, 73, 75, 76, 77, 79, 80, 82, 83, 84, 86, 87, 89, 90, 91, 93, 94, 96, 97, 105, 106, 108, 109, 111, 112, 113, 115, 116, 118, 119, 120, 122, 123, 125, 126, 127, 129, 130, 132, 133, 134, 136, 137, 139, 140, 141, 143, 144, 146, 147, 148, 150, 151, 153, 154, 155, 157, 158, 160, 161, 162, 164, 165, 167, 168, 169, 171, 172, 174, 175, 176, 178, 179, 181, 182, 183, 185, 186, 188, 189, 190, 192, 193, 195, 196, 197, 199, 200, 202, 203, 204, 206, 207, 209, 210, 211, 213, 214, 216, 217, 218, 220, 221, 223, 224, 225, 227, 228, 230, 231, 232, 234, 235, 237, 238, 239, 242, 243, 244, 246, 247, 249, 250, 251, 252, 253, 254, 255, 258, 260, 261, 263, 264, 265, 268, 269, 270, 273, 274, 275, 278, 279] (fun _ => by kernel_rfl))
  (case hw => w_witness2)
  w_strict k_go0
  all_goals try k_fold
  k_with_none
  k_with "ite" => (k_here; first | (refine ite_isFalse (by simp only [bne_eq_false_iff_eq, decide_eq_false_iff_not, beq_eq_false_iff_ne, Bool.not_eq_false', decide_eq_true_eq, beq_iff_eq, List.size_toArray, ne_eq]; omega) ?_; walk_say "OWN NO") | (refine ite_pos (by simp only [bne_iff_ne, decide_eq_true_eq, beq_iff_eq, Bool.not_eq_true', decide_eq_false_iff_not, beq_eq_false_iff_ne, List.size_toArray, ne_eq]; omega) ?_; walk_say "OWN YES"))
  k_with "subscriptTail" => (k_here; (with_reducible show wpAny _ _ (subscriptTail _ _ (Value.bytes (List.toArray _) _) (Value.int _ _)) _ _ _); k_dflt (refine' by_item (by assumption) (by first | assumption | omega | (simp only [List.size_toArray] at *; omega)) (by first | assumption | omega | (simp only [List.size_toArray] at *; omega)) ?_); intro kb eb hb1 hb2)
  k_with "call ref" => (k_here; (k_dflt show wpAny _ _ (call (Value.ref 133) [Value.ref _, Value.int _ _]) _ _ _); k_dflt (refine' at_spec (by k_asm) (by k_asm) (by k_asm) (by k_asm) (by k_asm) (by first | exact rfl | assumption) (by k_mem) (by k_mem) (by omega) (by assumption) (by ktr_room) (by ktr_units) ?_); intro ka ta h' tk' F' N' ha1 ha2)
  k_with "call ref" => (k_here; (k_dflt show wpAny _ _ (call (Value.ref 119) [Value.ref _]) _ _ _); k_dflt (refine' count_spec (by k_asm) (by k_asm) (by k_asm) (by k_asm) (by k_asm) (by first | exact rfl | assumption) (by k_mem) (by k_mem) (by ktr_room) (by ktr_units) ?_); intro h' tk' F' N')
  k_with "call ref" => (k_here; (k_dflt show wpAny _ _ (call (Value.ref 264) [Value.ref _, Value.int _ _]) _ _ _); k_dflt (refine' shown_spec (by k_asm) (by k_asm) (by k_asm) (by k_asm) (by k_asm) (by first | exact rfl | assumption) (by k_updF) (by assumption) (by exact take7 _) (by first | decide | exact plY | omega) (by first | decide | exact plZ (by with_reducible assumption) (by with_reducible assumption) | omega) (by decide) (by ktr_room) (by ktr_units) ?_); intro rs' ts' vs' c' h' tk' rs1' rs2' hvs' F' N'; (try dsimp only at N'))
  k_with "eval ListComp" => (k_here; k_dflt (refine LCg.ListComp_U (F₀ := by k_asm) (by with_unfolding_all rfl) (by decide) (by rfl) (by decide) (by rfl) ?_))
  k_with "binaryOp FloorDiv int int" => (k_here; k_dflt (refine' fdv (by with_reducible assumption) (by with_reducible assumption) (by first | exact .inl rfl | exact .inr rfl) ?_); intro cq cq1 cq2)
  k_with "call type:bytes" => (k_here; (with_reducible show wpAny _ _ (call (Value.type "bytes") [Value.ref _]) _ _ _); (with_reducible rename Fr _ _ _ _ => lF'); (with_reducible rename News _ _ _ _ => lN'); k_dflt (refine' by_word lF' lN' (by k_mem) rfl (by with_reducible assumption) (by with_reducible assumption) (by constructor <;> omega) (by constructor <;> omega) (by omega) (by omega) ?_); clear lF' lN'; intro wd' h' t' tk' wl1 wl2 wl3 wl4 wP F' N')
  k_with "call ref" => (k_here; (k_dflt show wpAny _ _ (call (Value.ref 274) [Value.bytes (List.toArray _) _, Value.int _ _]) _ _ _); k_dflt (refine' series_spec (by k_asm) (by k_asm) (by k_asm) (by k_asm) (by k_asm) (by first | exact rfl | assumption) (by with_reducible assumption) (by omega) (by omega) (by with_reducible assumption) (by with_reducible assumption) (by ktr_room) (by ktr_units) ?_); intro sR sr1 sr2 sc sc1 sc2 sv1 sv2 h' tk' si1 si2 F' N' sl1 sl2 sl3; k_lt sl1; k_lt sl2; k_lt sl3)
  k_with "subscriptTail Name Call ref int" => (k_here; (with_reducible show wpAny _ _ (subscriptTail _ _ (Value.ref _) (Value.int _ _)) _ _ _); (with_reducible rename News _ _ _ _ => lN'); k_dflt (refine' it_two lN' (by k_mem) (by with_reducible assumption) (by with_reducible assumption) ?_); intro y9 ty9 hy9)
  k_with "exec For Name Call cons nil" => (k_here; (rename Fr _ _ _ _ => lF'); (with_unfolding_all refine' For_invVF lF' (by exact rfl) (by exact rfl) ?_; k_whole))
  k_with "OwnPost" => dsimp only [OwnPost]
  k_with "assign Tuple" => (k_here; (with_reducible show wpAny _ _ (assign (Expr.Tuple _ _ _) _ (Value.ref _)) _ _ _); k_dflt (refine' kun_list ?k1 ?k2 ?k3 ?k4 ?k5 ?k6 ?_; (case k1 => with_reducible assumption); (case k2 => with_reducible assumption); (case k3 => exact News.isList (by with_reducible assumption) (by k_mem)); (case k4 => exact rfl); (case k5 => exact rfl); (case k6 => exact rfl); k_whole); intro h' F' N'; (try k_sweep))
  k_with "call ref" => (k_here; (k_dflt show wpAny _ _ (call (Value.ref 269) [Value.bytes (List.toArray _) _, Value.ref _, Value.int _ _]) _ _ _); k_dflt (refine' counted_spec (by k_asm) (by k_asm) (by k_asm) (by k_asm) (by k_asm) (by first | exact rfl | assumption) (by k_mem) (by with_reducible assumption) (by constructor <;> omega) (by constructor <;> omega) (by omega) (by omega) (by ktr_room) (by ktr_units) ?_); intro cf cz cq9 ct ct' h' tk' cfz F' N' cl9; k_lt cl9)
  k_with "subscriptTail Name Name ref int" => (k_here; (with_reducible show wpAny _ _ (subscriptTail _ _ (Value.ref _) (Value.int _ _)) _ _ _); (with_reducible rename News _ _ _ _ => lN'); k_dflt (refine' it_eq lN' (by k_mem) (by with_reducible assumption) (by omega) (by rw [row_len]; omega) (by omega) ?_); intro ky tky ky1)
  k_with "subscriptTail Name BinOp ref int" => (k_here; (with_reducible show wpAny _ _ (subscriptTail _ _ (Value.ref _) (Value.int _ _)) _ _ _); (with_reducible rename News _ _ _ _ => lN'); k_dflt (refine' it_eq lN' (by k_mem) (by with_reducible assumption) (by omega) (by rw [row_len]; omega) (by omega) ?_); intro ky tky ky1)
  k_with "call type:range" => (k_here; (rename Fr _ _ _ _ => F'); (rename News _ _ _ _ => N'); with_unfolding_all refine range1_rows F' N' ?_; intro _ _ _ _ _ _ _ _ _)
  k_with "subscriptTail" => (k_here; (with_reducible show wpAny _ _ (subscriptTail _ (Expr.Slice none none _ _) (Value.bytes (List.toArray _) _) (Value.ref _)) _ _ _); (with_reducible rename Fr _ _ _ _ => F'); (with_reducible rename News _ _ _ _ => N'); k_dflt (refine by_rev (s := ⟨_, _, _, _, _⟩) F' N' (by omega) ?_); intro _ _ _ _ _)
  have hMk9 := kstMark
  k_with "CompSrc" => ((with_reducible rename Fr _ _ _ _ => lF'); (with_reducible rename News _ _ _ _ => lN'); (with_reducible rename IsRange _ _ _ _ _ _ _ _ => rgX); with_unfolding_all refine' LCg.CompSrc.range (n := Int.toNat _) rfl lF' lN' rgX ?asm ?ars ?asz (fun g9 => word_rest ?aR (by with_reducible assumption) ?aturn ?afin); (case ars => exact szZ); (case asm => exact smZ (by omega) (by omega)); (case asz => exact lnZ (by omega)); (case aturn => intro s9 I9 C9 D9 oI9 oC9 oD9 mC9 k9 t9 Q9 E9 vs9 c9 hk9 hC9 hm9 hv9 F9 N9 off9 n19 n29 n39 hret9; simp only [LCg.Off3, and_true] at off9; (try dsimp only); k_dflt k_steps; (with_reducible rename News _ _ _ _ => nE); (with_reducible rename Fr _ _ _ _ => fE); exact hret9 _ _ _ _ _ _ (by with_reducible assumption) (by with_reducible assumption) fE nE); (case' afin => intro ysW zsW vsW cW hyW hlW hzW; clear lF' lN' rgX))
  k_with "pyIter ref" => ((with_reducible show wpAny _ _ (pyIter (Value.ref _)) (fun it s₂ => LoopAtV _ _ _ _ _ _ _ _ _ it s₂) _ _); (with_reducible rename Fr _ _ _ _ => lF'); (with_reducible rename News _ _ _ _ => lN'); (with_reducible rename IsRange _ _ _ _ _ _ _ _ => rgX); with_unfolding_all refine' lp0 (Int.toNat _) rfl rgX ?bsm ?brs lF' lN' ?bturn ?bdone; (case brs => exact szZ); (case bsm => exact smZ (by omega) (by omega)); (all_goals (clear lF' lN' rgX)); (case' bturn => intro Il il tl hl9 tkl oIl ltl hil nel FL NL; k_lt ltl); (case' bdone => intro ul hl9 tkl FL NL))
  k_steps
  (with_reducible rename News _ _ _ _ => nE); (with_reducible rename Fr _ _ _ _ => fE)
  exact lp0_end fE nE (fun p hp => .tail _ (.tail _ hp)) nel

end
end Mine
theorem PySem.Challenge.cw_xm0621_01_holds : PySem.Challenge.rw_xm0621_01.Holds := by
  exact Mine.law_main
