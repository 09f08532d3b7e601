import PyProof.Rows.All
import Wide.All
import OpenK.AllK
import Wide.FinOn
import Lean
import PySem.Challenge.RW_tg0010_01
set_option Elab.async false
set_option linter.unusedVariables false
set_option maxRecDepth 100000
open PySem PySem.W PyProof.Rows
namespace Mine
noncomputable def hd.view_39 : Program := (fun (a0 a1 a2 a3 a4 a5 a6 a7 a8 a9 a10 a11 a12 a13 a14 a15 a16 a17 a18 a19 a20 : Stmt) (_ : PySem.Challenge.pw_tg0010_01.main.body = [a0, a1, a2, a3, a4, a5, a6, a7, a8, a9, a10, a11, a12, a13, a14, a15, a16, a17, a18, a19, a20]) => ({ PySem.Challenge.pw_tg0010_01 with main := { PySem.Challenge.pw_tg0010_01.main with body := [a0, a1, a3, a4, a6, a7, a8, a9, a10, a11, a13, a14, a15, a16, a17, a18, a19, a20] } } : Program)) _ _ _ _ _ _ _ _ _ _ _ _ _ _ _ _ _ _ _ _ _ rfl
theorem law_ok : OpenLaw.wellSaid PySem.Challenge.rw_tg0010_01 = true := by kernel_rfl
local macro_rules | `(tactic| o_law) => `(tactic| refine holds_law law_ok fun said => ?_)
local macro_rules | `(tactic| o_head $H) => `(tactic| (
  refine holds_open (q := Mine.hd.view_39) (loose := ([] : List Str)) (Xt := fun s => xlAt Mine.hd.view_39 [] s && recOk (RowW.records (OpenRow.toRowW (OpenLaw.row PySem.Challenge.rw_tg0010_01))) s) (XP := XL Mine.hd.view_39 []) (Yf := Hook.obs $H) (Ya := Hook.val $H) (YP := Hook.says $H) (N := 3752) ?hl (Hook.of $H) (Hook.keeps $H) (fun s e => xl_of s (Bool.and_eq_true_iff.mp e).1) XL.keeps (by rfl) (by rfl) (by rfl) (fun s e => recFacts_of (Bool.and_eq_true_iff.mp e).2) (by rfl) (by first | assumption | decide +kernel) (by decide +kernel) ⟨rfl, rfl, rfl, rfl, rfl, by decide +kernel⟩ ?hw ?hc
  (case hl => (intro w; kernel_rfl))))
set_option maxHeartbeats 8000000 in
open_top hd for PySem.Challenge.rw_tg0010_01
end Mine
open PySem PySem.W PyProof.Rows
namespace Mine
theorem room_le {d a b c B : Nat} (h : d + c < B) (e : a + b ≤ c) : d + a + b < B := by omega
theorem room_one {d b c B : Nat} (h : d + c < B) (e : b ≤ c) : d + b < B := by omega
theorem small3 {a b c n : Nat} (h : a ≤ b) (e : c = b + n) (k : c ≤ 16777216) : a ≤ 16777216 := by omega
end Mine
open PySem PySem.W PyProof.Rows PySem.Calls
namespace Mine

def scl (v b l : Int) : Int := if v < 0 then -(Int.fdiv (-v * b) l) else Int.fdiv (v * b) l
theorem scl_neg {v b l : Int} (h : v < 0) : -(Int.fdiv (-v * b) l) = scl v b l := by unfold scl; rw [if_pos h]
theorem scl_pos {v b l : Int} (h : ¬ v < 0) : Int.fdiv (v * b) l = scl v b l := by unfold scl; rw [if_neg h]

section
variable {w : World} {mean : ExcName → Option Value} {mg mb : Str → Option Value} {dp un : Nat} {gd : Option (List Code)} {cn : Str} {cs : Scope} {a : Addr} {ccd : Value} {cl : List (Str × Addr)} {outer : List Env} {A₀ : Around} {base h₀ : Heap} {L : Addr} {m : Str → Option Value} {s : Shared} {Q E : Value → Shared → Prop} {news : List (Addr × Obj)}

set_option maxHeartbeats 4000000 in
theorem scale_c {v b l : Int} {tv tb tl : Tok} (B : Below A₀ base outer h₀) (F : Fr h₀ L s.heap m) (X : (Mine.hd.heap_1 w.params).In h₀) (N : News h₀ L s.heap news)
   (T : Top Mine.hd.view_39 (looseW Mine.hd.view_39 []) mean mg mb h₀) (hk : cs.kind = .function)
   (hv : -1000 ≤ v ∧ v ≤ 1000) (hb : 0 ≤ b ∧ b ≤ 1000) (hl : 0 < l ∧ l ≤ 1000) (hd : dp + 1 < recursionLimit) (hu : un + 8 < cLine)
   (ret : ∀ t h' tk', Fr h₀ L h' m → News h₀ L h' news → Q (.int (scl v b l) t) { s with heap := h', toks := tk' }) :
   wpAny (model PySem.Challenge.rw_tg0010_01.row.prog w) (ktrTop dp un gd cn cs L a ccd cl outer) (call (.ref 60) [.int v tv, .int b tb, .int l tl]) Q E s := by
  w_top off; revert X; k_fill; intro X
  refine wpAny_call ?_
  k_dflt ktr_enter
  k_steps
  · rename_i hneg _ _ _ _
    have hneg' : v < 0 := by simpa using hneg
    rw [scl_neg hneg']
    exact ret _ _ _ (by assumption) (by assumption)
  · rename_i hneg _ _ _ _
    have hneg' : ¬ v < 0 := by simpa using hneg
    rw [scl_pos hneg']
    exact ret _ _ _ (by assumption) (by assumption)
end
end Mine
open PySem PySem.W PyProof.Rows PySem.Calls PyProof.V
namespace Mine
local macro_rules | `(tactic| k_exc) => `(tactic| first | with_reducible exact List.Mem.head _ | with_reducible assumption | (refine List.Mem.tail _ ?_; k_exc) | exact List.Mem.head _ | assumption | fail)
local macro_rules | `(tactic| k_ownname) => `(tactic| first | exact List.forall_mem_nil _ | (refine List.forall_mem_cons.mpr ⟨?_, ?_⟩; (· k_exc); k_ownname) | (intro p hp; k_exc) | fail)
local macro_rules | `(tactic| k_not) => `(tactic| first | exact List.forall_mem_nil _ | (with_reducible assumption) | (refine List.forall_mem_cons.mpr ⟨?_, ?_⟩; (· k_ne); k_not) | fail)
local macro_rules | `(tactic| k_ne) => `(tactic| first | assumption | (refine Ne.symm ?_; assumption) | (refine Nat.ne_of_lt ?_; assumption) | (refine Nat.ne_of_gt ?_; assumption) | fail)
local macro_rules | `(tactic| ktr_room) => `(tactic| first | (refine' Mine.room_le ?h ?e; (case h => assumption); (case e => decide)) | (refine' Mine.room_one ?h ?e; (case h => assumption); (case e => decide)) | fail)
local macro_rules | `(tactic| ktr_units) => `(tactic| first | (refine' Mine.room_le ?h ?e; (case h => assumption); (case e => decide)) | (refine' Mine.room_one ?h ?e; (case h => assumption); (case e => decide)) | fail)
local macro_rules | `(tactic| k_all) => `(tactic| assumption)
local macro_rules | `(tactic| walk_at "call ref") => `(tactic| (k_here; (with_reducible show wpAny _ _ (call (Value.ref 60) _) _ _ _); refine stop_ ?_))
local macro_rules | `(tactic| ktr_rel) => `(tactic| first | assumption | exact List.Mem.head _ | (refine List.Mem.tail _ ?_; ktr_rel))

def Stop (P : Prop) : Prop := P
theorem stop_ {P : Prop} (h : Stop P) : P := h
theorem stop_out {P : Prop} (h : P) : Stop P := h

abbrev histD (w : World) (t1 t2 tl : Tok) (lim : Int) (sc : Addr) : Obj :=
  dictOf [⟨PyData.keyHash w.params (Str.ofString "limit"), .str (Str.ofString "limit") t1, .int lim tl⟩, ⟨PyData.keyHash w.params (Str.ofString "scores"), .str (Str.ofString "scores") t2, .ref sc⟩] 2

def clampB (lim b : Int) : Int := if (if b < lim then b else lim) > -lim then (if b < lim then b else lim) else -lim
def absI (x : Int) : Int := if x < 0 then -x else x
def stepS (lim old b : Int) : Int := old + clampB lim b - scl old (absI (clampB lim b)) lim
theorem absI_bd {lim b : Int} (h : 0 ≤ lim) : 0 ≤ absI (clampB lim b) ∧ absI (clampB lim b) ≤ lim := by
  unfold absI clampB; split <;> split <;> split <;> omega
def hkey (side move : Int) : Int := side * 65536 + move
def putS (lim : Int) (c : List (Int × Int)) (side move bonus : Int) : List (Int × Int) := kdfPut c (hkey side move) (stepS lim (kdfLook c (hkey side move) 0) bonus)

section
variable {w : World} {mean : ExcName → Option Value} {mg mb : Str → Option Value} {dp un : Nat} {gd : Option (List Code)} {cn : Str} {cs : Scope} {a : Addr} {ccd : Value} {cl : List (Str × Addr)} {outer : List Env} {A₀ : Around} {base h₀ : Heap} {L : Addr} {m : Str → Option Value} {s : Shared} {Q E : Value → Shared → Prop} {news : List (Addr × Obj)}

set_option maxHeartbeats 4000000 in
theorem update_c {h d sc : Addr} {t1 t2 tl ts tm tb : Tok} {lim side move bonus : Int} {o : Obj} {kvs : List (Int × Value)} {c : List (Int × Int)} {rest : List (Addr × Obj)}
   (B : Below A₀ base outer h₀) (F : Fr h₀ L s.heap m) (X : (Mine.hd.heap_1 w.params).In h₀) 
   (N : News h₀ L s.heap ((sc, o) :: (h, instObj 105 d) :: (d, histD w t1 t2 tl lim sc) :: rest))
   (T : Top Mine.hd.view_39 (looseW Mine.hd.view_39 []) mean mg mb h₀) (hk : cs.kind = .function)
   (hlim : 1 ≤ lim ∧ lim ≤ 400) (hs : 0 ≤ side ∧ side ≤ 1) (hm : 0 ≤ move ∧ move ≤ 100) (hb : -1000 ≤ bonus ∧ bonus ≤ 1000)
   (hlo : (sc == sysModules) = false) (hdk : o.IsDictOf (PySem.intKind PySem.Challenge.rw_tg0010_01.row.prog w) kvs) (hf : FlatPairs PyData.int kvs (kdfD c)) (hc : c.length ≤ 1000)
   (hcb : -lim ≤ kdfLook c (hkey side move) 0 ∧ kdfLook c (hkey side move) 0 ≤ lim)
   (hne : (@Ne Nat sc h) ∧ (@Ne Nat sc d)) (hoff : ∀ p ∈ rest, p.1 ≠ sc)
   (hd : dp + 2 < recursionLimit) (hu : un + 16 < cLine)
   (ret : ∀ h' tk' o' (kvs' : List (Int × Value)), Fr h₀ L h' m → News h₀ L h' ((sc, o') :: (h, instObj 105 d) :: (d, histD w t1 t2 tl lim sc) :: rest) →
     o'.IsDictOf (PySem.intKind PySem.Challenge.rw_tg0010_01.row.prog w) kvs' → FlatPairs PyData.int kvs' (kdfD (putS lim c side move bonus)) → Q .none { s with heap := h', toks := tk' }) :
   wpAny (model PySem.Challenge.rw_tg0010_01.row.prog w) (ktrTop dp un gd cn cs L a ccd cl outer) (call (.ref 88) [.ref h, .int side ts, .int move tm, .int bonus tb]) Q E s := by
  w_top off; revert X; k_fill; intro X
  refine wpAny_call ?_
  k_dflt ktr_enter
  k_steps
  refine stop_out ?_
  k_dflt (refine' scale_c (by assumption) (by assumption) (by assumption) (by assumption) (by assumption) (by rfl) ?zq1 ?zq2 ?zq3 (by ktr_room) (by ktr_units) ?_)
  case zq1 => exact ⟨by have := hcb.1; unfold hkey at this; omega, by have := hcb.2; unfold hkey at this; omega⟩
  case zq2 => exact ⟨(absI_bd (lim := lim) (b := bonus) (by omega)).1, by have := (absI_bd (lim := lim) (b := bonus) (by omega)).2; exact Int.le_trans this (by omega)⟩
  case zq3 => omega
  intro t' h' tk' F' N'
  k_steps
  exact ret _ _ _ _ (by assumption) (by assumption) (by assumption) (by assumption)

theorem update_u {h d sc : Addr} {t1 t2 tl ts tm tb : Tok} {lim side move bonus : Int} {o : Obj} {kvs : List (Int × Value)} {c : List (Int × Int)} {rest : List (Addr × Obj)}
   (B : Below A₀ base outer h₀) (F : Fr h₀ L s.heap m) (X : (Mine.hd.heap_1 w.params).In h₀) 
   (N : News h₀ L s.heap ((sc, o) :: rest))
   (T : Top Mine.hd.view_39 (looseW Mine.hd.view_39 []) mean mg mb h₀) (hk : cs.kind = .function)
   (hm1 : (h, instObj 105 d) ∈ rest) (hm2 : (d, histD w t1 t2 tl lim sc) ∈ rest)
   (hlim : 1 ≤ lim ∧ lim ≤ 400) (hs : 0 ≤ side ∧ side ≤ 1) (hm : 0 ≤ move ∧ move ≤ 100) (hb : -1000 ≤ bonus ∧ bonus ≤ 1000)
   (hlo : (sc == sysModules) = false) (hdk : o.IsDictOf (PySem.intKind PySem.Challenge.rw_tg0010_01.row.prog w) kvs) (hf : FlatPairs PyData.int kvs (kdfD c)) (hc : c.length ≤ 1000)
   (hcb : -lim ≤ kdfLook c (hkey side move) 0 ∧ kdfLook c (hkey side move) 0 ≤ lim)
   (hoff : ∀ p ∈ rest, p.1 ≠ sc)
   (hd : dp + 2 < recursionLimit) (hu : un + 16 < cLine)
   (ret : ∀ h' tk' o' (kvs' : List (Int × Value)), Fr h₀ L h' m → News h₀ L h' ((sc, o') :: rest) →
     o'.IsDictOf (PySem.intKind PySem.Challenge.rw_tg0010_01.row.prog w) kvs' → FlatPairs PyData.int kvs' (kdfD (putS lim c side move bonus)) → Q .none { s with heap := h', toks := tk' }) :
   wpAny (model PySem.Challenge.rw_tg0010_01.row.prog w) (ktrTop dp un gd cn cs L a ccd cl outer) (call (.ref 88) [.ref h, .int side ts, .int move tm, .int bonus tb]) Q E s :=
  update_c B F X (fun p hp => N p (by
    rcases List.mem_cons.mp hp with rfl | hp
    · exact .head _
    rcases List.mem_cons.mp hp with rfl | hp
    · exact .tail _ hm1
    rcases List.mem_cons.mp hp with rfl | hp
    · exact .tail _ hm2
    exact .tail _ hp)) T hk hlim hs hm hb hlo hdk hf hc hcb ⟨(hoff _ hm1).symm, (hoff _ hm2).symm⟩ hoff hd hu
    (fun h' tk' o' kvs' F' N' a b => ret h' tk' o' kvs' F' (fun p hp => N' p (by
      rcases List.mem_cons.mp hp with rfl | hp
      · exact .head _
      · exact .tail _ (.tail _ (.tail _ hp)))) a b)

set_option maxHeartbeats 4000000 in
theorem get_c {h d sc : Addr} {t1 t2 tl ts tm : Tok} {lim side move : Int} {o : Obj} {kvs : List (Int × Value)} {c : List (Int × Int)} {rest : List (Addr × Obj)}
   (B : Below A₀ base outer h₀) (F : Fr h₀ L s.heap m) (X : (Mine.hd.heap_1 w.params).In h₀) 
   (N : News h₀ L s.heap rest)
   (T : Top Mine.hd.view_39 (looseW Mine.hd.view_39 []) mean mg mb h₀) (hk : cs.kind = .function)
   (hm0 : (sc, o) ∈ rest) (hm1 : (h, instObj 105 d) ∈ rest) (hm2 : (d, histD w t1 t2 tl lim sc) ∈ rest)
   (hs : 0 ≤ side ∧ side ≤ 1) (hm : 0 ≤ move ∧ move ≤ 100) 
   (hlo : (sc == sysModules) = false) (hdk : o.IsDictOf (PySem.intKind PySem.Challenge.rw_tg0010_01.row.prog w) kvs) (hf : FlatPairs PyData.int kvs (kdfD c))
   (hd : dp + 1 < recursionLimit) (hu : un + 8 < cLine)
   (ret : ∀ t h' tk', Fr h₀ L h' m → News h₀ L h' rest → Q (.int (kdfLook c (hkey side move) 0) t) { s with heap := h', toks := tk' }) :
   wpAny (model PySem.Challenge.rw_tg0010_01.row.prog w) (ktrTop dp un gd cn cs L a ccd cl outer) (call (.ref 81) [.ref h, .int side ts, .int move tm]) Q E s := by
  have N1 : News h₀ L s.heap ((sc, o) :: (h, instObj 105 d) :: (d, histD w t1 t2 tl lim sc) :: rest) := fun p hp => N p (by
    rcases List.mem_cons.mp hp with rfl | hp
    · exact hm0
    rcases List.mem_cons.mp hp with rfl | hp
    · exact hm1
    rcases List.mem_cons.mp hp with rfl | hp
    · exact hm2
    exact hp)
  clear N
  w_top off; revert X; k_fill; intro X
  refine wpAny_call ?_
  k_dflt ktr_enter
  k_steps
  rename News _ _ _ _ => N2
  exact ret _ _ _ (by assumption) (fun p hp => N2 p (.tail _ (.tail _ (.tail _ hp))))

set_option maxHeartbeats 4000000 in
theorem bonus_c {h d sc : Addr} {t1 t2 tl ts tm : Tok} {lim depth : Int} {rest : List (Addr × Obj)}
   (B : Below A₀ base outer h₀) (F : Fr h₀ L s.heap m) (X : (Mine.hd.heap_1 w.params).In h₀) 
   (N : News h₀ L s.heap rest)
   (T : Top Mine.hd.view_39 (looseW Mine.hd.view_39 []) mean mg mb h₀) (hk : cs.kind = .function)
   (hm1 : (h, instObj 105 d) ∈ rest) (hm2 : (d, histD w t1 t2 tl lim sc) ∈ rest)
   (hs : 0 ≤ depth ∧ depth ≤ 10) (hlim : 1 ≤ lim ∧ lim ≤ 400)
   (hd : dp + 1 < recursionLimit) (hu : un + 8 < cLine)
   (ret : ∀ t h' tk', Fr h₀ L h' m → News h₀ L h' rest → Q (.int (if 16 * depth * depth + 32 * depth < lim then 16 * depth * depth + 32 * depth else lim) t) { s with heap := h', toks := tk' }) :
   wpAny (model PySem.Challenge.rw_tg0010_01.row.prog w) (ktrTop dp un gd cn cs L a ccd cl outer) (call (.ref 95) [.ref h, .int depth ts]) Q E s := by
  have N1 : News h₀ L s.heap ((h, instObj 105 d) :: (d, histD w t1 t2 tl lim sc) :: rest) := fun p hp => N p (by
    rcases List.mem_cons.mp hp with rfl | hp
    · exact hm1
    rcases List.mem_cons.mp hp with rfl | hp
    · exact hm2
    exact hp)
  clear N
  w_top off; revert X; k_fill; intro X
  refine wpAny_call ?_
  k_dflt ktr_enter
  k_steps
  rename News _ _ _ _ => N2
  exact ret _ _ _ (by assumption) (fun p hp => N2 p (.tail _ (.tail _ hp)))
end
end Mine
open PySem PySem.W PyProof.Rows PySem.Calls PyProof.V
namespace Mine
local macro_rules | `(tactic| k_exc) => `(tactic| first | with_reducible exact List.Mem.head _ | with_reducible assumption | (refine List.Mem.tail _ ?_; k_exc) | exact List.Mem.head _ | assumption | fail)
local macro_rules | `(tactic| k_ownname) => `(tactic| first | exact List.forall_mem_nil _ | (refine List.forall_mem_cons.mpr ⟨?_, ?_⟩; (· k_exc); k_ownname) | (intro p hp; k_exc) | fail)
local macro_rules | `(tactic| k_not) => `(tactic| first | exact List.forall_mem_nil _ | (with_reducible assumption) | (refine List.forall_mem_cons.mpr ⟨?_, ?_⟩; (· k_ne); k_not) | fail)
local macro_rules | `(tactic| k_ne) => `(tactic| first | assumption | (refine Ne.symm ?_; assumption) | (refine Nat.ne_of_lt ?_; assumption) | (refine Nat.ne_of_gt ?_; assumption) | fail)
local macro_rules | `(tactic| ktr_room) => `(tactic| first | (refine' Mine.room_le ?h ?e; (case h => assumption); (case e => decide)) | (refine' Mine.room_one ?h ?e; (case h => assumption); (case e => decide)) | fail)
local macro_rules | `(tactic| ktr_units) => `(tactic| first | (refine' Mine.room_le ?h ?e; (case h => assumption); (case e => decide)) | (refine' Mine.room_one ?h ?e; (case h => assumption); (case e => decide)) | fail)
local macro_rules | `(tactic| k_all) => `(tactic| assumption)
local macro_rules | `(tactic| k_enter) => `(tactic| (refine' code_def ?k1 ?k2 ?k3 ?k4 ?k5 ?kA ?kF ?kK ?k6 ?k7 ?k8 ?k9 ?kB ?_ ?c2 ?c3 ?c4 ?c5; (case kA => exact rfl); (case kF => exact rfl); (case kK => first | exact rfl | assumption); (case k1 => k_asm); (case k2 => k_asm); (case k3 => k_asm); (case k4 => k_asm); (case k5 => k_asm); (case k6 => k_is); (case k7 => k_is); (case k8 => ktr_room); (case k9 => exact BindsTo.of_eq rfl); (case c5 => decide); (case kB => exact locs rfl); (case c2 => exact rfl); (case c3 => exact rfl); (case c4 => exact rfl); k_whole; intro g' L' h' FG' F' N' B' X' T'; (try dsimp only); (try k_fold)))

def HistIn (w : World) (rest : List (Addr × Obj)) (h d sc : Addr) (lim : Int) : Prop := ∃ t1 t2 tl, (h, instObj 105 d) ∈ rest ∧ (d, histD w t1 t2 tl lim sc) ∈ rest
def Tab (w : World) (sc : Addr) (o : Obj) (c : List (Int × Int)) : Prop := (sc == sysModules) = false ∧ ∃ kvs, o.IsDictOf (PySem.intKind PySem.Challenge.rw_tg0010_01.row.prog w) kvs ∧ FlatPairs PyData.int kvs (kdfD c)
theorem HistIn.sub {w : World} {rest rest' : List (Addr × Obj)} {h d sc : Addr} {lim : Int} (H : HistIn w rest h d sc lim) (hs : ∀ p ∈ rest, p ∈ rest') : HistIn w rest' h d sc lim := let ⟨t1, t2, tl, a, b⟩ := H; ⟨t1, t2, tl, hs _ a, hs _ b⟩

def KL (o : Obj) (ff : Int → Int) : Prop := ∃ a0 a1 a2 n, o = W.listOf #[.int (ff 0) a0, .int (ff 1) a1, .int (ff 2) a2] n
theorem KL.mk' {ff : Int → Int} {x0 x1 x2 : Int} {a0 a1 a2 : Tok} {n : Nat} (h0 : x0 = ff 0) (h1 : x1 = ff 1) (h2 : x2 = ff 2) : KL (W.listOf #[.int x0 a0, .int x1 a1, .int x2 a2] n) ff := ⟨a0, a1, a2, n, by rw [h0, h1, h2]⟩
abbrev killD (w : World) (t1 t2 t3 tp : Tok) (f g : Addr) : Obj :=
  dictOf [⟨PyData.keyHash w.params (Str.ofString "plies"), .str (Str.ofString "plies") t1, .int 3 tp⟩, ⟨PyData.keyHash w.params (Str.ofString "first"), .str (Str.ofString "first") t2, .ref f⟩, ⟨PyData.keyHash w.params (Str.ofString "second"), .str (Str.ofString "second") t3, .ref g⟩] 3
def KillIn (w : World) (rest : List (Addr × Obj)) (k kd f g : Addr) : Prop := ∃ t1 t2 t3 tp, (k, instObj 147 kd) ∈ rest ∧ (kd, killD w t1 t2 t3 tp f g) ∈ rest
def addF (ff : Int → Int) (ply move : Int) : Int → Int := if ply < 3 ∧ ff ply ≠ move then (fun i => if i = ply then move else ff i) else ff
def addG (ff gg : Int → Int) (ply move : Int) : Int → Int := if ply < 3 ∧ ff ply ≠ move then (fun i => if i = ply then ff ply else gg i) else gg
abbrev cntD (w : World) (t1 : Tok) (rp : Addr) : Obj :=
  dictOf [⟨PyData.keyHash w.params (Str.ofString "replies"), .str (Str.ofString "replies") t1, .ref rp⟩] 1
def CntIn (w : World) (rest : List (Addr × Obj)) (x d rp : Addr) : Prop := ∃ t1, (x, instObj 182 d) ∈ rest ∧ (d, cntD w t1 rp) ∈ rest

theorem news_k {h₀ h : Heap} {L : Addr} {p1 p2 p3 p4 p5 p6 : Addr × Obj} {rest : List (Addr × Obj)} (N : News h₀ L h (p1 :: p2 :: p3 :: p4 :: p5 :: p6 :: rest)) : News h₀ L h (p3 :: p1 :: p5 :: p6 :: rest) := fun p hp => N p (by
  simp only [List.mem_cons] at hp ⊢
  rcases hp with h | h | h | h | h <;> simp [h])
section
variable {w : World} {mean : ExcName → Option Value} {mg mb : Str → Option Value} {dp un : Nat} {gd : Option (List Code)} {cn : Str} {cs : Scope} {a : Addr} {ccd : Value} {cl : List (Str × Addr)} {outer : List Env} {A₀ : Around} {base h₀ : Heap} {L : Addr} {m : Str → Option Value} {s : Shared} {Q E : Value → Shared → Prop} {news : List (Addr × Obj)}

set_option maxHeartbeats 4000000 in
theorem hist_c {tl : Tok} {lim : Int} {rest : List (Addr × Obj)}
   (B : Below A₀ base outer h₀) (F : Fr h₀ L s.heap m) (X : (Mine.hd.heap_1 w.params).In h₀) 
   (N : News h₀ L s.heap rest)
   (T : Top Mine.hd.view_39 (looseW Mine.hd.view_39 []) mean mg mb h₀) (hk : cs.kind = .function)
   (hlim : 1 ≤ lim ∧ lim ≤ 400)
   (hd : dp + 3 < recursionLimit) (hu : un + 24 < cLine) 
   (ret : ∀ (x d sc : Addr) o t1 t2 h' tk', Fr h₀ L h' m → News h₀ L h' ((sc, o) :: (x, instObj 105 d) :: (d, histD w t1 t2 tl lim sc) :: rest) → (∀ p ∈ rest, p.1 < d) → (@LT.lt Nat _ d x) → (@LT.lt Nat _ x sc) → Tab w sc o [] → Q (.ref x) { s with heap := h', toks := tk' }) :
   wpAny (model PySem.Challenge.rw_tg0010_01.row.prog w) (ktrTop dp un gd cn cs L a ccd cl outer) (call (.ref 105) [.int lim tl]) Q E s := by
  w_top off; revert X; k_fill; intro X
  k_steps
  refine ret _ _ _ _ _ _ _ _ (by assumption) (by assumption) (by assumption) (by assumption) (by omega) ⟨by assumption, [], by assumption, by assumption⟩

set_option maxHeartbeats 4000000 in
theorem kill_c {tl : Tok} {rest : List (Addr × Obj)}
   (B : Below A₀ base outer h₀) (F : Fr h₀ L s.heap m) (X : (Mine.hd.heap_1 w.params).In h₀) 
   (N : News h₀ L s.heap rest)
   (T : Top Mine.hd.view_39 (looseW Mine.hd.view_39 []) mean mg mb h₀) (hk : cs.kind = .function)
   (hd : dp + 3 < recursionLimit) (hu : un + 24 < cLine) 
   (ret : ∀ (k kd f g : Addr) of og t1 t2 t3 h' tk', Fr h₀ L h' m → News h₀ L h' ((f, of) :: (g, og) :: (k, instObj 147 kd) :: (kd, killD w t1 t2 t3 tl f g) :: rest) → (∀ p ∈ rest, p.1 < kd) → (@LT.lt Nat _ kd k) → (@LT.lt Nat _ k f) → (@LT.lt Nat _ f g) → KL of (fun _ => 0) → KL og (fun _ => 0) → Q (.ref k) { s with heap := h', toks := tk' }) :
   wpAny (model PySem.Challenge.rw_tg0010_01.row.prog w) (ktrTop dp un gd cn cs L a ccd cl outer) (call (.ref 147) [.int 3 tl]) Q E s := by
  w_top off; revert X; k_fill; intro X
  k_steps
  rename News _ _ _ _ => N2
  exact ret _ _ _ _ _ _ _ _ _ _ _ (by assumption) (news_k N2) (by assumption) (by assumption) (by omega) (by omega) ⟨_, _, _, _, rfl⟩ ⟨_, _, _, _, rfl⟩

set_option maxHeartbeats 4000000 in
theorem add_c {k kd f g : Addr} {t1 t2 t3 tp tl tm : Tok} {ply move : Int} {of og : Obj} {ff gg : Int → Int} {rest : List (Addr × Obj)}
   (B : Below A₀ base outer h₀) (F : Fr h₀ L s.heap m) (X : (Mine.hd.heap_1 w.params).In h₀) 
   (N : News h₀ L s.heap ((f, of) :: (g, og) :: (k, instObj 147 kd) :: (kd, killD w t1 t2 t3 tp f g) :: rest))
   (T : Top Mine.hd.view_39 (looseW Mine.hd.view_39 []) mean mg mb h₀) (hk : cs.kind = .function)
   (hply : 0 ≤ ply ∧ ply ≤ 3) (hne : (@Ne Nat f g) ∧ (@Ne Nat f k) ∧ (@Ne Nat f kd) ∧ (@Ne Nat g k) ∧ (@Ne Nat g kd)) (ho1 : ∀ p ∈ rest, p.1 ≠ f) (ho2 : ∀ p ∈ rest, p.1 ≠ g)
   (hf : KL of ff) (hg : KL og gg)
   (hd : dp + 1 < recursionLimit) (hu : un + 8 < cLine) 
   (ret : ∀ of' og' h' tk', Fr h₀ L h' m → News h₀ L h' ((f, of') :: (g, og') :: (k, instObj 147 kd) :: (kd, killD w t1 t2 t3 tp f g) :: rest) → KL of' (addF ff ply move) → KL og' (addG ff gg ply move) → Q .none { s with heap := h', toks := tk' }) :
   wpAny (model PySem.Challenge.rw_tg0010_01.row.prog w) (ktrTop dp un gd cn cs L a ccd cl outer) (call (.ref 130) [.ref k, .int ply tl, .int move tm]) Q E s := by
  obtain ⟨a0, a1, a2, n, rfl⟩ := hf
  obtain ⟨b0, b1, b2, n', rfl⟩ := hg
  obtain ⟨hn1, hn2, hn3, hn4, hn5⟩ := hne
  w_top off; revert X; k_fill; intro X
  obtain rfl | rfl | rfl | rfl : ply = 0 ∨ ply = 1 ∨ ply = 2 ∨ ply = 3 := by omega
  all_goals (refine wpAny_call ?_; k_dflt ktr_enter; k_steps)
  all_goals (refine ret _ _ _ _ (by assumption) (by assumption) ?_ ?_ <;> refine KL.mk' ?_ ?_ ?_ <;> first | (rename (ff _ ≠ move) => hx9; simp [addF, addG, hx9]; done) | (rename (ff _ = move) => hx9; simp [addF, addG, hx9]; done) | (simp [addF, addG]; done))

set_option maxHeartbeats 4000000 in
theorem pair_c {k kd f g : Addr} {tl : Tok} {ply : Int} {of og : Obj} {ff gg : Int → Int} {rest : List (Addr × Obj)}
   (B : Below A₀ base outer h₀) (F : Fr h₀ L s.heap m) (X : (Mine.hd.heap_1 w.params).In h₀) 
   (N : News h₀ L s.heap rest)
   (T : Top Mine.hd.view_39 (looseW Mine.hd.view_39 []) mean mg mb h₀) (hk : cs.kind = .function)
   (K : KillIn w rest k kd f g) (hm1 : (f, of) ∈ rest) (hm2 : (g, og) ∈ rest)
   (hply : 0 ≤ ply ∧ ply ≤ 3)
   (hf : KL of ff) (hg : KL og gg)
   (hd : dp + 1 < recursionLimit) (hu : un + 8 < cLine) 
   (ret : ∀ (t : Addr) ta tb h' tk', Fr h₀ L h' m → News h₀ L h' ((t, { cls := .type "tuple", data := .seq #[.int (if ply < 3 then ff ply else 0) ta, .int (if ply < 3 then gg ply else 0) tb] 0 }) :: rest) → (∀ p ∈ rest, p.1 < t) → Q (.ref t) { s with heap := h', toks := tk' }) :
   wpAny (model PySem.Challenge.rw_tg0010_01.row.prog w) (ktrTop dp un gd cn cs L a ccd cl outer) (call (.ref 137) [.ref k, .int ply tl]) Q E s := by
  obtain ⟨t1, t2, t3, tp, hm3, hm4⟩ := K
  obtain ⟨a0, a1, a2, n, rfl⟩ := hf
  obtain ⟨b0, b1, b2, n', rfl⟩ := hg
  have N1 : News h₀ L s.heap ((f, W.listOf #[.int (ff 0) a0, .int (ff 1) a1, .int (ff 2) a2] n) :: (g, W.listOf #[.int (gg 0) b0, .int (gg 1) b1, .int (gg 2) b2] n') :: (k, instObj 147 kd) :: (kd, killD w t1 t2 t3 tp f g) :: rest) := fun p hp => N p (by
    simp only [List.mem_cons] at hp
    rcases hp with rfl | rfl | rfl | rfl | hp <;> assumption)
  clear N
  w_top off; revert X; k_fill; intro X
  obtain rfl | rfl | rfl | rfl : ply = 0 ∨ ply = 1 ∨ ply = 2 ∨ ply = 3 := by omega
  all_goals (refine wpAny_call ?_; k_dflt ktr_enter; k_steps)
  all_goals (rename News _ _ _ _ => N2; rename (_ ∧ _ ∧ _ ∧ _ ∧ AllLt _ _) => hl9; exact ret _ _ _ _ _ (by assumption) (fun p hp => N2 p ((List.mem_cons.mp hp).elim (fun e => e ▸ .head _) (fun hp => .tail _ (.tail _ (.tail _ (.tail _ (.tail _ hp))))))) (ktn_ltOf hl9.2.2.2.2))

set_option maxHeartbeats 4000000 in
theorem cnt_c {rest : List (Addr × Obj)}
   (B : Below A₀ base outer h₀) (F : Fr h₀ L s.heap m) (X : (Mine.hd.heap_1 w.params).In h₀) 
   (N : News h₀ L s.heap rest)
   (T : Top Mine.hd.view_39 (looseW Mine.hd.view_39 []) mean mg mb h₀) (hk : cs.kind = .function)
   (hd : dp + 3 < recursionLimit) (hu : un + 24 < cLine) 
   (ret : ∀ (x d rp : Addr) o t1 h' tk', Fr h₀ L h' m → News h₀ L h' ((rp, o) :: (x, instObj 182 d) :: (d, cntD w t1 rp) :: rest) → (∀ p ∈ rest, p.1 < d) → (@LT.lt Nat _ d x) → (@LT.lt Nat _ x rp) → Tab w rp o [] → Q (.ref x) { s with heap := h', toks := tk' }) :
   wpAny (model PySem.Challenge.rw_tg0010_01.row.prog w) (ktrTop dp un gd cn cs L a ccd cl outer) (call (.ref 182) []) Q E s := by
  w_top off; revert X; k_fill; intro X
  k_steps
  refine ret _ _ _ _ _ _ _ (by assumption) (by assumption) (by assumption) (by assumption) (by omega) ⟨by assumption, [], by assumption, by assumption⟩

set_option maxHeartbeats 4000000 in
theorem cget_c {h d sc : Addr} {ts tm : Tok} {side move : Int} {o : Obj} {c : List (Int × Int)} {rest : List (Addr × Obj)}
   (B : Below A₀ base outer h₀) (F : Fr h₀ L s.heap m) (X : (Mine.hd.heap_1 w.params).In h₀) 
   (N : News h₀ L s.heap rest)
   (T : Top Mine.hd.view_39 (looseW Mine.hd.view_39 []) mean mg mb h₀) (hk : cs.kind = .function)
   (hm0 : (sc, o) ∈ rest) (H : CntIn w rest h d sc)
   (hs : 0 ≤ side ∧ side ≤ 1) (hm : 0 ≤ move ∧ move ≤ 100) (Tb : Tab w sc o c)
   (hd : dp + 1 < recursionLimit) (hu : un + 8 < cLine)
   (ret : ∀ t h' tk', Fr h₀ L h' m → News h₀ L h' rest → Q (.int (kdfLook c (hkey side move) 0) t) { s with heap := h', toks := tk' }) :
   wpAny (model PySem.Challenge.rw_tg0010_01.row.prog w) (ktrTop dp un gd cn cs L a ccd cl outer) (call (.ref 172) [.ref h, .int side ts, .int move tm]) Q E s := by
  obtain ⟨t1, hm1, hm2⟩ := H
  obtain ⟨hlo, kvs, hdk, hf⟩ := Tb
  have N1 : News h₀ L s.heap ((sc, o) :: (h, instObj 182 d) :: (d, cntD w t1 sc) :: rest) := fun p hp => N p (by
    simp only [List.mem_cons] at hp
    rcases hp with rfl | rfl | rfl | hp <;> assumption)
  clear N
  w_top off; revert X; k_fill; intro X
  refine wpAny_call ?_
  k_dflt ktr_enter
  k_steps
  rename News _ _ _ _ => N2
  exact ret _ _ _ (by assumption) (fun p hp => N2 p (.tail _ (.tail _ (.tail _ hp))))

set_option maxHeartbeats 4000000 in
theorem reward_counter_c {h d sc : Addr} {ts tm tb : Tok} {side move best : Int} {o : Obj} {c : List (Int × Int)} {rest : List (Addr × Obj)}
   (B : Below A₀ base outer h₀) (F : Fr h₀ L s.heap m) (X : (Mine.hd.heap_1 w.params).In h₀) 
   (N : News h₀ L s.heap ((sc, o) :: rest))
   (T : Top Mine.hd.view_39 (looseW Mine.hd.view_39 []) mean mg mb h₀) (hk : cs.kind = .function)
   (H : CntIn w rest h d sc)
   (hs : 0 ≤ side ∧ side ≤ 1) (hm : 0 ≤ move ∧ move ≤ 100) (hb : 0 ≤ best ∧ best ≤ 1000) (Tb : Tab w sc o c) (hc : c.length ≤ 1000)
   (hoff : ∀ p ∈ rest, p.1 ≠ sc)
   (hd : dp + 2 < recursionLimit) (hu : un + 16 < cLine)
   (ret : ∀ o' h' tk', Fr h₀ L h' m → News h₀ L h' ((sc, o') :: rest) → Tab w sc o' (if move = 0 then c else kdfPut c (hkey side move) best) → Q .none { s with heap := h', toks := tk' }) :
   wpAny (model PySem.Challenge.rw_tg0010_01.row.prog w) (ktrTop dp un gd cn cs L a ccd cl outer) (call (.ref 200) [.ref h, .int side ts, .int move tm, .int best tb]) Q E s := by
  obtain ⟨t1, hm1, hm2⟩ := H
  obtain ⟨hlo, kvs, hdk, hf⟩ := Tb
  have N1 : News h₀ L s.heap ((sc, o) :: (h, instObj 182 d) :: (d, cntD w t1 sc) :: rest) := fun p hp => N p (by
    simp only [List.mem_cons] at hp ⊢
    rcases hp with rfl | rfl | rfl | hp <;> simp_all)
  clear N
  have hne : (@Ne Nat sc h) ∧ (@Ne Nat sc d) := ⟨(hoff _ hm1).symm, (hoff _ hm2).symm⟩
  w_top off; revert X; k_fill; intro X
  refine wpAny_call ?_
  k_dflt ktr_enter
  k_steps
  · rename (move ≠ 0) => hx
    rename News _ _ _ _ => N2
    exact ret _ _ _ (by assumption) (fun p hp => N2 p ((List.mem_cons.mp hp).elim (fun e => e ▸ .head _) (fun hp => .tail _ (.tail _ (.tail _ hp))))) ⟨hlo, _, by assumption, by rw [if_neg hx]; assumption⟩
  · rename (move = 0) => hx
    rename News _ _ _ _ => N2
    exact ret _ _ _ (by assumption) (fun p hp => N2 p ((List.mem_cons.mp hp).elim (fun e => e ▸ .head _) (fun hp => .tail _ (.tail _ (.tail _ hp))))) ⟨hlo, _, by assumption, by rw [if_pos hx]; assumption⟩
end
open PySem PySem.W PyProof.Rows

def qdiv (v b l : Int) : Int := (v * b) / l
theorem q_facts {v b l : Int} (hl : 0 < l) (hv : 0 ≤ v ∧ v ≤ l) (hb : 0 ≤ b ∧ b ≤ l) : 0 ≤ qdiv v b l ∧ qdiv v b l ≤ v ∧ qdiv v b l ≤ b ∧ v + b - l ≤ qdiv v b l := by
  unfold qdiv
  have h1 : 0 ≤ v * b := Int.mul_nonneg hv.1 hb.1
  have h2 : v * b ≤ v * l := Int.mul_le_mul_of_nonneg_left hb.2 hv.1
  have h3 : v * b ≤ l * b := Int.mul_le_mul_of_nonneg_right hv.2 hb.1
  have h4 : 0 ≤ (l - v) * (l - b) := Int.mul_nonneg (by omega) (by omega)
  refine ⟨Int.ediv_nonneg h1 (by omega), ?_, ?_, ?_⟩
  · exact Int.ediv_le_of_le_mul hl h2
  · exact Int.ediv_le_of_le_mul hl (by rw [Int.mul_comm b l]; exact h3)
  · rw [Int.le_ediv_iff_mul_le hl]
    have e : (l - v) * (l - b) = l * l - l * b - v * l + v * b := by
      rw [Int.sub_mul, Int.mul_sub, Int.mul_sub]; omega
    have e2 : (v + b - l) * l = v * l + b * l - l * l := by rw [Int.sub_mul, Int.add_mul]
    have e3 : b * l = l * b := Int.mul_comm b l
    omega
theorem q_mono {v v' b l : Int} (hl : 0 < l) (hb : 0 ≤ b ∧ b ≤ l) (h : v ≤ v') : qdiv v b l ≤ qdiv v' b l ∧ qdiv v' b l ≤ qdiv v b l + (v' - v) := by
  unfold qdiv
  have h1 : v * b ≤ v' * b := Int.mul_le_mul_of_nonneg_right h hb.1
  have h2 : (v' - v) * b ≤ (v' - v) * l := Int.mul_le_mul_of_nonneg_left hb.2 (by omega)
  refine ⟨Int.ediv_le_ediv hl h1, ?_⟩
  have e : v * b / l + (v' - v) = (v * b + (v' - v) * l) / l := (Int.add_mul_ediv_right _ _ (by omega)).symm
  rw [e]
  refine Int.ediv_le_ediv hl ?_
  rw [Int.sub_mul] at h2
  rw [Int.sub_mul] at h2 ⊢
  omega
theorem q_full {v l : Int} (hl : 0 < l) : qdiv v l l = v := by
  unfold qdiv
  exact Int.mul_ediv_cancel _ (by omega)

theorem scl_eq {v b l : Int} (hl : 0 < l) : scl v b l = if v < 0 then -(qdiv (-v) b l) else qdiv v b l := by
  unfold scl qdiv
  rw [Int.fdiv_eq_ediv_of_nonneg _ (by omega), Int.fdiv_eq_ediv_of_nonneg _ (by omega)]

theorem clampB_bd {lim b : Int} (h : 0 ≤ lim) : -lim ≤ clampB lim b ∧ clampB lim b ≤ lim := by
  unfold clampB; split <;> split <;> omega
theorem clampB_sign {lim b : Int} (h : 0 < lim) : (0 ≤ b → 0 ≤ clampB lim b) ∧ (b ≤ 0 → clampB lim b ≤ 0) := by
  unfold clampB; split <;> split <;> omega
theorem clampB_neg {lim b : Int} (h : 0 < lim) : clampB lim (-b) = - clampB lim b := by
  unfold clampB; (repeat' split) <;> omega
theorem clampB_full {lim b : Int} (h : 0 < lim) : (lim ≤ b → clampB lim b = lim) ∧ (b ≤ -lim → clampB lim b = -lim) := by
  unfold clampB; split <;> split <;> omega
theorem absI_eq (x : Int) : absI x = if x < 0 then -x else x := rfl

/-- the score behind a reward: all that is asked of it -/
theorem stepS_facts {lim old b : Int} (hl : 1 ≤ lim) (h : -lim ≤ old ∧ old ≤ lim) :
    (-lim ≤ stepS lim old b ∧ stepS lim old b ≤ lim) ∧ (0 ≤ b → old ≤ stepS lim old b) ∧ (b ≤ 0 → stepS lim old b ≤ old) ∧ (lim ≤ b → stepS lim old b = lim) ∧ (b ≤ -lim → stepS lim old b = -lim) := by
  unfold stepS
  have hB := clampB_bd (lim := lim) (b := b) (by omega)
  have hS := clampB_sign (lim := lim) (b := b) (by omega)
  have hF := clampB_full (lim := lim) (b := b) (by omega)
  rw [scl_eq (by omega), absI_eq]
  generalize clampB lim b = B at *
  by_cases ho : old < 0
  · rw [if_pos ho]
    by_cases hb : B < 0
    · rw [if_pos hb]
      have q := q_facts (v := -old) (b := -B) (l := lim) (by omega) (by omega) (by omega)
      have qf := q_full (v := -old) (l := lim) (by omega)
      refine ⟨by omega, by omega, by omega, by omega, fun hbl => ?_⟩
      have := hF.2 hbl
      subst this
      rw [Int.neg_neg] at *
      omega
    · rw [if_neg hb]
      have q := q_facts (v := -old) (b := B) (l := lim) (by omega) (by omega) (by omega)
      have qf := q_full (v := -old) (l := lim) (by omega)
      refine ⟨by omega, by omega, by omega, fun hbl => ?_, by omega⟩
      have := hF.1 hbl
      subst this
      omega
  · rw [if_neg ho]
    by_cases hb : B < 0
    · rw [if_pos hb]
      have q := q_facts (v := old) (b := -B) (l := lim) (by omega) (by omega) (by omega)
      have qf := q_full (v := old) (l := lim) (by omega)
      refine ⟨by omega, by omega, by omega, by omega, fun hbl => ?_⟩
      have := hF.2 hbl
      subst this
      rw [Int.neg_neg] at *
      omega
    · rw [if_neg hb]
      have q := q_facts (v := old) (b := B) (l := lim) (by omega) (by omega) (by omega)
      have qf := q_full (v := old) (l := lim) (by omega)
      refine ⟨by omega, by omega, by omega, fun hbl => ?_, by omega⟩
      have := hF.1 hbl
      subst this
      omega
theorem stepS_bd {lim old b : Int} (hl : 1 ≤ lim) (h : -lim ≤ old ∧ old ≤ lim) : -lim ≤ stepS lim old b ∧ stepS lim old b ≤ lim := (stepS_facts hl h).1
theorem absB_bd {lim b : Int} (hl : 1 ≤ lim) : 0 ≤ absI (clampB lim b) ∧ absI (clampB lim b) ≤ lim := absI_bd (by omega)

theorem stepS_mono {lim old old' b : Int} (hl : 1 ≤ lim) (h : -lim ≤ old ∧ old ≤ lim) (h' : -lim ≤ old' ∧ old' ≤ lim) (hle : old ≤ old') : stepS lim old b ≤ stepS lim old' b := by
  unfold stepS
  rw [scl_eq (by omega), scl_eq (by omega)]
  have hA := absB_bd (lim := lim) (b := b) hl
  generalize clampB lim b = B at *
  generalize absI B = A at *
  by_cases ho : old < 0
  · rw [if_pos ho]
    by_cases ho' : old' < 0
    · rw [if_pos ho']
      have := (q_mono (v := -old') (v' := -old) (b := A) (l := lim) (by omega) hA (by omega)).2
      omega
    · rw [if_neg ho']
      have q := q_facts (v := -old) (b := A) (l := lim) (by omega) (by omega) hA
      have q' := q_facts (v := old') (b := A) (l := lim) (by omega) (by omega) hA
      omega
  · rw [if_neg ho, if_neg (by omega)]
    have := (q_mono (v := old) (v' := old') (b := A) (l := lim) (by omega) hA (by omega)).2
    omega
theorem qdiv_zero (b l : Int) : qdiv 0 b l = 0 := by unfold qdiv; rw [Int.zero_mul, Int.zero_ediv]
theorem stepS_neg {lim old b : Int} (hl : 1 ≤ lim) : stepS lim (-old) (-b) = - stepS lim old b := by
  unfold stepS
  rw [scl_eq (by omega), scl_eq (by omega), clampB_neg (by omega)]
  have hA : absI (-clampB lim b) = absI (clampB lim b) := by rw [absI_eq, absI_eq]; split <;> split <;> omega
  rw [hA]
  generalize clampB lim b = B
  generalize absI B = A
  by_cases ho : old < 0
  · rw [if_pos ho, if_neg (by omega)]; omega
  · rw [if_neg ho]
    by_cases h0 : old = 0
    · subst h0
      simp [qdiv_zero]
    · rw [if_pos (by omega), Int.neg_neg]; omega

theorem kdfLook_put (c : List (Int × Int)) (k v j : Int) : kdfLook (kdfPut c k v) j 0 = if j = k then v else kdfLook c j 0 := kpr_look_put c k v j 0

/-- what a row of rewards leaves at one key -/
abbrev MRow := Int × Int × Int
def scoreOf (lim : Int) (k : Int) (rows : List MRow) (o : Int) : Int := rows.foldl (fun o r => if hkey r.1 r.2.1 = k then stepS lim o r.2.2 else o) o
def fillM (lim : Int) (c : List (Int × Int)) (rows : List MRow) : List (Int × Int) := rows.foldl (fun c r => putS lim c r.1 r.2.1 r.2.2) c
theorem look_fill (lim k : Int) : ∀ (rows : List MRow) (c : List (Int × Int)), kdfLook (fillM lim c rows) k 0 = scoreOf lim k rows (kdfLook c k 0)
  | [], c => rfl
  | r :: rs, c => by
    show kdfLook (fillM lim (putS lim c r.1 r.2.1 r.2.2) rs) k 0 = scoreOf lim k rs (if hkey r.1 r.2.1 = k then stepS lim (kdfLook c k 0) r.2.2 else kdfLook c k 0)
    rw [look_fill lim k rs]
    unfold putS
    rw [kdfLook_put]
    by_cases h : hkey r.1 r.2.1 = k
    · subst h; simp
    · have h' : ¬ k = hkey r.1 r.2.1 := fun e => h e.symm
      rw [if_neg h, if_neg h']
theorem scoreOf_neg {lim : Int} (hl : 1 ≤ lim) (k : Int) : ∀ (rows : List MRow) (o : Int), scoreOf lim k (rows.map fun r => (r.1, r.2.1, -r.2.2)) (-o) = - scoreOf lim k rows o
  | [], o => rfl
  | r :: rs, o => by
    show scoreOf lim k (rs.map _) (if hkey r.1 r.2.1 = k then stepS lim (-o) (-r.2.2) else -o) = - scoreOf lim k rs (if hkey r.1 r.2.1 = k then stepS lim o r.2.2 else o)
    by_cases h : hkey r.1 r.2.1 = k
    · rw [if_pos h, if_pos h, stepS_neg hl, scoreOf_neg hl k rs]
    · rw [if_neg h, if_neg h, scoreOf_neg hl k rs]
theorem scoreOf_append (lim k : Int) (a b : List MRow) (o : Int) : scoreOf lim k (a ++ b) o = scoreOf lim k b (scoreOf lim k a o) := List.foldl_append ..
theorem scoreOf_skip (lim k : Int) : ∀ (rows : List MRow) (o : Int), (∀ r ∈ rows, hkey r.1 r.2.1 ≠ k) → scoreOf lim k rows o = o
  | [], o, _ => rfl
  | r :: rs, o, h => by
    show scoreOf lim k rs (if hkey r.1 r.2.1 = k then stepS lim o r.2.2 else o) = o
    rw [if_neg (h r (.head _))]
    exact scoreOf_skip lim k rs o fun q hq => h q (.tail _ hq)
theorem scoreOf_filter (lim k : Int) (p : MRow → Bool) : ∀ (rows : List MRow) (o : Int), (∀ r ∈ rows, hkey r.1 r.2.1 = k → p r = true) → scoreOf lim k (rows.filter p) o = scoreOf lim k rows o
  | [], o, _ => rfl
  | r :: rs, o, h => by
    show scoreOf lim k _ o = scoreOf lim k rs (if hkey r.1 r.2.1 = k then stepS lim o r.2.2 else o)
    have ih := fun o => scoreOf_filter lim k p rs o fun q hq => h q (.tail _ hq)
    by_cases hk : hkey r.1 r.2.1 = k
    · rw [if_pos hk, List.filter_cons_of_pos (h r (.head _) hk), ← ih]
      show scoreOf lim k _ (if hkey r.1 r.2.1 = k then stepS lim o r.2.2 else o) = _
      rw [if_pos hk]
    · rw [if_neg hk, ← ih]
      by_cases hp : p r = true
      · rw [List.filter_cons_of_pos hp]
        show scoreOf lim k _ (if hkey r.1 r.2.1 = k then stepS lim o r.2.2 else o) = _
        rw [if_neg hk]
      · rw [List.filter_cons_of_neg hp]
/-- sides apart: the same scores -/
theorem scoreOf_apart (lim side move : Int) (hs : side = 0 ∨ side = 1) (hm : 0 ≤ move ∧ move ≤ 100) (rows : List MRow) (hr : ∀ r ∈ rows, (r.1 = 0 ∨ r.1 = 1) ∧ 0 ≤ r.2.1 ∧ r.2.1 ≤ 100) (o : Int) :
    scoreOf lim (hkey side move) ((rows.filter fun r => decide (r.1 = 1)) ++ (rows.filter fun r => decide (r.1 = 0))) o = scoreOf lim (hkey side move) rows o := by
  have key : ∀ r ∈ rows, hkey r.1 r.2.1 = hkey side move → r.1 = side := fun r h e => by
    have := hr r h
    unfold hkey at e
    omega
  rw [scoreOf_append]
  rcases hs with rfl | rfl
  · rw [scoreOf_skip lim _ (rows.filter fun r => decide (r.1 = 1)), scoreOf_filter]
    · exact fun r h e => decide_eq_true (key r h e)
    · intro r h e
      have h1 := List.mem_filter.mp h
      have h2 := key r h1.1 e
      have h3 : r.1 = 1 := of_decide_eq_true h1.2
      omega
  · rw [scoreOf_skip lim _ (rows.filter fun r => decide (r.1 = 0)), scoreOf_filter]
    · exact fun r h e => decide_eq_true (key r h e)
    · intro r h e
      have h1 := List.mem_filter.mp h
      have h2 := key r h1.1 e
      have h3 : r.1 = 0 := of_decide_eq_true h1.2
      omega

local macro_rules | `(tactic| walk_at "call ref") => `(tactic| (k_here; first
  | ((with_reducible show wpAny _ _ (call (Value.ref 60) _) _ _ _); refine stop_ ?_)
  | ((with_reducible show wpAny _ _ (call (Value.ref 88) _) _ _ _); refine stop_ ?_)
  | ((with_reducible show wpAny _ _ (call (Value.ref 81) _) _ _ _); refine stop_ ?_)
  | ((with_reducible show wpAny _ _ (call (Value.ref 105) _) _ _ _); refine stop_ ?_)))
local macro_rules | `(tactic| walk_at "exec For Tuple Name cons nil") => `(tactic| (k_here; refine stop_ ?_))

section
variable {prog : Program} {w : World} {A : Around} {E : Value → Shared → Prop} {s : Shared} {env : Env} {h₀ : Heap} {target : PySem.Expr} {body : List Stmt} {Q : Flow → Shared → Prop}
theorem unrPostW_mono {L : Addr} {s₁ : Shared} {its : List (Addr × Obj)} {R R' : (Str → Option Value) → List (Addr × Obj) → Prop} {f : Flow} {s₂ : Shared} (h : UnrPostW h₀ L s₁ its R Q f s₂) (hr : ∀ m n, R m n → R' m n) : UnrPostW h₀ L s₁ its R' Q f s₂ := by
  cases f with
  | ret v => exact h
  | brk => exact h
  | next => obtain ⟨h', tk, m', n', a, b, c, d, e⟩ := h; exact ⟨h', tk, m', n', a, b, c, d, hr _ _ e⟩
  | cont => obtain ⟨h', tk, m', n', a, b, c, d, e⟩ := h; exact ⟨h', tk, m', n', a, b, c, d, hr _ _ e⟩

theorem list_loop {α : Type} {ax : Addr} {lo : Obj} {vs : List Value} {n : Nat} {m₀ : Str → Option Value} {news : List (Addr × Obj)} (val : α → Value) (xs : List α) (hvs : vs = xs.map val)
    (J : Addr → List α → (Str → Option Value) → List (Addr × Obj) → Prop)
    (hh : A.handled = none) (F : Fr h₀ env.locals s.heap m₀) (N : News h₀ env.locals s.heap news) (hm : (ax, lo) ∈ news) (hc : lo.cls = .type "list") (hd : lo.data = .seq vs.toArray n)
    (h0 : ∀ I, (∀ p ∈ news, p.1 < I) → J I xs m₀ news)
    (hkeep : ∀ I r m nw, J I r m nw → (ax, lo) ∈ nw)
    (done : ∀ I m nw h tk, J I [] m nw → Fr h₀ env.locals h m → News h₀ env.locals h nw → Q .next { s with heap := h, toks := tk })
    (step : ∀ I x r m nw o h tk, J I (x :: r) m nw → o.cls = .type "list_iterator" → Fr h₀ env.locals h m → News h₀ env.locals h ((I, o) :: nw) →
      wpAny (model prog w) A (assign target env (val x)) (fun _ s₂ => wpAny (model prog w) A (execs body env) (UnrPostW h₀ env.locals { s with heap := h, toks := tk } [(I, o)] (fun m' n' => J I r m' n') Q) E s₂) E { s with heap := h, toks := tk }) :
    wpAny (model prog w) A (pyIter (.ref ax)) (fun it s₂ => TurnsAt prog w A h₀ env target body Q E it s₂) E s := by
  subst hvs
  refine iter_listTurns hh F N hm hc hd fun I hI => ?_
  have key : ∀ r m nw, J I r m nw → ItemsRest prog w A E h₀ env target body Q s [(I, "list_iterator")] [(ax, lo)] ((r.map val).map .val) m nw := by
    intro r
    induction r with
    | nil => intro m nw hJ h tk F N; exact done I m nw h tk hJ F N
    | cons x r ih =>
      intro m nw hJ v h tk e F
      have e' : v = val x := e
      subst e'
      intro o ho N
      refine wpAny_mono (step I x r m nw o h tk hJ ho F N) (fun _ s₂ h₂ => wpAny_mono h₂ (fun f s₃ p => ?_) fun _ _ e => e) fun _ _ e => e
      exact unrPostW_mono p fun m' n' q => ⟨And.intro (hkeep I r m' n' q) trivial, ih m' n' q⟩
  exact key xs m₀ news (h0 I hI)

theorem fr_put {L : Addr} {h : Heap} {m : Str → Option Value} {x : Str} {v : Value} (F : Fr h₀ L h m) (e : m x = some v) : Fr h₀ L h (fun y => if y = x then some v else m y) := by
  have : (fun y => if y = x then some v else m y) = m := by
    funext y
    by_cases hy : y = x
    · rw [if_pos hy, hy, e]
    · rw [if_neg hy]
  rw [this]; exact F
theorem fr_put2 {L : Addr} {h : Heap} {m : Str → Option Value} {x y : Str} {v u : Value} (F : Fr h₀ L h m) (e : m x = some v) (e2 : m y = some u) : Fr h₀ L h (fun q => if q = x then some v else if q = y then some u else m q) := by
  have : (fun q => if q = x then some v else if q = y then some u else m q) = m := by
    funext q
    by_cases hq : q = x
    · rw [if_pos hq, hq, e]
    · rw [if_neg hq]
      by_cases hq : q = y
      · rw [if_pos hq, hq, e2]
      · rw [if_neg hq]
  rw [this]; exact F
theorem fr_put3 {L : Addr} {h : Heap} {m : Str → Option Value} {x y z : Str} {v u t : Value} (F : Fr h₀ L h m) (e : m x = some v) (e2 : m y = some u) (e3 : m z = some t) : Fr h₀ L h (fun q => if q = x then some v else if q = y then some u else if q = z then some t else m q) := by
  have : (fun q => if q = x then some v else if q = y then some u else if q = z then some t else m q) = m := by
    funext q
    by_cases hq : q = x
    · rw [if_pos hq, hq, e]
    · rw [if_neg hq]
      by_cases hq : q = y
      · rw [if_pos hq, hq, e2]
      · rw [if_neg hq]
        by_cases hq : q = z
        · rw [if_pos hq, hq, e3]
        · rw [if_neg hq]
  rw [this]; exact F
theorem news_sub {L : Addr} {h : Heap} {l l' : List (Addr × Obj)} (N : News h₀ L h l) (hs : ∀ p ∈ l', p ∈ l) : News h₀ L h l' := fun p hp => N p (hs p hp)
end

abbrev Row := Int × Int × Int
abbrev tupObj (vs : Array Value) (n : Nat) : Obj := { cls := .type "tuple", data := .seq vs n }
def RowAt (news : List (Addr × Obj)) (a : Addr) (r : Row) : Prop := ∃ ta tb tc n, (a, tupObj #[.int r.1 ta, .int r.2.1 tb, .int r.2.2 tc] n) ∈ news
def RowsIn (news : List (Addr × Obj)) (lr : Addr) (as : List (Addr × Row)) : Prop := (∃ n, (lr, W.listOf (as.map (fun p => Value.ref p.1)).toArray n) ∈ news) ∧ ∀ p ∈ as, RowAt news p.1 p.2
def RowOk (r : Row) : Prop := (0 ≤ r.1 ∧ r.1 ≤ 1) ∧ (0 ≤ r.2.1 ∧ r.2.1 ≤ 100) ∧ (-1000 ≤ r.2.2 ∧ r.2.2 ≤ 1000)
def TabOk (lim : Int) (c : List (Int × Int)) : Prop := ∀ k, -lim ≤ kdfLook c k 0 ∧ kdfLook c k 0 ≤ lim
def fillC (lim : Int) (c : List (Int × Int)) (rows : List Row) : List (Int × Int) := rows.foldl (fun c r => putS lim c r.1 r.2.1 r.2.2) c

theorem TabOk.put {lim : Int} {c : List (Int × Int)} (hl : 1 ≤ lim) (h : TabOk lim c) (side move bonus : Int) : TabOk lim (putS lim c side move bonus) := by
  intro k
  unfold putS
  rw [kdfLook_put]
  split
  · exact stepS_bd hl (h _)
  · exact h k
theorem TabOk.fill {lim : Int} (hl : 1 ≤ lim) : ∀ (rows : List Row) (c : List (Int × Int)), TabOk lim c → TabOk lim (fillC lim c rows)
  | [], _, h => h
  | r :: rs, c, h => TabOk.fill hl rs _ (h.put hl _ _ _)
theorem tabOk_nil {lim : Int} (hl : 1 ≤ lim) : TabOk lim [] := fun k => by
  show -lim ≤ 0 ∧ 0 ≤ lim
  omega
theorem fillC_len (lim : Int) : ∀ (rows : List Row) (c : List (Int × Int)), (fillC lim c rows).length ≤ c.length + rows.length
  | [], c => Nat.le_refl _
  | r :: rs, c => Nat.le_trans (fillC_len lim rs _) (by
      have := kdfPut_len c (hkey r.1 r.2.1) (stepS lim (kdfLook c (hkey r.1 r.2.1) 0) r.2.2)
      show (kdfPut c (hkey r.1 r.2.1) (stepS lim (kdfLook c (hkey r.1 r.2.1) 0) r.2.2)).length + rs.length ≤ c.length + (rs.length + 1)
      omega)
theorem fillC_snoc (lim : Int) (rows : List Row) (r : Row) (c : List (Int × Int)) : fillC lim c (rows ++ [r]) = putS lim (fillC lim c rows) r.1 r.2.1 r.2.2 := by
  unfold fillC
  rw [List.foldl_append]; rfl
theorem putS_len (lim : Int) (c : List (Int × Int)) (side move bonus : Int) : (putS lim c side move bonus).length ≤ c.length + 1 := kdfPut_len _ _ _


section
variable {w : World} {mean : ExcName → Option Value} {mg mb : Str → Option Value} {dp un : Nat} {gd : Option (List Code)} {cn : Str} {cs : Scope} {a : Addr} {ccd : Value} {cl : List (Str × Addr)} {outer : List Env} {A₀ : Around} {base h₀ : Heap} {L : Addr} {m : Str → Option Value} {s : Shared} {Q E : Value → Shared → Prop} {news : List (Addr × Obj)}

theorem update_t {h d sc : Addr} {ts tm tb : Tok} {lim side move bonus : Int} {o : Obj} {c : List (Int × Int)} {rest : List (Addr × Obj)}
   (B : Below A₀ base outer h₀) (F : Fr h₀ L s.heap m) (X : (Mine.hd.heap_1 w.params).In h₀) 
   (N : News h₀ L s.heap ((sc, o) :: rest))
   (T : Top Mine.hd.view_39 (looseW Mine.hd.view_39 []) mean mg mb h₀) (hk : cs.kind = .function)
   (H : HistIn w rest h d sc lim)
   (hlim : 1 ≤ lim ∧ lim ≤ 400) (hs : 0 ≤ side ∧ side ≤ 1) (hm : 0 ≤ move ∧ move ≤ 100) (hb : -1000 ≤ bonus ∧ bonus ≤ 1000)
   (Tb : Tab w sc o c) (hok : TabOk lim c) (hc : c.length ≤ 1000)
   (hoff : ∀ p ∈ rest, p.1 ≠ sc)
   (hd : dp + 2 < recursionLimit) (hu : un + 16 < cLine)
   (ret : ∀ o' h' tk', Fr h₀ L h' m → News h₀ L h' ((sc, o') :: rest) → Tab w sc o' (putS lim c side move bonus) → Q .none { s with heap := h', toks := tk' }) :
   wpAny (model PySem.Challenge.rw_tg0010_01.row.prog w) (ktrTop dp un gd cn cs L a ccd cl outer) (call (.ref 88) [.ref h, .int side ts, .int move tm, .int bonus tb]) Q E s := by
  obtain ⟨t1, t2, tl, hm1, hm2⟩ := H
  obtain ⟨hlo, kvs, hdk, hf⟩ := Tb
  exact update_u B F X N T hk hm1 hm2 hlim hs hm hb hlo hdk hf hc (hok _) hoff hd hu fun h' tk' o' kvs' F' N' a b => ret o' h' tk' F' N' ⟨hlo, kvs', a, b⟩

theorem get_t {h d sc : Addr} {ts tm : Tok} {lim side move : Int} {o : Obj} {c : List (Int × Int)} {rest : List (Addr × Obj)}
   (B : Below A₀ base outer h₀) (F : Fr h₀ L s.heap m) (X : (Mine.hd.heap_1 w.params).In h₀) 
   (N : News h₀ L s.heap rest)
   (T : Top Mine.hd.view_39 (looseW Mine.hd.view_39 []) mean mg mb h₀) (hk : cs.kind = .function)
   (H : HistIn w rest h d sc lim) (hm0 : (sc, o) ∈ rest)
   (hs : 0 ≤ side ∧ side ≤ 1) (hm : 0 ≤ move ∧ move ≤ 100) 
   (Tb : Tab w sc o c) 
   (hd : dp + 1 < recursionLimit) (hu : un + 8 < cLine)
   (ret : ∀ t h' tk', Fr h₀ L h' m → News h₀ L h' rest → Q (.int (kdfLook c (hkey side move) 0) t) { s with heap := h', toks := tk' }) :
   wpAny (model PySem.Challenge.rw_tg0010_01.row.prog w) (ktrTop dp un gd cn cs L a ccd cl outer) (call (.ref 81) [.ref h, .int side ts, .int move tm]) Q E s := by
  obtain ⟨t1, t2, tl, hm1, hm2⟩ := H
  obtain ⟨hlo, kvs, hdk, hf⟩ := Tb
  exact get_c B F X N T hk hm0 hm1 hm2 hs hm hlo hdk hf hd hu ret

set_option maxHeartbeats 4000000 in
theorem filled_c {tl : Tok} {lim : Int} {lr : Addr} {as : List (Addr × Row)} {rest : List (Addr × Obj)}
   (B : Below A₀ base outer h₀) (F : Fr h₀ L s.heap m) (X : (Mine.hd.heap_1 w.params).In h₀) 
   (N : News h₀ L s.heap rest)
   (T : Top Mine.hd.view_39 (looseW Mine.hd.view_39 []) mean mg mb h₀) (hk : cs.kind = .function)
   (hlim : 1 ≤ lim ∧ lim ≤ 400) (R : RowsIn rest lr as) (hok : ∀ p ∈ as, RowOk p.2) (hlen : as.length ≤ 100)
   (hd : dp + 4 < recursionLimit) (hu : un + 32 < cLine) 
   (ret : ∀ (x d sc : Addr) o t1 t2 h' tk', Fr h₀ L h' m → News h₀ L h' ((sc, o) :: (x, instObj 105 d) :: (d, histD w t1 t2 tl lim sc) :: rest) → (∀ p ∈ rest, p.1 < d) → (@LT.lt Nat _ d x) → (@LT.lt Nat _ x sc) → Tab w sc o (fillC lim [] (as.map (·.2))) → Q (.ref x) { s with heap := h', toks := tk' }) :
   wpAny (model PySem.Challenge.rw_tg0010_01.row.prog w) (ktrTop dp un gd cn cs L a ccd cl outer) (call (.ref 215) [.int lim tl, .ref lr]) Q E s := by
  w_top off; revert X; k_fill; intro X
  refine wpAny_call ?_
  k_dflt k_enter
  k_steps
  refine stop_out ?_
  k_dflt (refine' hist_c (by assumption) (by assumption) (by assumption) (by assumption) (by assumption) (by rfl) hlim (by ktr_room) (by ktr_units) ?_)
  intro x d sc o t1 t2 h' tk' F1 N1 l1 l2 l3 Tb
  k_steps
  refine stop_out ?_
  obtain ⟨⟨n, hlr⟩, hrows⟩ := R
  refine For_turns (by assumption) ?_
  k_steps
  refine list_loop (fun p => Value.ref p.1) as rfl
    (fun I r m nw => ∃ pre o, as = pre ++ r ∧ m (Str.ofString "made") = some (.ref x) ∧ nw = (sc, o) :: (x, instObj 105 d) :: (d, histD w t1 t2 tl lim sc) :: rest ∧ Tab w sc o (fillC lim [] (pre.map (·.2))) ∧ ∀ p ∈ nw, p.1 ≠ I)
    rfl (by assumption) (by assumption) (.tail _ (.tail _ (.tail _ hlr))) rfl rfl (fun I hI => ⟨[], o, rfl, rfl, rfl, Tb, fun p hp => Nat.ne_of_lt (hI p hp)⟩) ?_ ?_ ?_
  · rintro I r m nw ⟨pre, o, _, _, rfl, _⟩
    exact .tail _ (.tail _ (.tail _ hlr))
  · rintro I m nw h tk ⟨pre, o', has, hmade, rfl, Tb', _⟩ F2 N2
    have F3 := fr_put F2 hmade
    clear F2
    k_steps
    have has' : pre = as := by rw [has]; simp
    subst has'
    exact ret _ _ _ _ _ _ _ _ (by assumption) (by assumption) l1 l2 l3 Tb'
  · rintro I y r m nw oI hh tk ⟨pre, o', has, hmade, rfl, Tb', hI⟩ hoI F2 N2
    obtain ⟨ta, tb, tc, nn, hrow⟩ := hrows y (by rw [has]; simp)
    have hT := News.isTup N2 (.tail _ (.tail _ (.tail _ (.tail _ hrow))))
    have F3 := fr_put F2 hmade
    clear F2
    k_steps
    refine stop_out ?_
    rename News _ _ _ _ => N3
    have hy := hok y (by rw [has]; simp)
    have hlen2 : pre.length ≤ 100 := by rw [has] at hlen; simp at hlen; omega
    k_dflt (refine' update_t (rest := (I, oI) :: (x, instObj 105 d) :: (d, histD w t1 t2 tl lim sc) :: rest) (by assumption) (by assumption) (by assumption) (news_sub N3 ?zq0) (by assumption) (by rfl) ⟨t1, t2, tl, .tail _ (.head _), .tail _ (.tail _ (.head _))⟩ hlim hy.1 hy.2.1 hy.2.2 Tb' (TabOk.fill hlim.1 _ _ (tabOk_nil hlim.1)) ?zq1 ?zq2 (by ktr_room) (by ktr_units) ?_)
    case zq0 => k_ownname
    case zq1 => exact Nat.le_trans (fillC_len _ _ _) (by simp; omega)
    case zq2 =>
      intro p hp
      simp only [List.mem_cons] at hp
      rcases hp with h | h | h | h
      · subst h; exact (hI _ (.head _)).symm
      · subst h; exact Nat.ne_of_lt l3
      · subst h; exact Nat.ne_of_lt (Nat.lt_trans l2 l3)
      · exact Nat.ne_of_lt (Nat.lt_trans (l1 p h) (Nat.lt_trans l2 l3))
    intro o'' h'' tk'' F4 N4 Tb''
    k_steps
    refine ⟨_, _, _, (sc, o'') :: (x, instObj 105 d) :: (d, histD w t1 t2 tl lim sc) :: rest, rfl, F4, news_sub N4 ?_, ?_, pre ++ [y], o'', by rw [has]; simp, rfl, rfl, ?_, ?_⟩
    · k_ownname
    · intro p hp q hq
      rw [List.mem_singleton.mp hq]
      rcases List.mem_cons.mp hp with h | h
      · subst h; exact hI (sc, o') (.head _)
      · exact hI p (.tail _ h)
    · rw [List.map_append, List.map_cons, List.map_nil, fillC_snoc]; exact Tb''
    · intro p hp
      rcases List.mem_cons.mp hp with h | h
      · subst h; exact hI (sc, o') (.head _)
      · exact hI p (.tail _ h)
end
end Mine
open PySem PySem.W PyProof.Rows PySem.Calls PyProof.V
open PyProof.Rows.LCg (NsObj lst ns_obj lst_snoc)
namespace Mine

def OffC (ws : List Addr) (C D : Addr) (news : List (Addr × Obj)) : Prop := ∀ p ∈ news, p.1 ∉ ws ∧ p.1 ≠ C ∧ p.1 ≠ D

def CSt (h₀ : Heap) (L : Addr) (m : Str → Option Value) (s₀ : Shared) (its : List (Addr × Obj)) (C D : Addr) (J : (Str → Option Value) → List Value → List (Addr × Obj) → Prop) (s : Shared) : Prop :=
  ∃ h tk oC m₂ ys news, s = { s₀ with heap := h, toks := tk } ∧ Fr h₀ L h m ∧ NsObj oC m₂ ∧ News h₀ L h (its ++ (C, oC) :: (D, lst ys) :: news) ∧ OffC (its.map (·.1)) C D news ∧ J m₂ ys news

abbrev EmT := (Shared → Prop) → (Value → Shared → Prop) → Shared → Prop
def EmitOk (M : Model) (A : Around) (emitK : Sem Fin → Sem Fin) (Em : EmT) : Prop := ∀ (k : Sem Fin) (Post : Shared → Prop) (Q : Fin → Shared → Prop) (E : Value → Shared → Prop) (s : Shared), Em Post E s → (∀ s', Post s' → wpAny M A k Q E s') → wpAny M A (emitK k) Q E s
/-- one turn of a list comprehension's clause -/
def turnOf (e : PySem.Expr) (depth : Nat) (target iter : PySem.Expr) (ifs : List PySem.Expr) (emitK : Sem Fin → Sem Fin) (it acc : Value) (env : Env) : Sem Fin := do
  standAt iter.pos
  match ← pyNext it with
  | none => pure (.done .next)
  | some v =>
    letOwnedTupleGo target it v
    assign target env v
    let mut ok := true
    for c in ifs do
      if ok then ok ← isTrue c env (eval c env)
    if ok then emitK (again (.compLoop e depth it acc env)) else again (.compLoop e depth it acc env)

section
variable {prog : Program} {w : World} {A : Around} {h₀ : Heap} {L : Addr} {m : Str → Option Value}

theorem codeAny_compLoop_gen {R : Result → Shared → Prop} {s : Shared} {elt target iter : PySem.Expr} {gens : List Comprehension} {ifs : List PySem.Expr} {scope : Scope} {pos : Pos} {depth : Nat} {emitK : Sem Fin → Sem Fin} {Em : EmT} {it acc : Value} {env : Env} (I : Nat → Shared → Prop)
    (ht : compTurn (.ListComp elt gens scope pos) depth it acc env = turnOf (.ListComp elt gens scope pos) depth target iter ifs emitK it acc env)
    (hE : EmitOk (model prog w) A emitK Em)
    (turn : ∀ n s, I n s → wpAny (model prog w) A (pyNext it) (fun r s₁ => match r with
      | none => R (.ok .next) s₁
      | some v => wpAny (model prog w) A (letOwnedTupleGo target it v) (fun _ s₁' => wpAny (model prog w) A (assign target env v) (fun _ s₂ =>
          wpAny (model prog w) A (forIn ifs true fun c r => if r = true then do let ok ← isTrue c env (eval c env); pure (ForInStep.yield ok) else pure (ForInStep.yield r)) (fun ok s₃ =>
            if ok = true then Em (fun s₅ => ∃ m, m < n ∧ I m s₅) (notedBy (model prog w) A env fun e s' => R (.error e) s') s₃
            else ∃ m, m < n ∧ I m s₃) (notedBy (model prog w) A env fun e s' => R (.error e) s') s₂) (notedBy (model prog w) A env fun e s' => R (.error e) s') s₁') (notedBy (model prog w) A env fun e s' => R (.error e) s') s₁) (notedBy (model prog w) A env fun e s' => R (.error e) s') s)
    (n : Nat) (h : I n s) :
    codeAny (model prog w) A (.compLoop (.ListComp elt gens scope pos) depth it acc env) R s := by
  refine codeAny_loop rfl I (fun n s hI => ?_) n h
  show wpAny _ A ((compTurn (.ListComp elt gens scope pos) depth it acc env).onRaise (fun x => do noteFrame x env; theTreesLotGoes x)) _ _ s
  refine wpAny_noted ?_
  rw [ht]
  unfold turnOf
  refine wpAny_bind (wpAny_standAt (wpAny_bind (wpAny_mono (turn n s hI) (fun r s₁ h₁ => ?_) fun _ _ h' => h')))
  cases r with
  | none => exact wpAny_pure h₁
  | some v =>
    refine wpAny_bind (wpAny_mono h₁ (fun _ s₁' h₁ => ?_) fun _ _ h' => h')
    refine wpAny_bind (wpAny_mono h₁ (fun _ s₂ h₂ => wpAny_bind (wpAny_mono h₂ (fun ok s₃ h₃ => ?_) fun _ _ h' => h')) fun _ _ h' => h')
    cases ok with
    | false => exact wpAny_pure ⟨rfl, h₃⟩
    | true => exact hE _ _ _ _ _ h₃ fun s₅ h₅ => wpAny_pure ⟨rfl, h₅⟩

theorem comp_items {R : Result → Shared → Prop} {elt target iter : PySem.Expr} {gens : List Comprehension} {ifs : List PySem.Expr} {scope : Scope} {pos : Pos} {depth : Nat} {emitK : Sem Fin → Sem Fin} {Em : EmT} {cenv : Env}
    {C D I : Addr} {fp wr : List Addr} {n : Nat} {P Md : Nat → Value → Heap → Prop} {St : Nat → Heap → Prop} {ws : List (Addr × String)} {keep : List (Addr × Obj)} {xs : List Itm} {s₀ : Shared} {hp : Heap} {tk0 : Nat} {oC : Obj} {m₂ : Str → Option Value} {ys : List Value} {news : List (Addr × Obj)}
    (J : List Itm → (Str → Option Value) → List Value → List (Addr × Obj) → Prop)
    (ht : compTurn (.ListComp elt gens scope pos) depth (.ref I) (.ref D) cenv = turnOf (.ListComp elt gens scope pos) depth target iter ifs emitK (.ref I) (.ref D) cenv)
    (hE : EmitOk (model prog w) A emitK Em) (hEm : ∀ (P P' : Shared → Prop) (E : Value → Shared → Prop) (s : Shared), Em P E s → (∀ s', P s' → P' s') → Em P' E s)
    (W : KTurns prog w A target I fp wr n P Md St) (hn : n = xs.length) (hP : ∀ i v h, P i v h → ∃ a, xs[i]? = some a ∧ a.Is v h)
    (hobj : ∀ i h, St i h → ∃ its, Objs ws its ∧ ∀ p ∈ its, h.get? p.1 = some p.2)
    (hws : ∀ b ∈ ws.map (·.1), h₀.get? b = none ∧ b ≠ L) (hwr : ∀ b ∈ wr, b ∈ ws.map (·.1))
    (hfp : ∀ b ∈ fp, b ∈ ws.map (·.1) ∨ ∃ o, (b, o) ∈ keep) (hIC : ∀ b ∈ ws.map (·.1), b ≠ C ∧ b ≠ D)
    (hkeep : ∀ r m₂ ys nw, J r m₂ ys nw → ∀ p ∈ keep, p ∈ nw)
    (hst : St 0 hp) (F : Fr h₀ L hp m) (hC : NsObj oC m₂) (N : News h₀ L hp ((C, oC) :: (D, lst ys) :: news)) (off : OffC (ws.map (·.1)) C D news) (h0 : J xs m₂ ys news)
    (step : ∀ a r m₂ ys news v h tk its oC, J (a :: r) m₂ ys news → a.Is v h → Objs ws its → Fr h₀ L h m → NsObj oC m₂ → News h₀ L h (its ++ (C, oC) :: (D, lst ys) :: news) → OffC (ws.map (·.1)) C D news →
      wpAny (model prog w) A (assign target cenv v) (fun _ s₂ =>
          wpAny (model prog w) A (forIn ifs true fun c r => if r = true then do let ok ← isTrue c cenv (eval c cenv); pure (ForInStep.yield ok) else pure (ForInStep.yield r)) (fun ok s₃ =>
            if ok = true then Em (CSt h₀ L m s₀ its C D (J r)) (notedBy (model prog w) A cenv fun e s' => R (.error e) s') s₃
            else CSt h₀ L m s₀ its C D (J r) s₃) (notedBy (model prog w) A cenv fun e s' => R (.error e) s') s₂) (notedBy (model prog w) A cenv fun e s' => R (.error e) s') { s₀ with heap := h, toks := tk })
    (done : ∀ m₂ ys news h tk oC, J [] m₂ ys news → Fr h₀ L h m → NsObj oC m₂ → News h₀ L h ((C, oC) :: (D, lst ys) :: news) → OffC (ws.map (·.1)) C D news → R (.ok .next) { s₀ with heap := h, toks := tk }) :
    codeAny (model prog w) A (.compLoop (.ListComp elt gens scope pos) depth (.ref I) (.ref D) cenv) R { s₀ with heap := hp, toks := tk0 } := by
  have hwr' : ∀ b ∈ wr, h₀.get? b = none ∧ b ≠ L ∧ b ≠ C ∧ b ≠ D := fun b hb => ⟨(hws b (hwr b hb)).1, (hws b (hwr b hb)).2, hIC b (hwr b hb)⟩
  have hLw : L ∉ wr := fun h => (hwr' L h).2.1 rfl
  -- what the iterator's own step keeps
  have next : ∀ (h₁ h₂ : Heap) (oC : Obj) (ys : List Value) (news : List (Addr × Obj)), (∀ b o, b ∉ wr → h₁.get? b = some o → h₂.get? b = some o) → Fr h₀ L h₁ m → News h₀ L h₁ ((C, oC) :: (D, lst ys) :: news) → OffC (ws.map (·.1)) C D news →
      Fr h₀ L h₂ m ∧ News h₀ L h₂ ((C, oC) :: (D, lst ys) :: news) := fun h₁ h₂ oC ys news hk F N off =>
    ⟨⟨F.ns.at' fun o e => hk _ o hLw e, fun b o e => hk b o (fun hb => by rw [(hwr' b hb).1] at e; cases e) (F.keep b o e), F.above⟩, fun p hp => ⟨hk _ _ (fun hb => by
      rcases List.mem_cons.mp hp with rfl | hp
      · exact (hwr' _ hb).2.2.1 rfl
      · rcases List.mem_cons.mp hp with rfl | hp
        · exact (hwr' _ hb).2.2.2 rfl
        · exact (off p hp).1 (hwr _ hb)) (N p hp).1, (N p hp).2⟩⟩
  refine codeAny_compLoop_gen (fun k s' => ∃ h' tk i oC m₂ ys news, s' = { s₀ with heap := h', toks := tk } ∧ i ≤ n ∧ k = n + 1 - i ∧ St i h' ∧ Fr h₀ L h' m ∧ NsObj oC m₂ ∧ News h₀ L h' ((C, oC) :: (D, lst ys) :: news) ∧ OffC (ws.map (·.1)) C D news ∧ J (xs.drop i) m₂ ys news)
    ht hE ?_ (n + 1) ⟨hp, tk0, 0, oC, m₂, ys, news, rfl, Nat.zero_le _, rfl, hst, F, hC, N, off, by rw [List.drop_zero]; exact h0⟩
  rintro k s' ⟨h', tk, i, oC, m₂, ys, news, rfl, hi, rfl, hst', F', hC', N', off', hJ⟩
  by_cases hlt : i < n
  · refine W.item i _ _ _ hlt hst' fun v h₁ tk₁ hMd hk₁ => ?_
    refine W.go i v _ _ _ hMd fun h₂ hPv hst₂ hk₂ => ?_
    obtain ⟨a, ha, hav⟩ := hP i v h₂ hPv
    obtain ⟨its, hits, hval⟩ := hobj (i + 1) h₂ hst₂
    have hmap := hits.map
    have hdrop : xs.drop i = a :: xs.drop (i + 1) := by
      have hlt' : i < xs.length := hn ▸ hlt
      rw [List.drop_eq_getElem_cons hlt']
      congr 1
      exact Option.some.inj ((List.getElem?_eq_getElem hlt').symm.trans ha)
    rw [hdrop] at hJ
    obtain ⟨F₂, N₂⟩ := next h' h₂ oC ys news (fun b o hb x => hk₂ b o hb (hk₁ b o hb x)) F' N' off'
    have N₃ : News h₀ L h₂ (its ++ (C, oC) :: (D, lst ys) :: news) := fun p hp => by
      rcases List.mem_append.mp hp with hp | hp
      · have h1 : p.1 ∈ ws.map (·.1) := by rw [← hmap]; exact List.mem_map.mpr ⟨p, hp, rfl⟩
        exact ⟨hval p hp, (hws _ h1).2, (hws _ h1).1⟩
      · exact N₂ p hp
    have fin : ∀ s₅, CSt h₀ L m s₀ its C D (J (xs.drop (i + 1))) s₅ → ∃ m', m' < n + 1 - i ∧ ∃ h' tk i' oC m₂ ys news, s₅ = { s₀ with heap := h', toks := tk } ∧ i' ≤ n ∧ m' = n + 1 - i' ∧ St i' h' ∧ Fr h₀ L h' m ∧ NsObj oC m₂ ∧ News h₀ L h' ((C, oC) :: (D, lst ys) :: news) ∧ OffC (ws.map (·.1)) C D news ∧ J (xs.drop i') m₂ ys news := by
      rintro s₅ ⟨h₅, tk₅, oC₅, m₅, ys₅, news₅, rfl, F₅, hC₅, N₅, off₅, hJ₅⟩
      refine ⟨n + 1 - (i + 1), by omega, h₅, tk₅, i + 1, oC₅, m₅, ys₅, news₅, rfl, hlt, rfl, ?_, F₅, hC₅, fun p hp => N₅ p (List.mem_append_right _ hp), by rw [← hmap]; exact off₅, hJ₅⟩
      refine W.frame _ _ _ hst₂ fun b hb o e => ?_
      rcases hfp b hb with h1 | ⟨o', h1⟩
      · rw [← hmap] at h1
        obtain ⟨⟨qa, qo⟩, hq, hqe⟩ := List.mem_map.mp h1
        have hqe' : qa = b := hqe
        subst hqe'
        have h2 : h₂.get? qa = some qo := hval _ hq
        rw [h2] at e
        cases e
        exact (N₅ _ (List.mem_append_left _ hq)).1
      · have h2 := (N₃ _ (List.mem_append_right _ (.tail _ (.tail _ (hkeep _ _ _ _ hJ _ h1))))).1
        rw [h2] at e
        cases e
        exact (N₅ _ (List.mem_append_right _ (.tail _ (.tail _ (hkeep _ _ _ _ hJ₅ _ h1))))).1
    refine wpAny_mono (step a (xs.drop (i + 1)) m₂ ys news v h₂ tk₁ its oC hJ hav hits F₂ hC' N₃ off') (fun _ s₂ h₂ => wpAny_mono h₂ (fun ok s₃ h₃ => ?_) fun _ _ e => e) fun _ _ e => e
    cases ok with
    | true =>
      rw [if_pos rfl] at h₃ ⊢
      exact hEm _ _ _ _ h₃ fin
    | false =>
      rw [if_neg (by simp)] at h₃ ⊢
      exact fin s₃ h₃
  · have hin : i = n := Nat.le_antisymm hi (Nat.not_lt.mp hlt)
    subst hin
    have hnil : xs.drop i = [] := List.drop_eq_nil_of_le (Nat.le_of_eq hn.symm)
    rw [hnil] at hJ
    refine W.done _ _ _ hst' fun h₂ tk₂ hk₂ => ?_
    obtain ⟨F₂, N₂⟩ := next h' h₂ oC ys news hk₂ F' N' off'
    exact done _ _ _ _ _ _ hJ F₂ hC' N₂ off'

def LcQ (prog : Program) (w : World) (A : Around) (h₀ : Heap) (L : Addr) (m : Str → Option Value) (env : Env) (elt target iter : PySem.Expr) (ifs : List PySem.Expr) (gs : List Comprehension) (scope : Scope) (cl : List (Str × Addr)) (pos : Pos) (Q : Value → Shared → Prop) (it : Value) (s₂ : Shared) : Prop :=
  ∃ I news, it = .ref I ∧ Fr h₀ L s₂.heap m ∧ News h₀ L s₂.heap news ∧
      (∀ (s : Shared) (Q E : Value → Shared → Prop), (∀ b o, s₂.heap.get? b = some o → s.heap.get? b = some o) → Q (.ref I) s → wpAny (model prog w) A (pyIter (.ref I)) Q E s) ∧
      ∀ (C D : Addr) h tk oC m₂, C ≠ D → (∀ b, b < s₂.heap.objs.size → (@LT.lt Nat _ b C) ∧ (@LT.lt Nat _ b D)) → Fr h₀ L h m → NsObj oC m₂ → (∀ b o, s₂.heap.get? b = some o → h.get? b = some o) → News h₀ L h ((C, oC) :: (D, lst []) :: news) →
        codeAny (model prog w) A (.compLoop (.ListComp elt (⟨target, iter, ifs, 0⟩ :: gs) scope pos) 0 (.ref I) (.ref D) (compEnvC scope cl C env))
          (fun r s' => r = .ok .next ∧ ∃ h' tk' oC' m₂' ys news', s' = { s₂ with heap := h', toks := tk' } ∧ Fr h₀ L h' m ∧ NsObj oC' m₂' ∧ News h₀ L h' ((C, oC') :: (D, lst ys) :: news') ∧ (∀ p ∈ news', p.1 ≠ C) ∧
            ∀ h'', Fr h₀ L h'' m → News h₀ L h'' ((D, lst ys) :: news') → Q (.ref D) { s₂ with heap := h'', toks := tk' }) { s₂ with heap := h, toks := tk }

theorem listComp_start {env : Env} {E : Value → Shared → Prop} {s : Shared} {elt target iter : PySem.Expr} {ifs : List PySem.Expr} {gs : List Comprehension} {scope : Scope} {cl : List (Str × Addr)} {pos : Pos} {Q : Value → Shared → Prop} (F₀ : Fr h₀ L s.heap m)
    (hclos : closureFor scope env = pure cl) (hcell : ∀ y ∈ scope.names, y.2 ≠ .cell) (hkind : scope.kind = .function)
    (hnames : ∀ y ∈ scope.names, y.2 = .local → scope.names.lookup y.1 = some .local)
    (h : wpAny (model prog w) A (eval iter env) (fun xv s₁ => wpAny (model prog w) A (pyIter xv) (LcQ prog w A h₀ L m env elt target iter ifs gs scope cl pos Q) E s₁) E s)
    (hs : ∀ x, foldedSetIterable iter env x = pure x := by intro _; rfl) :
    wpAny (model prog w) A (eval (.ListComp elt (⟨target, iter, ifs, 0⟩ :: gs) scope pos) env) Q E s := by
  rw [eval_ListComp]
  refine wpAny_comprehension_free (use := none) rfl hs hclos hkind hnames (wpAny_mono h (fun xv s₁ h₁ => wpAny_mono h₁ (fun it s₂ h₂ => ?_) fun _ _ e => e) fun _ _ e => e)
  obtain ⟨I, news, rfl, F, N, hself, k⟩ := h₂
  refine wpAny_newObj_type (wpAny_newFunctionEnv hcell (by intro y hy; simp at hy) (fun h₁ hns₁ hsb₁ => ?_) hkind)
  dsimp only at hns₁ hsb₁ ⊢
  generalize hH2 : s₂.heap.push { cls := .type "list", dict := none, data := .seq ([] : List Value).toArray } = H2 at hns₁ hsb₁ ⊢
  have hC : H2.objs.size = s₂.heap.objs.size + 1 := by rw [← hH2, Heap.size_push]
  have hDC : s₂.heap.objs.size ≠ H2.objs.size := by rw [hC]; exact Nat.ne_of_lt (Nat.lt_succ_self _)
  have below : ∀ b, b < s₂.heap.objs.size → b ≠ H2.objs.size ∧ b ≠ s₂.heap.objs.size := fun b hb => ⟨by rw [hC]; exact Nat.ne_of_lt (Nat.lt_succ_of_lt hb), Nat.ne_of_lt hb⟩
  have old : ∀ b o, s₂.heap.get? b = some o → h₁.get? b = some o := fun b o e => hsb₁.extBut b o (below b (Heap.lt_size e)).1 (Heap.get?_push_of_some _ (hH2 ▸ Heap.get?_push_of_some _ e))
  have hacc : h₁.get? s₂.heap.objs.size = some (lst []) := hsb₁.extBut _ _ hDC (Heap.get?_push_of_some _ (hH2 ▸ Heap.get?_push_size _ rfl))
  have fresh : ∀ a, s₂.heap.objs.size ≤ a → s₂.heap.get? a = none := fun a ha => by
    cases e : s₂.heap.get? a with
    | none => rfl
    | some o' => exact absurd (Heap.lt_size e) (Nat.not_lt.mpr ha)
  have fresh₀ : ∀ a, s₂.heap.objs.size ≤ a → h₀.get? a = none := fun a ha => by
    cases e : h₀.get? a with
    | none => rfl
    | some o' => have := F.keep a o' e; rw [fresh a ha] at this; cases this
  have hD₀ : h₀.get? s₂.heap.objs.size = none := fresh₀ _ (Nat.le_refl _)
  have hC₀ : h₀.get? H2.objs.size = none := fresh₀ _ (by rw [hC]; exact Nat.le_succ _)
  have hLlt : L < s₂.heap.objs.size := F.ns.lt
  have hDL : s₂.heap.objs.size ≠ L := Ne.symm (below L hLlt).2
  have hCL : H2.objs.size ≠ L := Ne.symm (below L hLlt).1
  obtain ⟨oC, heC, hoC⟩ := ns_obj hns₁
  have F₁ : Fr h₀ L h₁ m := F.keeps old
  have N₁ : News h₀ L h₁ ((H2.objs.size, oC) :: (s₂.heap.objs.size, lst []) :: news) := fun p hp => by
    rcases List.mem_cons.mp hp with rfl | hp
    · exact ⟨heC, hCL, hC₀⟩
    rcases List.mem_cons.mp hp with rfl | hp
    · exact ⟨hacc, hDL, hD₀⟩
    · exact ⟨old _ _ (N p hp).1, (N p hp).2⟩
  have loop := fun tk => codeAny_mono (k H2.objs.size s₂.heap.objs.size h₁ tk oC _ (Ne.symm hDC) (fun b hb => ⟨by rw [hC]; exact Nat.lt_succ_of_lt hb, hb⟩) F₁ hoC old N₁) (R' := compPost (model prog w) A E none Q (.ref s₂.heap.objs.size) H2.objs.size) fun r s' hr => by
    obtain ⟨rfl, h', tk', oC', m₂', ys, news', rfl, F', hC', N', off', q⟩ := hr
    refine ⟨m₂', hC'.ns (N' _ (.head _)).1, fun h'' hs'' => q h'' (F'.change hs'' hCL hC₀) fun p hp => ?_⟩
    refine ⟨hs''.extBut _ _ ?_ (N' p (.tail _ hp)).1, (N' p (.tail _ hp)).2⟩
    rcases List.mem_cons.mp hp with rfl | hp
    · exact hDC
    · exact off' p hp
  exact codeAny_compStart_list (loop _) (hself _ _ _ old (loop _))

/-- an iterator over known items, as a comprehension's clause walks it -/
def CSrc (prog : Program) (w : World) (A : Around) (target : PySem.Expr) (h₀ : Heap) (L I : Addr) (ws : List (Addr × String)) (keep : List (Addr × Obj)) (xs : List Itm) (h : Heap) : Prop :=
  ∃ fp wr n P Md St, KTurns prog w A target I fp wr n P Md St ∧ n = xs.length ∧ (∀ i v h, P i v h → ∃ a, xs[i]? = some a ∧ a.Is v h) ∧ (∀ i h, St i h → ∃ its, Objs ws its ∧ ∀ p ∈ its, h.get? p.1 = some p.2) ∧
    (∀ b ∈ wr, b ∈ ws.map (·.1)) ∧ (∀ b ∈ fp, b ∈ ws.map (·.1) ∨ ∃ o, (b, o) ∈ keep) ∧ (∀ b ∈ ws.map (·.1), h₀.get? b = none ∧ b ≠ L) ∧
    (∀ i (s : Shared) (Q : Value → Shared → Prop) (E : Value → Shared → Prop), St i s.heap → Q (.ref I) s → wpAny (model prog w) A (pyIter (.ref I)) Q E s) ∧ St 0 h

theorem CSrc.up {target : PySem.Expr} {I : Addr} {ws : List (Addr × String)} {keep : List (Addr × Obj)} {xs : List Itm} {h h' : Heap} (S : CSrc prog w A target h₀ L I ws keep xs h) (hk : ∀ b o, h.get? b = some o → h'.get? b = some o) :
    CSrc prog w A target h₀ L I ws keep xs h' := by
  obtain ⟨fp, wr, n, P, Md, St, W, a, b, c, d, e, f, g, st⟩ := S
  exact ⟨fp, wr, n, P, Md, St, W, a, b, c, d, e, f, g, W.frame _ _ _ st fun b _ o q => hk b o q⟩
theorem CSrc.there {target : PySem.Expr} {I : Addr} {ws : List (Addr × String)} {keep : List (Addr × Obj)} {xs : List Itm} {h : Heap} (S : CSrc prog w A target h₀ L I ws keep xs h) : ∀ b ∈ ws.map (·.1), b < h.objs.size := by
  obtain ⟨fp, wr, n, P, Md, St, W, a, b, c, d, e, f, g, st⟩ := S
  obtain ⟨its, hits, hv⟩ := c _ _ st
  intro b hb
  rw [← hits.map] at hb
  obtain ⟨p, hp, rfl⟩ := List.mem_map.mp hb
  exact Heap.lt_size (hv p hp)
theorem CSrc.self {target : PySem.Expr} {I : Addr} {ws : List (Addr × String)} {keep : List (Addr × Obj)} {xs : List Itm} {h : Heap} (S : CSrc prog w A target h₀ L I ws keep xs h) :
    ∀ (s : Shared) (Q E : Value → Shared → Prop), (∀ b o, h.get? b = some o → s.heap.get? b = some o) → Q (.ref I) s → wpAny (model prog w) A (pyIter (.ref I)) Q E s := by
  intro s Q E hk q
  obtain ⟨fp, wr, n, P, Md, St, W, a, b, c, d, e, f, g, st⟩ := S.up hk
  exact g _ _ _ _ st q

theorem src_list {E : Value → Shared → Prop} {s : Shared} {target : PySem.Expr} {ax : Addr} {lo : Obj} {vs : List Value} {n : Nat} {news : List (Addr × Obj)} {Q : Value → Shared → Prop} (hh : A.handled = none) (F : Fr h₀ L s.heap m) (N : News h₀ L s.heap news) (hm : (ax, lo) ∈ news) (hc : lo.cls = .type "list") (hd : lo.data = .seq vs.toArray n)
    (k : ∀ I h', (∀ p ∈ news, p.1 < I) → (∀ b o, s.heap.get? b = some o → h'.get? b = some o) → Fr h₀ L h' m → News h₀ L h' news → CSrc prog w A target h₀ L I [(I, "list_iterator")] [(ax, lo)] (vs.map .val) h' → Q (.ref I) { s with heap := h' }) :
    wpAny (model prog w) A (pyIter (.ref ax)) Q E s := by
  have hax := N _ hm
  have hl : s.heap.IsList ax vs.toArray := ⟨lo, hax.1, hc, n, hd⟩
  have hlt : ax < s.heap.objs.size := Heap.lt_size hax.1
  have hne : ax ≠ s.heap.objs.size := Nat.ne_of_lt hlt
  refine wpAny_pyIter_list hl (k _ _ (fun p hp => Heap.lt_size (N p hp).1) (fun b o e => Heap.get?_push_of_some _ e) (F.push _) (fun p hp => ⟨Heap.get?_push_of_some _ (N p hp).1, (N p hp).2⟩) ?_)
  have W := Walks.list (prog := prog) (w := w) hh s.heap.objs.size ax hne vs.toArray
  refine ⟨_, _, _, _, _, _, KTurns.ofWalks W fun i v s Q E st q => letGo_listiter st.1 q, by simp, fun i v h hp => ⟨.val v, by have hp' : vs.toArray[i]? = some v := hp; simpa using hp', rfl⟩, fun i h st => ?_, fun b hb => by simpa using hb, fun b hb => ?_, fun b hb => ?_, W.self, ?_⟩
  · obtain ⟨it, hit, hic, _⟩ := st.1
    exact ⟨[(s.heap.objs.size, it)], ⟨⟨rfl, hic⟩, trivial⟩, fun p hp => by rw [List.mem_singleton.mp hp]; exact hit⟩
  · have hb' : b = s.heap.objs.size ∨ b = ax := by simpa using hb
    rcases hb' with e | e
    · exact .inl (by simp [e])
    · exact .inr ⟨lo, by simp [e]⟩
  · have hb' : b = s.heap.objs.size := by simpa using hb
    rw [hb']
    exact ⟨next_is_new F, Nat.ne_of_gt F.ns.lt⟩
  · exact ⟨⟨_, Heap.get?_push_size _ rfl, rfl, rfl⟩, hl.at fun o e => Heap.get?_push_of_some _ e⟩

theorem src_tuple {E : Value → Shared → Prop} {s : Shared} {target : PySem.Expr} {ax : Addr} {lo : Obj} {vs : List Value} {n : Nat} {news : List (Addr × Obj)} {Q : Value → Shared → Prop} (hh : A.handled = none) (F : Fr h₀ L s.heap m) (N : News h₀ L s.heap news) (hm : (ax, lo) ∈ news) (hc : lo.cls = .type "tuple") (hd : lo.data = .seq vs.toArray n)
    (k : ∀ I h', (∀ p ∈ news, p.1 < I) → (∀ b o, s.heap.get? b = some o → h'.get? b = some o) → Fr h₀ L h' m → News h₀ L h' news → CSrc prog w A target h₀ L I [(I, "tuple_iterator")] [(ax, lo)] (vs.map .val) h' → Q (.ref I) { s with heap := h' }) :
    wpAny (model prog w) A (pyIter (.ref ax)) Q E s := by
  have hax := N _ hm
  have hl : s.heap.IsTuple ax vs.toArray := ⟨lo, hax.1, hc, n, hd⟩
  have hlt : ax < s.heap.objs.size := Heap.lt_size hax.1
  have hne : ax ≠ s.heap.objs.size := Nat.ne_of_lt hlt
  refine wpAny_pyIter_tuple hl (k _ _ (fun p hp => Heap.lt_size (N p hp).1) (fun b o e => Heap.get?_push_of_some _ e) (F.push _) (fun p hp => ⟨Heap.get?_push_of_some _ (N p hp).1, (N p hp).2⟩) ?_)
  have W := Walks.tuple (prog := prog) (w := w) hh s.heap.objs.size ax hne vs.toArray
  refine ⟨_, _, _, _, _, _, KTurns.ofWalks W fun i v s Q E st q => letGo_tupleiter st.1 q, by simp, fun i v h hp => ⟨.val v, by have hp' : vs.toArray[i]? = some v := hp; simpa using hp', rfl⟩, fun i h st => ?_, fun b hb => by simpa using hb, fun b hb => ?_, fun b hb => ?_, W.self, ?_⟩
  · obtain ⟨it, hit, hic, _⟩ := st.1
    exact ⟨[(s.heap.objs.size, it)], ⟨⟨rfl, hic⟩, trivial⟩, fun p hp => by rw [List.mem_singleton.mp hp]; exact hit⟩
  · have hb' : b = s.heap.objs.size ∨ b = ax := by simpa using hb
    rcases hb' with e | e
    · exact .inl (by simp [e])
    · exact .inr ⟨lo, by simp [e]⟩
  · have hb' : b = s.heap.objs.size := by simpa using hb
    rw [hb']
    exact ⟨next_is_new F, Nat.ne_of_gt F.ns.lt⟩
  · exact ⟨⟨_, Heap.get?_push_size _ rfl, rfl, rfl⟩, hl.at fun o e => Heap.get?_push_of_some _ e⟩

def rangeItms (n : Nat) : List Itm := (List.range n).map fun (i : Nat) => .tok fun t => .int (i : Int) t
theorem src_range {E : Value → Shared → Prop} {s : Shared} {x : Str} {px : Pos} {r : Addr} {b : Int} {t u v : Tok} {n : Nat} {news : List (Addr × Obj)} {Q : Value → Shared → Prop} (hh : A.handled = none) (F : Fr h₀ L s.heap m) (N : News h₀ L s.heap news)
    (hr : IsRange s.heap r 0 b 1 t u v) (hsm : Builtin.Range.small 0 b 1 = true) (hn : Builtin.Range.rangeSize 0 b 1 = ((n : Nat) : Int))
    (k : ∀ I h', (∀ p ∈ news, p.1 < I) → (∀ b o, s.heap.get? b = some o → h'.get? b = some o) → Fr h₀ L h' m → News h₀ L h' news → CSrc prog w A (.Name x px) h₀ L I [(I, "range_iterator")] [] (rangeItms n) h' → Q (.ref I) { s with heap := h' }) :
    wpAny (model prog w) A (pyIter (.ref r)) Q E s := by
  refine wpAny_pyIter_range hr hsm (k _ _ (fun p hp => Heap.lt_size (N p hp).1) (fun b o e => Heap.get?_push_of_some _ e) (F.push _) (fun p hp => ⟨Heap.get?_push_of_some _ (N p hp).1, (N p hp).2⟩) ?_)
  have W := (Walks.range (prog := prog) (w := w) hh s.heap.objs.size 0 1 n).bound
  refine ⟨_, _, _, _, _, _, KTurns.ofWalks W fun i v s Q E st q => wpAny_pure q, by simp [rangeItms], fun i v h hp => ?_, fun i h st => ?_, fun b hb => by simpa using hb, fun b hb => ?_, fun b hb => ?_, W.self, ?_⟩
  · obtain ⟨hi, t, rfl⟩ := hp
    refine ⟨.tok fun t => .int (i : Int) t, by simp [rangeItms, hi], t, ?_⟩
    show Value.int (0 + (i : Int) * 1) t = Value.int (i : Int) t
    rw [Int.mul_one, Int.zero_add]
  · exact ⟨[(s.heap.objs.size, _)], ⟨⟨rfl, rfl⟩, trivial⟩, fun p hp => by rw [List.mem_singleton.mp hp]; exact st⟩
  · exact .inl (by simpa using hb)
  · have hb' : b = s.heap.objs.size := by simpa using hb
    rw [hb']
    exact ⟨next_is_new F, Nat.ne_of_gt F.ns.lt⟩
  · show IsRangeIter _ _ _ _ _
    rw [hn]
    simpa using Heap.get?_push_size _ rfl

theorem src_enum {E : Value → Shared → Prop} {s : Shared} {elts : List PySem.Expr} {kk : Nat} {pos : Pos} {l : Addr} {lo : Obj} {vs : List Value} {n : Nat} {news : List (Addr × Obj)} {Q : Value → Shared → Prop} (hh : A.handled = none) (F : Fr h₀ L s.heap m) (N : News h₀ L s.heap news) (hm : (l, lo) ∈ news) (hc : lo.cls = .type "list") (hd : lo.data = .seq vs.toArray n)
    (k : ∀ (I : Addr) h', (∀ p ∈ news, p.1 < I) → (∀ b o, s.heap.get? b = some o → h'.get? b = some o) → Fr h₀ L h' m → News h₀ L h' news → CSrc prog w A (.Tuple elts kk pos) h₀ L (I + 1) [(I + 1, "enumerate"), (I, "list_iterator")] [(l, lo)] (enumItems 0 vs) h' → Q (.ref (I + 1)) { s with heap := h' }) :
    wpAny (model prog w) A (call (.type "enumerate") [.ref l]) (fun xv s₁ => wpAny (model prog w) A (pyIter xv) Q E s₁) E s := by
  have hax := N _ hm
  have hl : s.heap.IsList l vs.toArray := ⟨lo, hax.1, hc, n, hd⟩
  have hlt : l < s.heap.objs.size := Heap.lt_size hax.1
  have hLs : L < s.heap.objs.size := F.ns.lt
  refine call_enumerate_list hl fun h' hE hI hsz hk => ?_
  refine wpAny_pyIter_enum hE ?_
  refine k _ _ (fun p hp => Heap.lt_size (N p hp).1) hk (F.keeps hk) (N.grown hk) ?_
  have W := (WalksT.enumerate (prog := prog) (w := w) hh (s.heap.objs.size + 1) s.heap.objs.size l (Nat.succ_ne_self _) (ktu_ne 1 hlt) (Nat.ne_of_lt hlt) vs.toArray).toU
  refine ⟨_, _, _, _, _, _, KTurns.ofWalksU (elts := elts) (k := kk) (pos := pos) W, by simp [enumItems_length], ?_, ?_, ?_, ?_, ?_, W.self, ?_⟩
  · rintro i v h ⟨T, vals, rfl, ⟨t, x, hx, rfl⟩, hT⟩
    refine ⟨_, enumItems_get vs 0 i (v := x) (by simpa using hx), T, t, rfl, ?_⟩
    show IsTup h T #[.int ((0 + i : Nat) : Int) t, x]
    rw [Nat.zero_add]
    exact hT
  · rintro i h ⟨⟨old, he⟩, ⟨oi, hoi, hic, _⟩, _⟩
    have he' : ∃ oe : Obj, h.get? (s.heap.objs.size + 1) = some oe ∧ oe.cls = .type "enumerate" := ⟨_, he, rfl⟩
    obtain ⟨oe, h1, h2⟩ := he'
    refine ⟨[(s.heap.objs.size + 1, oe), (s.heap.objs.size, oi)], ⟨⟨rfl, h2⟩, ⟨rfl, hic⟩, trivial⟩, fun p hp => ?_⟩
    rcases List.mem_cons.mp hp with rfl | hp
    · exact h1
    · rw [List.mem_singleton.mp hp]; exact hoi
  · intro b hb
    simpa using hb
  · intro b hb
    have hb' : b = s.heap.objs.size + 1 ∨ b = s.heap.objs.size ∨ b = l := by simpa using hb
    rcases hb' with rfl | rfl | rfl
    · exact .inl (by simp)
    · exact .inl (by simp)
    · exact .inr ⟨lo, by simp⟩
  · intro b hb
    have hb' : b = s.heap.objs.size + 1 ∨ b = s.heap.objs.size := by simpa using hb
    rcases hb' with rfl | rfl
    · exact ⟨ktu_new F (Nat.le_add_right _ _), (ktu_ne 1 hLs).symm⟩
    · exact ⟨ktu_new F (Nat.le_refl _), Nat.ne_of_gt hLs⟩
  · exact ⟨⟨.none, hE⟩, hI, hl.at fun o e => hk l o e⟩

theorem comp_loop {R : Result → Shared → Prop} {elt target iter : PySem.Expr} {gens : List Comprehension} {ifs : List PySem.Expr} {scope : Scope} {pos : Pos} {depth : Nat} {emitK : Sem Fin → Sem Fin} {Em : EmT} {cenv : Env}
    {C D I : Addr} {ws : List (Addr × String)} {keep : List (Addr × Obj)} {xs : List Itm} {s₀ : Shared} {hp : Heap} {tk0 : Nat} {oC : Obj} {m₂ : Str → Option Value} {ys : List Value} {news : List (Addr × Obj)}
    (J : List Itm → (Str → Option Value) → List Value → List (Addr × Obj) → Prop)
    (S : CSrc prog w A target h₀ L I ws keep xs hp)
    (ht : compTurn (.ListComp elt gens scope pos) depth (.ref I) (.ref D) cenv = turnOf (.ListComp elt gens scope pos) depth target iter ifs emitK (.ref I) (.ref D) cenv)
    (hE : EmitOk (model prog w) A emitK Em) (hEm : ∀ (P P' : Shared → Prop) (E : Value → Shared → Prop) (s : Shared), Em P E s → (∀ s', P s' → P' s') → Em P' E s)
    (hIC : ∀ b ∈ ws.map (·.1), b ≠ C ∧ b ≠ D)
    (F : Fr h₀ L hp m) (hC : NsObj oC m₂) (N : News h₀ L hp ((C, oC) :: (D, lst ys) :: news)) (off : OffC (ws.map (·.1)) C D news) (h0 : J xs m₂ ys news)
    (hkeep : ∀ r m₂ ys nw, J r m₂ ys nw → ∀ p ∈ keep, p ∈ nw)
    (step : ∀ a r m₂ ys news v h tk its oC, J (a :: r) m₂ ys news → a.Is v h → Objs ws its → Fr h₀ L h m → NsObj oC m₂ → News h₀ L h (its ++ (C, oC) :: (D, lst ys) :: news) → OffC (ws.map (·.1)) C D news →
      wpAny (model prog w) A (assign target cenv v) (fun _ s₂ =>
          wpAny (model prog w) A (forIn ifs true fun c r => if r = true then do let ok ← isTrue c cenv (eval c cenv); pure (ForInStep.yield ok) else pure (ForInStep.yield r)) (fun ok s₃ =>
            if ok = true then Em (CSt h₀ L m s₀ its C D (J r)) (notedBy (model prog w) A cenv fun e s' => R (.error e) s') s₃
            else CSt h₀ L m s₀ its C D (J r) s₃) (notedBy (model prog w) A cenv fun e s' => R (.error e) s') s₂) (notedBy (model prog w) A cenv fun e s' => R (.error e) s') { s₀ with heap := h, toks := tk })
    (done : ∀ m₂ ys news h tk oC, J [] m₂ ys news → Fr h₀ L h m → NsObj oC m₂ → News h₀ L h ((C, oC) :: (D, lst ys) :: news) → OffC (ws.map (·.1)) C D news → R (.ok .next) { s₀ with heap := h, toks := tk }) :
    codeAny (model prog w) A (.compLoop (.ListComp elt gens scope pos) depth (.ref I) (.ref D) cenv) R { s₀ with heap := hp, toks := tk0 } := by
  obtain ⟨fp, wr, n, P, Md, St, W, a, b, c, d, e, f, g, st⟩ := S
  exact comp_items J ht hE hEm W a b c f d e hIC hkeep st F hC N off h0 step done

theorem cemit {E : Value → Shared → Prop} {elt : PySem.Expr} {cenv : Env} {its : List (Addr × Obj)} {C D : Addr} {s₀ s : Shared} {ys : List Value} {J : (Str → Option Value) → List Value → List (Addr × Obj) → Prop} (hCD : C ≠ D) (hIC : ∀ b ∈ its.map (·.1), b ≠ C ∧ b ≠ D) (hl : ys.length ≤ sizeLine)
    (h : wpAny (model prog w) A (eval elt cenv) (fun y s' => CSt h₀ L m s₀ its C D (fun m₂ ys' nw => ys' = ys ∧ J m₂ (ys ++ [y]) nw) s') E s) :
    wpAny (model prog w) A (do let _ ← call (.builtin "list.append") [.ref D, ← eval elt cenv]) (fun _ s₅ => CSt h₀ L m s₀ its C D J s₅) E s := by
  refine wpAny_bind (wpAny_mono h (fun y s' h' => ?_) fun _ _ e => e)
  obtain ⟨h₄, tk₄, oC₄, m₄, ys₄, news₄, rfl, F₄, hC₄, N₄, off₄, rfl, hJ⟩ := h'
  have zD := N₄ (D, lst ys₄) (List.mem_append_right _ (.tail _ (.head _)))
  refine wpAny_bind (append_at (hsz := by rw [List.size_toArray]; exact hl) zD.1 fun h₅ hs₅ hD₅ => wpAny_pure ?_)
  refine ⟨h₅, tk₄, oC₄, m₄, ys₄ ++ [y], news₄, rfl, F₄.change hs₅ zD.2.1 zD.2.2, hC₄, fun p hp => ?_, off₄, hJ⟩
  rcases List.mem_append.mp hp with hp | hp
  · exact ⟨hs₅.extBut _ _ (hIC _ (List.mem_map_of_mem hp)).2 (N₄ p (List.mem_append_left _ hp)).1, (N₄ p (List.mem_append_left _ hp)).2⟩
  · rcases List.mem_cons.mp hp with rfl | hp
    · exact ⟨hs₅.extBut _ _ hCD (N₄ _ (List.mem_append_right _ (.head _))).1, (N₄ _ (List.mem_append_right _ (.head _))).2⟩
    · rcases List.mem_cons.mp hp with rfl | hp
      · exact ⟨hD₅.trans (congrArg some (lst_snoc ys₄ y)), zD.2⟩
      · have z := N₄ p (List.mem_append_right _ (.tail _ (.tail _ hp)))
        exact ⟨hs₅.extBut _ _ (off₄ p hp).2.2 z.1, z.2⟩

theorem cassign_name {E : Value → Shared → Prop} {s : Shared} {x : Str} {px : Pos} {v : Value} {cenv : Env} {its : List (Addr × Obj)} {C : Addr} {oC : Obj} {m₂ : Str → Option Value} {rest : List (Addr × Obj)} {Q : Unit → Shared → Prop} (hx : cenv.kindOf x = some .local) (hcl : cenv.locals = C) (hp : (cenv.scope.kind == .class || (cenv.scope.kind == .module && cenv.locals != cenv.globals)) = false)
    (F : Fr h₀ L s.heap m) (hC : NsObj oC m₂) (N : News h₀ L s.heap (its ++ (C, oC) :: rest)) (o1 : ∀ b ∈ its.map (·.1), b ≠ C) (o2 : ∀ p ∈ rest, p.1 ≠ C)
    (k : ∀ h' tk oC' m₃, m₃ x = some v → (∀ y, y ≠ x → m₃ y = m₂ y) → Fr h₀ L h' m → NsObj oC' m₃ → News h₀ L h' (its ++ (C, oC') :: rest) → Q () { s with heap := h', toks := tk }) :
    wpAny (model prog w) A (assign (.Name x px) cenv v) Q E s := by
  have zC := N (C, oC) (List.mem_append_right _ (.head _))
  subst hcl
  refine wpAny_assign_Name (wpAny_storeName_local hx (hC.ns zC.1) (fun h₂ hn₂ hs₂ => ?_) hp)
  obtain ⟨oC', heC, hoC⟩ := ns_obj hn₂
  refine k h₂ _ oC' _ (by simp) (fun y hy => by simp [hy]) (F.change hs₂ zC.2.1 zC.2.2) hoC fun p hp => ?_
  rcases List.mem_append.mp hp with hp | hp
  · exact ⟨hs₂.extBut _ _ (o1 _ (List.mem_map_of_mem hp)) (N p (List.mem_append_left _ hp)).1, (N p (List.mem_append_left _ hp)).2⟩
  · rcases List.mem_cons.mp hp with rfl | hp
    · exact ⟨heC, zC.2⟩
    · exact ⟨hs₂.extBut _ _ (o2 p hp) (N p (List.mem_append_right _ (.tail _ hp))).1, (N p (List.mem_append_right _ (.tail _ hp))).2⟩

theorem cassign2 {E : Value → Shared → Prop} {s : Shared} {x y : Str} {px py tp : Pos} {kk : Nat} {t : Addr} {v1 v2 : Value} {cenv : Env} {its : List (Addr × Obj)} {C : Addr} {oC : Obj} {m₂ : Str → Option Value} {rest : List (Addr × Obj)} {Q : Unit → Shared → Prop} (hh : A.handled = none) (hx : cenv.kindOf x = some .local) (hy : cenv.kindOf y = some .local) (hxy : x ≠ y) (hcl : cenv.locals = C) (hp : (cenv.scope.kind == .class || (cenv.scope.kind == .module && cenv.locals != cenv.globals)) = false)
    (F : Fr h₀ L s.heap m) (hC : NsObj oC m₂) (N : News h₀ L s.heap (its ++ (C, oC) :: rest)) (o1 : ∀ b ∈ its.map (·.1), b ≠ C) (o2 : ∀ p ∈ rest, p.1 ≠ C) (hT : IsTup s.heap t #[v1, v2])
    (k : ∀ h' tk oC' m₃, m₃ x = some v1 → m₃ y = some v2 → (∀ q, q ≠ x → q ≠ y → m₃ q = m₂ q) → Fr h₀ L h' m → NsObj oC' m₃ → News h₀ L h' (its ++ (C, oC') :: rest) → Q () { s with heap := h', toks := tk }) :
    wpAny (model prog w) A (assign (.Tuple [.Name x px, .Name y py] kk tp) cenv (.ref t)) Q E s := by
  refine assign_Tuple_tuple hh hT rfl rfl fun h₅ he => ?_
  have he' : ∀ b o, s.heap.get? b = some o → h₅.get? b = some o := fun b o e => he b o (Nat.ne_of_lt (Heap.lt_size e)) e
  refine assignInOrder_cons (cassign_name (its := its) (rest := rest) hx hcl hp (F.keeps he') hC (N.grown he') o1 o2 fun h₆ tk₆ oC₆ m₆ e₆ r₆ F₆ hC₆ N₆ => ?_)
  refine assignInOrder_cons (cassign_name (its := its) (rest := rest) hy hcl hp F₆ hC₆ N₆ o1 o2 fun h₇ tk₇ oC₇ m₇ e₇ r₇ F₇ hC₇ N₇ => ?_)
  exact assignInOrder_nil (k _ _ _ m₇ ((r₇ x hxy).trans e₆) e₇ (fun q h1 h2 => (r₇ q h2).trans (r₆ q h1)) F₇ hC₇ N₇)
theorem cassign3 {E : Value → Shared → Prop} {s : Shared} {x y z : Str} {px py pz tp : Pos} {kk : Nat} {t : Addr} {v1 v2 v3 : Value} {cenv : Env} {its : List (Addr × Obj)} {C : Addr} {oC : Obj} {m₂ : Str → Option Value} {rest : List (Addr × Obj)} {Q : Unit → Shared → Prop} (hh : A.handled = none) (hx : cenv.kindOf x = some .local) (hy : cenv.kindOf y = some .local) (hz : cenv.kindOf z = some .local) (hxy : x ≠ y) (hxz : x ≠ z) (hyz : y ≠ z) (hcl : cenv.locals = C) (hp : (cenv.scope.kind == .class || (cenv.scope.kind == .module && cenv.locals != cenv.globals)) = false)
    (F : Fr h₀ L s.heap m) (hC : NsObj oC m₂) (N : News h₀ L s.heap (its ++ (C, oC) :: rest)) (o1 : ∀ b ∈ its.map (·.1), b ≠ C) (o2 : ∀ p ∈ rest, p.1 ≠ C) (hT : IsTup s.heap t #[v1, v2, v3])
    (k : ∀ h' tk oC' m₃, m₃ x = some v1 → m₃ y = some v2 → m₃ z = some v3 → (∀ q, q ≠ x → q ≠ y → q ≠ z → m₃ q = m₂ q) → Fr h₀ L h' m → NsObj oC' m₃ → News h₀ L h' (its ++ (C, oC') :: rest) → Q () { s with heap := h', toks := tk }) :
    wpAny (model prog w) A (assign (.Tuple [.Name x px, .Name y py, .Name z pz] kk tp) cenv (.ref t)) Q E s := by
  refine assign_Tuple_tuple hh hT rfl rfl fun h₅ he => ?_
  have he' : ∀ b o, s.heap.get? b = some o → h₅.get? b = some o := fun b o e => he b o (Nat.ne_of_lt (Heap.lt_size e)) e
  refine assignInOrder_cons (cassign_name (its := its) (rest := rest) hx hcl hp (F.keeps he') hC (N.grown he') o1 o2 fun h₆ tk₆ oC₆ m₆ e₆ r₆ F₆ hC₆ N₆ => ?_)
  refine assignInOrder_cons (cassign_name (its := its) (rest := rest) hy hcl hp F₆ hC₆ N₆ o1 o2 fun h₇ tk₇ oC₇ m₇ e₇ r₇ F₇ hC₇ N₇ => ?_)
  refine assignInOrder_cons (cassign_name (its := its) (rest := rest) hz hcl hp F₇ hC₇ N₇ o1 o2 fun h₈ tk₈ oC₈ m₈ e₈ r₈ F₈ hC₈ N₈ => ?_)
  exact assignInOrder_nil (k _ _ _ m₈ ((r₈ x hxz).trans ((r₇ x hxy).trans e₆)) ((r₈ y hyz).trans e₇) e₈ (fun q h1 h2 h3 => (r₈ q h3).trans ((r₇ q h2).trans (r₆ q h1))) F₈ hC₈ N₈)

def emitLast (elt : PySem.Expr) (acc : Value) (env : Env) : Sem Unit := do let _ ← call (.builtin "list.append") [acc, ← eval elt env]
def emitLastK (elt : PySem.Expr) (acc : Value) (env : Env) (k : Sem Fin) : Sem Fin := do
  emitLast elt acc env
  k
def emitNestK (e : PySem.Expr) (depth : Nat) (iter : PySem.Expr) (acc : Value) (env : Env) (k : Sem Fin) : Sem Fin := do
  let x ← eval iter env
  standAt iter.pos
  let x ← foldedSetIterable iter env x
  let _ ← runOwn (.compStart e (depth + 1) (← holding [x] (pyIter x)) acc env) env
  k
theorem turn_last1 (elt target iter : PySem.Expr) (ifs : List PySem.Expr) (scope : Scope) (pos : Pos) (it acc : Value) (env : Env) :
    compTurn (.ListComp elt [⟨target, iter, ifs, 0⟩] scope pos) 0 it acc env = turnOf (.ListComp elt [⟨target, iter, ifs, 0⟩] scope pos) 0 target iter ifs (emitLastK elt acc env) it acc env := by rfl
theorem turn_last2 (g0 : Comprehension) (elt target iter : PySem.Expr) (ifs : List PySem.Expr) (scope : Scope) (pos : Pos) (it acc : Value) (env : Env) :
    compTurn (.ListComp elt [g0, ⟨target, iter, ifs, 0⟩] scope pos) 1 it acc env = turnOf (.ListComp elt [g0, ⟨target, iter, ifs, 0⟩] scope pos) 1 target iter ifs (emitLastK elt acc env) it acc env := by rfl
theorem turn_nest (elt target iter target' iter' : PySem.Expr) (ifs ifs' : List PySem.Expr) (scope : Scope) (pos : Pos) (it acc : Value) (env : Env) :
    compTurn (.ListComp elt [⟨target, iter, ifs, 0⟩, ⟨target', iter', ifs', 0⟩] scope pos) 0 it acc env = turnOf (.ListComp elt [⟨target, iter, ifs, 0⟩, ⟨target', iter', ifs', 0⟩] scope pos) 0 target iter ifs (emitNestK (.ListComp elt [⟨target, iter, ifs, 0⟩, ⟨target', iter', ifs', 0⟩] scope pos) 0 iter' acc env) it acc env := by rfl

def EmL (M : Model) (A : Around) (elt : PySem.Expr) (acc : Value) (env : Env) : EmT := fun Post E s => wpAny M A (emitLast elt acc env) (fun _ s' => Post s') E s
theorem emL_ok {elt : PySem.Expr} {acc : Value} {env : Env} : EmitOk (model prog w) A (emitLastK elt acc env) (EmL (model prog w) A elt acc env) := fun k Post Q E s h hk => wpAny_bind (wpAny_mono h (fun _ s' p => hk s' p) fun _ _ e => e)
theorem emL_mono {M : Model} {elt : PySem.Expr} {acc : Value} {env : Env} : ∀ (P P' : Shared → Prop) (E : Value → Shared → Prop) (s : Shared), EmL M A elt acc env P E s → (∀ s', P s' → P' s') → EmL M A elt acc env P' E s := fun P P' E s h hk => wpAny_mono h (fun _ s' p => hk s' p) fun _ _ e => e
def NsQ (prog : Program) (w : World) (A : Around) (e : PySem.Expr) (acc : Value) (env : Env) (Post : Shared → Prop) (it : Value) (s₂ : Shared) : Prop :=
  ∃ I, it = .ref I ∧ (∀ (s : Shared) (Q E : Value → Shared → Prop), (∀ b o, s₂.heap.get? b = some o → s.heap.get? b = some o) → Q (.ref I) s → wpAny (model prog w) A (pyIter (.ref I)) Q E s) ∧
    codeAny (model prog w) A (.compLoop e 1 (.ref I) acc env) (fun r s' => r = .ok .next ∧ Post s') s₂
def EmN (prog : Program) (w : World) (A : Around) (e : PySem.Expr) (iter : PySem.Expr) (acc : Value) (env : Env) : EmT := fun Post E s =>
  wpAny (model prog w) A (eval iter env) (fun xv s₁ => wpAny (model prog w) A (pyIter xv) (NsQ prog w A e acc env Post) E s₁) E s
theorem emN_mono {e : PySem.Expr} {iter : PySem.Expr} {acc : Value} {env : Env} : ∀ (P P' : Shared → Prop) (E : Value → Shared → Prop) (s : Shared), EmN prog w A e iter acc env P E s → (∀ s', P s' → P' s') → EmN prog w A e iter acc env P' E s := fun P P' E s h hk =>
  wpAny_mono h (fun _ s' p => wpAny_mono p (fun _ s₂ q => by
    obtain ⟨I, a, b, c⟩ := q
    exact ⟨I, a, b, codeAny_mono c fun r s' x => ⟨x.1, hk _ x.2⟩⟩) fun _ _ e => e) fun _ _ e => e

theorem compStart_at1 {R : Result → Shared → Prop} {s : Shared} {g0 : Comprehension} {elt target iter : PySem.Expr} {ifs : List PySem.Expr} {scope : Scope} {pos : Pos} {it acc : Value} {env : Env}
    (h0 : codeAny (model prog w) A (.compLoop (.ListComp elt [g0, ⟨target, iter, ifs, 0⟩] scope pos) 1 it acc env) R s)
    (h : wpAny (model prog w) A (pyIter it) (fun it' s' => codeAny (model prog w) A (.compLoop (.ListComp elt [g0, ⟨target, iter, ifs, 0⟩] scope pos) 1 it' acc env) R s')
      (notedBy (model prog w) A env fun x s' => R (.error x) s') s) :
    codeAny (model prog w) A (.compStart (.ListComp elt [g0, ⟨target, iter, ifs, 0⟩] scope pos) 1 it acc env) R s := by
  refine codeAny_of_tree ?_
  show wpAny _ _ ((compStart (.ListComp elt [g0, ⟨target, iter, ifs, 0⟩] scope pos) 1 it acc env).onRaise (fun x => do noteFrame x env; standAt theWindowsPlace)) _ _ s
  refine wpAny_notedAt ?_
  unfold compStart
  show wpAny _ _ (ask >>= _) _ _ s
  refine wpAny_bind (wpAny_askSetting (wpAny_ite ?_))
  split
  · first
      | exact wpAny_bind (wpAny_pure (wpAny_pure (And.intro rfl h0)))
      | exact wpAny_pure (And.intro rfl h0)
  · first
      | exact wpAny_bind (wpAny_rule (wpAny_bind (wpAny_standAt (wpAny_bind (wpAny_mono h (fun it' s' h' => wpAny_pure (And.intro rfl h')) fun _ _ x => x)))))
      | (refine wpAny_bind (wpAny_rule ?_); show wpAny _ _ (standAt iter.pos >>= _) _ _ s; exact wpAny_bind (wpAny_standAt (wpAny_bind (wpAny_mono h (fun it' s' h' => wpAny_pure (And.intro rfl h')) fun _ _ x => x))))

theorem emN_ok {g0 : Comprehension} {elt target iter : PySem.Expr} {ifs : List PySem.Expr} {scope : Scope} {pos : Pos} {acc : Value} {env : Env} (hA : A.mark none = A)
    (hs : ∀ x, foldedSetIterable iter env x = pure x := by intro _; rfl) :
    EmitOk (model prog w) A (emitNestK (.ListComp elt [g0, ⟨target, iter, ifs, 0⟩] scope pos) 0 iter acc env) (EmN prog w A (.ListComp elt [g0, ⟨target, iter, ifs, 0⟩] scope pos) iter acc env) := by
  intro k Post Q E s h hk
  unfold emitNestK
  refine wpAny_bind (wpAny_mono h (fun xv s₁ h₁ => wpAny_bind (wpAny_standAt (wpAny_bind (wpAny_of_eq (hs xv) (wpAny_bind (wpAny_holding (wpAny_mono h₁ (fun it s₂ h₂ => ?_) fun _ _ e => e))))))) fun _ _ e => e)
  obtain ⟨I, rfl, hself, c⟩ := h₂
  refine wpAny_bind (wpAny_runOwn ?_)
  rw [hA]
  have k' := codeAny_mono c (R' := fun r s' => match r with | .ok f => wpAny (model prog w) A k Q E s' | .error e => cameBackBy (model prog w) A env E e s') fun r s' hr => by
    obtain ⟨rfl, hp⟩ := hr
    exact hk _ hp
  exact compStart_at1 k' (hself _ _ _ (fun _ _ e => e) k')

section
variable {E : Value → Shared → Prop} {s : Shared} {env : Env} {elt target iter : PySem.Expr} {ifs : List PySem.Expr} {gs : List Comprehension} {g0 : Comprehension} {scope : Scope} {cl : List (Str × Addr)} {pos : Pos} {Q : Value → Shared → Prop} {news : List (Addr × Obj)}
/-- what is left of a comprehension behind its source's iterator -/
def LcK (prog : Program) (w : World) (A : Around) (h₀ : Heap) (L : Addr) (m : Str → Option Value) (env : Env) (elt target iter : PySem.Expr) (ifs : List PySem.Expr) (gs : List Comprehension) (scope : Scope) (cl : List (Str × Addr)) (pos : Pos) (Q : Value → Shared → Prop) (s : Shared) (news : List (Addr × Obj)) (I : Addr) (ws : List (Addr × String)) (keep : List (Addr × Obj)) (xs : List Itm) : Prop :=
  ∀ (C D : Addr) h tk oC m₂, C ≠ D → (∀ p ∈ news, (@LT.lt Nat _ p.1 C) ∧ (@LT.lt Nat _ p.1 D)) → (∀ b ∈ ws.map (·.1), (@LT.lt Nat _ b C) ∧ (@LT.lt Nat _ b D)) → Fr h₀ L h m → NsObj oC m₂ → News h₀ L h ((C, oC) :: (D, lst []) :: news) → CSrc prog w A target h₀ L I ws keep xs h →
    codeAny (model prog w) A (.compLoop (.ListComp elt (⟨target, iter, ifs, 0⟩ :: gs) scope pos) 0 (.ref I) (.ref D) (compEnvC scope cl C env))
      (fun r s' => r = .ok .next ∧ ∃ h' tk' oC' m₂' ys news', s' = { s with heap := h', toks := tk' } ∧ Fr h₀ L h' m ∧ NsObj oC' m₂' ∧ News h₀ L h' ((C, oC') :: (D, lst ys) :: news') ∧ (∀ p ∈ news', p.1 ≠ C) ∧
        ∀ h'', Fr h₀ L h'' m → News h₀ L h'' ((D, lst ys) :: news') → Q (.ref D) { s with heap := h'', toks := tk' }) { s with heap := h, toks := tk }
theorem lc_of {I : Addr} {ws : List (Addr × String)} {keep : List (Addr × Obj)} {xs : List Itm} {h' : Heap} (F : Fr h₀ L h' m) (N : News h₀ L h' news) (S : CSrc prog w A target h₀ L I ws keep xs h')
    (k : LcK prog w A h₀ L m env elt target iter ifs gs scope cl pos Q s news I ws keep xs) : LcQ prog w A h₀ L m env elt target iter ifs gs scope cl pos Q (.ref I) { s with heap := h' } :=
  ⟨I, news, rfl, F, N, S.self, fun C D h tk oC m₂ hCD hlow F' hC hup N' => k C D h tk oC m₂ hCD (fun p hp => hlow _ (Heap.lt_size (N p hp).1)) (fun b hb => hlow b (S.there b hb)) F' hC N' (S.up hup)⟩
theorem lc_list {ax : Addr} {lo : Obj} {vs : List Value} {n : Nat} (hh : A.handled = none) (F : Fr h₀ L s.heap m) (N : News h₀ L s.heap news) (hm : (ax, lo) ∈ news) (hc : lo.cls = .type "list") (hd : lo.data = .seq vs.toArray n)
    (k : ∀ I : Addr, (∀ p ∈ news, p.1 < I) → LcK prog w A h₀ L m env elt target iter ifs gs scope cl pos Q s news I [(I, "list_iterator")] [(ax, lo)] (vs.map .val)) :
    wpAny (model prog w) A (pyIter (.ref ax)) (LcQ prog w A h₀ L m env elt target iter ifs gs scope cl pos Q) E s :=
  src_list hh F N hm hc hd fun I h' hI _ F' N' S => lc_of F' N' S (k I hI)
theorem lc_tuple {ax : Addr} {lo : Obj} {vs : List Value} {n : Nat} (hh : A.handled = none) (F : Fr h₀ L s.heap m) (N : News h₀ L s.heap news) (hm : (ax, lo) ∈ news) (hc : lo.cls = .type "tuple") (hd : lo.data = .seq vs.toArray n)
    (k : ∀ I : Addr, (∀ p ∈ news, p.1 < I) → LcK prog w A h₀ L m env elt target iter ifs gs scope cl pos Q s news I [(I, "tuple_iterator")] [(ax, lo)] (vs.map .val)) :
    wpAny (model prog w) A (pyIter (.ref ax)) (LcQ prog w A h₀ L m env elt target iter ifs gs scope cl pos Q) E s :=
  src_tuple hh F N hm hc hd fun I h' hI _ F' N' S => lc_of F' N' S (k I hI)
theorem lc_range {x : Str} {px : Pos} {r : Addr} {b : Int} {t u v : Tok} {n : Nat} (hh : A.handled = none) (F : Fr h₀ L s.heap m) (N : News h₀ L s.heap news)
    (hr : IsRange s.heap r 0 b 1 t u v) (hsm : Builtin.Range.small 0 b 1 = true) (hn : Builtin.Range.rangeSize 0 b 1 = ((n : Nat) : Int))
    (k : ∀ I : Addr, (∀ p ∈ news, p.1 < I) → LcK prog w A h₀ L m env elt (.Name x px) iter ifs gs scope cl pos Q s news I [(I, "range_iterator")] [] (rangeItms n)) :
    wpAny (model prog w) A (pyIter (.ref r)) (LcQ prog w A h₀ L m env elt (.Name x px) iter ifs gs scope cl pos Q) E s :=
  src_range hh F N hr hsm hn fun I h' hI _ F' N' S => lc_of F' N' S (k I hI)
theorem lc_enum {elts : List PySem.Expr} {kk : Nat} {tp : Pos} {l : Addr} {lo : Obj} {vs : List Value} {n : Nat} (hh : A.handled = none) (F : Fr h₀ L s.heap m) (N : News h₀ L s.heap news) (hm : (l, lo) ∈ news) (hc : lo.cls = .type "list") (hd : lo.data = .seq vs.toArray n)
    (k : ∀ I : Addr, (∀ p ∈ news, p.1 < I) → LcK prog w A h₀ L m env elt (.Tuple elts kk tp) iter ifs gs scope cl pos Q s news (I + 1) [(I + 1, "enumerate"), (I, "list_iterator")] [(l, lo)] (enumItems 0 vs)) :
    wpAny (model prog w) A (call (.type "enumerate") [.ref l]) (fun xv s₁ => wpAny (model prog w) A (pyIter xv) (LcQ prog w A h₀ L m env elt (.Tuple elts kk tp) iter ifs gs scope cl pos Q) E s₁) E s :=
  src_enum hh F N hm hc hd fun I h' hI _ F' N' S => lc_of F' N' S (k I hI)

theorem ns_tuple {ax D : Addr} {lo : Obj} {vs : List Value} {n : Nat} {Post : Shared → Prop} (hh : A.handled = none) (F : Fr h₀ L s.heap m) (N : News h₀ L s.heap news) (hm : (ax, lo) ∈ news) (hc : lo.cls = .type "tuple") (hd : lo.data = .seq vs.toArray n)
    (k : ∀ I h', (∀ p ∈ news, p.1 < I) → Fr h₀ L h' m → News h₀ L h' news → CSrc prog w A target h₀ L I [(I, "tuple_iterator")] [(ax, lo)] (vs.map .val) h' →
      codeAny (model prog w) A (.compLoop (.ListComp elt [g0, ⟨target, iter, ifs, 0⟩] scope pos) 1 (.ref I) (.ref D) env) (fun r s' => r = .ok .next ∧ Post s') { s with heap := h' }) :
    wpAny (model prog w) A (pyIter (.ref ax)) (NsQ prog w A (.ListComp elt [g0, ⟨target, iter, ifs, 0⟩] scope pos) (.ref D) env Post) E s :=
  src_tuple hh F N hm hc hd fun I h' hI _ F' N' S => ⟨I, rfl, S.self, k I h' hI F' N' S⟩
end

theorem comp_pre {α : Type} {R : Result → Shared → Prop} {elt target iter : PySem.Expr} {gens : List Comprehension} {ifs : List PySem.Expr} {scope : Scope} {pos : Pos} {depth : Nat} {emitK : Sem Fin → Sem Fin} {Em : EmT} {cenv : Env}
    {C D I : Addr} {ws : List (Addr × String)} {keep : List (Addr × Obj)} {s₀ : Shared} {hp : Heap} {tk0 : Nat} {oC : Obj} {m₂ : Str → Option Value} {ys : List Value} {news : List (Addr × Obj)}
    (xs : List α) (itm : α → Itm) (J : List α → (Str → Option Value) → List Value → List (Addr × Obj) → Prop)
    (S : CSrc prog w A target h₀ L I ws keep (xs.map itm) hp)
    (ht : compTurn (.ListComp elt gens scope pos) depth (.ref I) (.ref D) cenv = turnOf (.ListComp elt gens scope pos) depth target iter ifs emitK (.ref I) (.ref D) cenv)
    (hE : EmitOk (model prog w) A emitK Em) (hEm : ∀ (P P' : Shared → Prop) (E : Value → Shared → Prop) (s : Shared), Em P E s → (∀ s', P s' → P' s') → Em P' E s)
    (hIC : ∀ b ∈ ws.map (·.1), b ≠ C ∧ b ≠ D)
    (F : Fr h₀ L hp m) (hC : NsObj oC m₂) (N : News h₀ L hp ((C, oC) :: (D, lst ys) :: news)) (off : OffC (ws.map (·.1)) C D news) (h0 : J [] m₂ ys news)
    (hkeep : ∀ r m₂ ys nw, J r m₂ ys nw → ∀ p ∈ keep, p ∈ nw)
    (step : ∀ pre y suf m₂ ys news v h tk its oC, xs = pre ++ y :: suf → J pre m₂ ys news → (itm y).Is v h → Objs ws its → Fr h₀ L h m → NsObj oC m₂ → News h₀ L h (its ++ (C, oC) :: (D, lst ys) :: news) → OffC (ws.map (·.1)) C D news →
      wpAny (model prog w) A (assign target cenv v) (fun _ s₂ =>
          wpAny (model prog w) A (forIn ifs true fun c r => if r = true then do let ok ← isTrue c cenv (eval c cenv); pure (ForInStep.yield ok) else pure (ForInStep.yield r)) (fun ok s₃ =>
            if ok = true then Em (CSt h₀ L m s₀ its C D (J (pre ++ [y]))) (notedBy (model prog w) A cenv fun e s' => R (.error e) s') s₃
            else CSt h₀ L m s₀ its C D (J (pre ++ [y])) s₃) (notedBy (model prog w) A cenv fun e s' => R (.error e) s') s₂) (notedBy (model prog w) A cenv fun e s' => R (.error e) s') { s₀ with heap := h, toks := tk })
    (done : ∀ m₂ ys news h tk oC, J xs m₂ ys news → Fr h₀ L h m → NsObj oC m₂ → News h₀ L h ((C, oC) :: (D, lst ys) :: news) → OffC (ws.map (·.1)) C D news → R (.ok .next) { s₀ with heap := h, toks := tk }) :
    codeAny (model prog w) A (.compLoop (.ListComp elt gens scope pos) depth (.ref I) (.ref D) cenv) R { s₀ with heap := hp, toks := tk0 } := by
  refine comp_loop (fun r m₂ ys nw => ∃ pre suf, xs = pre ++ suf ∧ r = suf.map itm ∧ J pre m₂ ys nw) S ht hE hEm hIC F hC N off ⟨[], xs, rfl, rfl, h0⟩ ?_ ?_ ?_
  · rintro r m₂ ys nw ⟨pre, suf, _, _, hJ⟩
    exact hkeep pre m₂ ys nw hJ
  · rintro a r m₂ ys news v h tk its oC ⟨pre, suf, hxs, hr, hJ⟩ hav hits F hC N off
    cases suf with
    | nil => cases hr
    | cons y suf =>
      rw [List.map_cons] at hr
      injection hr with h1 h2
      subst h1
      have up : ∀ s', CSt h₀ L m s₀ its C D (J (pre ++ [y])) s' → CSt h₀ L m s₀ its C D (fun m₂ ys nw => ∃ pre suf, xs = pre ++ suf ∧ r = suf.map itm ∧ J pre m₂ ys nw) s' := by
        rintro s' ⟨h, tk, oC, m₂, ys, news, e, F, hC, N, off, hJ⟩
        exact ⟨h, tk, oC, m₂, ys, news, e, F, hC, N, off, pre ++ [y], suf, by rw [hxs]; simp, h2, hJ⟩
      refine wpAny_mono (step pre y suf m₂ ys news v h tk its oC hxs hJ hav hits F hC N off) (fun _ s₂ h₂ => wpAny_mono h₂ (fun ok s₃ h₃ => ?_) fun _ _ e => e) fun _ _ e => e
      cases ok with
      | true =>
        rw [if_pos rfl] at h₃ ⊢
        exact hEm _ _ _ _ h₃ up
      | false =>
        rw [if_neg (by simp)] at h₃ ⊢
        exact up _ h₃
  · rintro m₂ ys news h tk oC ⟨pre, suf, hxs, hr, hJ⟩ F hC N off
    have : suf = [] := by cases suf with
      | nil => rfl
      | cons y suf => cases hr
    subst this
    rw [List.append_nil] at hxs
    subst hxs
    exact done m₂ ys news h tk oC hJ F hC N off
end
end Mine
open PySem PySem.W PyProof.Rows PySem.Calls PyProof.V
open PyProof.Rows.LCg (NsObj lst ns_obj lst_snoc)
namespace Mine
local macro_rules | `(tactic| k_exc) => `(tactic| first | with_reducible exact List.Mem.head _ | with_reducible assumption | (refine List.Mem.tail _ ?_; k_exc) | exact List.Mem.head _ | assumption | fail)
local macro_rules | `(tactic| k_ownname) => `(tactic| first | exact List.forall_mem_nil _ | (refine List.forall_mem_cons.mpr ⟨?_, ?_⟩; (· k_exc); k_ownname) | (intro p hp; k_exc) | fail)
local macro_rules | `(tactic| k_not) => `(tactic| first | exact List.forall_mem_nil _ | (with_reducible assumption) | (refine List.forall_mem_cons.mpr ⟨?_, ?_⟩; (· k_ne); k_not) | fail)
local macro_rules | `(tactic| k_ne) => `(tactic| first | assumption | (refine Ne.symm ?_; assumption) | (refine Nat.ne_of_lt ?_; assumption) | (refine Nat.ne_of_gt ?_; assumption) | fail)
local macro_rules | `(tactic| ktr_room) => `(tactic| first | (refine' Mine.room_le ?h ?e; (case h => assumption); (case e => decide)) | (refine' Mine.room_one ?h ?e; (case h => assumption); (case e => decide)) | fail)
local macro_rules | `(tactic| ktr_units) => `(tactic| first | (refine' Mine.room_le ?h ?e; (case h => assumption); (case e => decide)) | (refine' Mine.room_one ?h ?e; (case h => assumption); (case e => decide)) | fail)
local macro_rules | `(tactic| k_mem) => `(tactic| first | exact List.Mem.head _ | assumption | (refine' List.Mem.tail _ ?_; k_mem))
local macro_rules | `(tactic| k_all) => `(tactic| assumption)
local macro_rules | `(tactic| k_enter) => `(tactic| first
  | (refine' code_def ?k1 ?k2 ?k3 ?k4 ?k5 ?kA ?kF ?kK ?k6 ?k7 ?k8 ?k9 ?kB ?_ ?c2 ?c3 ?c4 ?c5; (case kA => exact rfl); (case kF => exact rfl); (case kK => first | exact rfl | assumption); (case k1 => k_asm); (case k2 => k_asm); (case k3 => k_asm); (case k4 => k_asm); (case k5 => k_asm); (case k6 => k_is); (case k7 => k_is); (case k8 => ktr_room); (case k9 => exact BindsTo.of_eq rfl); (case c5 => decide); (case kB => exact locs rfl); (case c2 => exact rfl); (case c3 => exact rfl); (case c4 => exact rfl); k_whole; intro g' L' h' FG' F' N' B' X' T'; (try dsimp only); (try k_fold))
  | (refine' code_defC ?k1 ?k2 ?k3 ?k4 ?k5 ?kA ?kF ?kK ?k6 ?k7 ?k8 ?k9 ?kB ?kD ?_ ?c2 ?c3 ?c4; (case kA => exact rfl); (case kF => exact rfl); (case kK => first | exact rfl | assumption); (case k1 => k_asm); (case k2 => k_asm); (case k3 => k_asm); (case k4 => k_asm); (case k5 => k_asm); (case k6 => k_is); (case k7 => k_is); (case k8 => ktr_room); (case k9 => exact BindsTo.of_eq rfl); (case kB => exact rfl); (case kD => decide +kernel); (case c2 => exact rfl); (case c3 => exact rfl); (case c4 => exact rfl); k_whole; intro g' L' h' tk' cells' FG' F' N' Y' B' X' T' l1; k_cells Y'; (try simp only [List.cons_append, List.nil_append] at N'); (try dsimp only); (try k_fold)))
local macro_rules | `(tactic| walk_at "call ref") => `(tactic| (k_here; first
  | ((with_reducible show wpAny _ _ (call (Value.ref 60) _) _ _ _); refine stop_ ?_)
  | ((with_reducible show wpAny _ _ (call (Value.ref 81) _) _ _ _); refine stop_ ?_)
  | ((with_reducible show wpAny _ _ (call (Value.ref 88) _) _ _ _); refine stop_ ?_)
  | ((with_reducible show wpAny _ _ (call (Value.ref 95) _) _ _ _); refine stop_ ?_)
  | ((with_reducible show wpAny _ _ (call (Value.ref 102) _) _ _ _); refine stop_ ?_)
  | ((with_reducible show wpAny _ _ (call (Value.ref 105) _) _ _ _); refine stop_ ?_)
  | ((with_reducible show wpAny _ _ (call (Value.ref 130) _) _ _ _); refine stop_ ?_)
  | ((with_reducible show wpAny _ _ (call (Value.ref 137) _) _ _ _); refine stop_ ?_)
  | ((with_reducible show wpAny _ _ (call (Value.ref 147) _) _ _ _); refine stop_ ?_)
  | ((with_reducible show wpAny _ _ (call (Value.ref 172) _) _ _ _); refine stop_ ?_)
  | ((with_reducible show wpAny _ _ (call (Value.ref 182) _) _ _ _); refine stop_ ?_)
  | ((with_reducible show wpAny _ _ (call (Value.ref 193) _) _ _ _); refine stop_ ?_)
  | ((with_reducible show wpAny _ _ (call (Value.ref 200) _) _ _ _); refine stop_ ?_)
  | ((with_reducible show wpAny _ _ (call (Value.ref 208) _) _ _ _); refine stop_ ?_)
  | ((with_reducible show wpAny _ _ (call (Value.ref 215) _) _ _ _); refine stop_ ?_)
  | ((with_reducible show wpAny _ _ (call (Value.ref 220) _) _ _ _); refine stop_ ?_)
  | ((with_reducible show wpAny _ _ (call (Value.ref 227) _) _ _ _); refine stop_ ?_)
  | ((with_reducible show wpAny _ _ (call (Value.ref 232) _) _ _ _); refine stop_ ?_)
  | ((with_reducible show wpAny _ _ (call (Value.ref 237) _) _ _ _); refine stop_ ?_)))
local macro_rules | `(tactic| walk_at "exec For Tuple Name cons nil") => `(tactic| (k_here; refine stop_ ?_))
local macro_rules | `(tactic| walk_at "eval ListComp") => `(tactic| (k_here; refine stop_ ?_))
local macro_rules | `(tactic| walk_at "pyIter ref") => `(tactic| (k_here; refine stop_ ?_))

section
variable {w : World} {mean : ExcName → Option Value} {mg mb : Str → Option Value} {dp un : Nat} {gd : Option (List Code)} {cn : Str} {cs : Scope} {a : Addr} {ccd : Value} {cl : List (Str × Addr)} {outer : List Env} {A₀ : Around} {base h₀ : Heap} {L : Addr} {m : Str → Option Value} {s : Shared} {Q E : Value → Shared → Prop} {news : List (Addr × Obj)}
theorem off_cons {p : Addr × Obj} {ws : List Addr} {C D : Addr} {news : List (Addr × Obj)} (h : p.1 ∉ ws ∧ p.1 ≠ C ∧ p.1 ≠ D) (o : OffC ws C D news) : OffC ws C D (p :: news) := fun q hq => by
  rcases List.mem_cons.mp hq with rfl | hq
  · exact h
  · exact o q hq
theorem off_of {ws : List Addr} {C D : Addr} {news : List (Addr × Obj)} (h1 : ∀ b ∈ ws, ∀ p ∈ news, p.1 ≠ b) (h2 : ∀ p ∈ news, p.1 < C ∧ p.1 < D) : OffC ws C D news := fun q hq =>
  ⟨fun hb => h1 _ hb q hq rfl, Nat.ne_of_lt (h2 q hq).1, Nat.ne_of_lt (h2 q hq).2⟩
theorem intsAre_snoc : ∀ {vs : List Value} {ns : List Int} {n : Int} {t : Tok}, IntsAre vs ns → IntsAre (vs ++ [.int n t]) (ns ++ [n])
  | _, _, n, t, .nil => .cons _ _ .nil
  | _, _, n, t, .cons _ _ h => .cons _ _ (intsAre_snoc h)
theorem intsAre_app : ∀ {vs us : List Value} {ns ms : List Int}, IntsAre vs ns → IntsAre us ms → IntsAre (vs ++ us) (ns ++ ms)
  | _, _, _, _, .nil, h => h
  | _, _, _, _, .cons _ _ h, h' => .cons _ _ (intsAre_app h h')
theorem intsAre_four {vs : List Value} {a b c d : Int} (h : IntsAre vs [a, b, c, d]) : ∃ t1 t2 t3 t4, vs = [.int a t1, .int b t2, .int c t3, .int d t4] := by
  cases h with
  | cons _ _ h => cases h with
    | cons _ _ h => cases h with
      | cons _ _ h => cases h with
        | cons _ _ h => cases h; exact ⟨_, _, _, _, rfl⟩

theorem objs_one {I : Addr} {c : String} {its : List (Addr × Obj)} (h : Objs [(I, c)] its) : ∃ o : Obj, its = [(I, o)] ∧ o.cls = .type c := by
  cases its with
  | nil => exact h.elim
  | cons p r => cases r with
    | nil => obtain ⟨⟨a, b⟩, _⟩ := h; exact ⟨p.2, by rw [← show p.1 = I from a], b⟩
    | cons q r => exact h.2.elim
theorem len_two {α : Type} (f g : α → Int) : ∀ l : List α, (l.flatMap fun p => [f p, g p]).length = 2 * l.length
  | [] => rfl
  | p :: l => by rw [List.flatMap_cons, List.length_append, len_two f g l]; simp; omega
theorem line_of {n : Nat} (h : n ≤ 16777216) : n ≤ sizeLine := by rw [PySem.sizeLine_eq]; exact h

set_option maxHeartbeats 4000000 in
theorem scores_c {x d sc : Addr} {o : Obj} {c : List (Int × Int)} {lim : Int} {rest : List (Addr × Obj)}
   (B : Below A₀ base outer h₀) (F : Fr h₀ L s.heap m) (X : (Mine.hd.heap_1 w.params).In h₀) 
   (N : News h₀ L s.heap rest)
   (T : Top Mine.hd.view_39 (looseW Mine.hd.view_39 []) mean mg mb h₀) (hk : cs.kind = .function)
   (H : HistIn w rest x d sc lim) (hm0 : (sc, o) ∈ rest) (Tb : Tab w sc o c)
   (hd : dp + 2 < recursionLimit) (hu : un + 16 < cLine) 
   (ret : ∀ (D : Addr) t1 t2 t3 t4 h' tk', Fr h₀ L h' m → News h₀ L h' ((D, lst [.int (kdfLook c (hkey 0 5) 0) t1, .int (kdfLook c (hkey 0 6) 0) t2, .int (kdfLook c (hkey 1 5) 0) t3, .int (kdfLook c (hkey 1 6) 0) t4]) :: rest) → (∀ p ∈ rest, p.1 < D) → Q (.ref D) { s with heap := h', toks := tk' }) :
   wpAny (model PySem.Challenge.rw_tg0010_01.row.prog w) (ktrTop dp un gd cn cs L a ccd cl outer) (call (.ref 220) [.ref x]) Q E s := by
  have H1 := H
  obtain ⟨ht1, ht2, htl, hm1, hm2⟩ := H1
  w_top off; revert X; k_fill; intro X
  refine wpAny_call ?_
  k_dflt k_enter
  rename (∀ p ∈ rest, p.1 < _) => hL'
  k_steps
  refine stop_out ?_
  k_dflt (refine' listComp_start (by assumption) (by with_unfolding_all rfl) (by decide) (by rfl) (by decide) ?_)
  k_steps
  refine stop_out ?_
  rename News _ _ _ _ => N1
  rename_i g1 L1 hx1 tkx1 FG1 B1 X1 T1 o1 d1 D0 hh0 F0 l10
  obtain ⟨t0, t1, N1⟩ : ∃ t0 t1, News _ _ _ ((D0, tupObj #[.int 0 t0, .int 1 t1] 0) :: (L1 + 1, o1) :: rest) := ⟨_, _, N1⟩
  k_dflt (refine' lc_tuple (vs := [.int 0 t0, .int 1 t1]) rfl (by assumption) N1 (.head _) rfl rfl ?_)
  intro I hI C D h3 tk3 oC m₂ hCD hlow hws F3 hC N3 S
  have hIC := hws I (.head _)
  refine comp_pre [(0, t0), (1, t1)] (fun p : Int × Tok => .val (.int p.1 p.2)) (fun pre m₂ ys nw => nw = (D0, tupObj #[.int 0 t0, .int 1 t1] 0) :: (L1 + 1, o1) :: rest ∧ IntsAre ys (pre.flatMap fun p => [kdfLook c (hkey p.1 5) 0, kdfLook c (hkey p.1 6) 0])) S
    (turn_nest _ _ _ _ _ _ _ _ _ _ _ _) (emN_ok rfl) emN_mono ?_ F3 hC N3 ?_ ⟨rfl, .nil⟩ ?_ ?_ ?_
  · intro b hb
    rw [List.mem_singleton.mp hb]
    exact ⟨Nat.ne_of_lt hIC.1, Nat.ne_of_lt hIC.2⟩
  · exact off_of (fun b hb p hp => by rw [List.mem_singleton.mp hb]; exact Nat.ne_of_lt (hI p hp)) hlow
  · rintro r m₂ ys nw ⟨rfl, _⟩ p hp
    rw [List.mem_singleton.mp hp]; exact .head _
  · rintro pre y suf m₂ ys nw v h tk its oC hxs ⟨rfl, hys⟩ hv hits F4 hC4 N4 off4
    subst hv
    obtain ⟨oI, rfl, hoI⟩ := objs_one hits
    refine cassign_name (its := [(I, oI)]) rfl rfl rfl F4 hC4 N4 ?_ ?_ ?_
    · intro b hb; rw [List.mem_singleton.mp hb]; exact Nat.ne_of_lt hIC.1
    · intro p hp
      rcases List.mem_cons.mp hp with rfl | hp
      · exact hCD.symm
      · exact (off4 p hp).2.1
    intro h5 tk5 oC5 m5 e5 r5 F5 hC5 N5
    simp only [List.cons_append, List.nil_append] at N5
    refine wpAny_tests_nil ?_
    rw [if_pos rfl]
    unfold EmN
    clear F4 N4
    k_steps
    refine stop_out ?_
    rename News _ _ _ _ => N6
    rename_i D1 hh1 F6 l11
    obtain ⟨u0, u1, N6⟩ : ∃ u0 u1, News _ _ _ ((D1, tupObj #[.int 5 u0, .int 6 u1] 0) :: (I, oI) :: (C, oC5) :: (D, lst ys) :: (D0, tupObj #[.int 0 t0, .int 1 t1] 0) :: (L1 + 1, o1) :: rest) := ⟨_, _, N6⟩
    refine ns_tuple (vs := [.int 5 u0, .int 6 u1]) rfl (by assumption) N6 (.head _) rfl rfl ?_
    intro I2 h7 hI2 F7 N7 S7
    have hlen : ys.length ≤ 10 := by
      rw [hys.length, len_two]
      have := congrArg List.length hxs
      simp at this
      omega
    refine comp_pre (C := C) (D := D) (news := (D1, tupObj #[.int 5 u0, .int 6 u1] 0) :: (I, oI) :: (D0, tupObj #[.int 0 t0, .int 1 t1] 0) :: (L1 + 1, o1) :: rest) [(5, u0), (6, u1)] (fun p : Int × Tok => .val (.int p.1 p.2)) (fun pre2 m₂ ys' nw => nw = (D1, tupObj #[.int 5 u0, .int 6 u1] 0) :: (I, oI) :: (D0, tupObj #[.int 0 t0, .int 1 t1] 0) :: (L1 + 1, o1) :: rest ∧ m₂ (Str.ofString "side") = some (.int y.1 y.2) ∧ ∃ zs, ys' = ys ++ zs ∧ IntsAre zs (pre2.map fun q => kdfLook c (hkey y.1 q.1) 0)) S7
      (turn_last2 _ _ _ _ _ _ _ _ _ _) emL_ok emL_mono ?_ F7 hC5 (news_sub N7 ?_) ?_ ⟨rfl, e5, [], (List.append_nil ys).symm, .nil⟩ ?_ ?_ ?_
    · intro b hb
      rw [List.mem_singleton.mp hb]
      exact ⟨Nat.ne_of_gt (hI2 (C, oC5) (.tail _ (.tail _ (.head _)))), Nat.ne_of_gt (hI2 (D, lst ys) (.tail _ (.tail _ (.tail _ (.head _)))))⟩
    · k_ownname
    · refine off_cons ⟨fun hb => ?_, ?_, ?_⟩ (off_cons ⟨fun hb => ?_, ?_, ?_⟩ (fun p hp => ⟨fun hb => ?_, (off4 p hp).2⟩))
      · exact Nat.ne_of_lt (hI2 _ (.head _)) (List.mem_singleton.mp hb)
      · exact Nat.ne_of_gt l11.2.1
      · exact Nat.ne_of_gt l11.2.2.1
      · exact Nat.ne_of_lt (hI2 (I, oI) (.tail _ (.head _))) (List.mem_singleton.mp hb)
      · exact Nat.ne_of_lt hIC.1
      · exact Nat.ne_of_lt hIC.2
      · exact Nat.ne_of_lt (hI2 p (.tail _ (.tail _ (.tail _ (.tail _ hp))))) (List.mem_singleton.mp hb)
    · rintro r m₂ ys nw ⟨rfl, _⟩ p hp
      rw [List.mem_singleton.mp hp]; exact .head _
    · rintro pre2 y2 suf2 m₂ ys' nw v h tk its oC hxs2 ⟨rfl, hside, zs, rfl, hzs⟩ hv hits F8 hC8 N8 off8
      subst hv
      obtain ⟨oI2, rfl, hoI2⟩ := objs_one hits
      refine cassign_name (its := [(I2, oI2)]) rfl rfl rfl F8 hC8 N8 ?_ ?_ ?_
      · intro b hb; rw [List.mem_singleton.mp hb]; exact Nat.ne_of_gt (hI2 (C, oC5) (.tail _ (.tail _ (.head _))))
      · intro p hp
        rcases List.mem_cons.mp hp with rfl | hp
        · exact hCD.symm
        · exact (off8 p hp).2.1
      intro h9 tk9 oC9 m9 e9 r9 F9 hC9 N9
      simp only [List.cons_append, List.nil_append] at N9
      refine wpAny_tests_nil ?_
      rw [if_pos rfl]
      have hlen2 : zs.length ≤ 10 := by
        rw [hzs.length, List.length_map]
        have := congrArg List.length hxs2
        simp at this
        omega
      have hl9 : (ys ++ zs).length ≤ 16777216 := by rw [List.length_append]; omega
      refine cemit hCD ?_ (line_of hl9) ?_
      · intro b hb
        rw [List.mem_singleton.mp hb]
        exact ⟨Nat.ne_of_gt (hI2 (C, oC5) (.tail _ (.tail _ (.head _)))), Nat.ne_of_gt (hI2 (D, lst ys) (.tail _ (.tail _ (.tail _ (.head _)))))⟩
      have hside9 := (r9 (Str.ofString "side") (by decide)).trans hside
      clear F8 N8
      k_steps
      refine stop_out ?_
      have hy : y = (0, t0) ∨ y = (1, t1) := by
        have : y ∈ [(0, t0), (1, t1)] := by rw [hxs]; simp
        simpa using this
      have hy2 : y2 = (5, u0) ∨ y2 = (6, u1) := by
        have : y2 ∈ [(5, u0), (6, u1)] := by rw [hxs2]; simp
        simpa using this
      refine get_t (rest := (I2, oI2) :: (C, oC9) :: (D, lst (ys ++ zs)) :: (D1, tupObj #[.int 5 u0, .int 6 u1] 0) :: (I, oI) :: (D0, tupObj #[.int 0 t0, .int 1 t1] 0) :: (L1 + 1, o1) :: rest) (by assumption) (by assumption) (by assumption) (by assumption) (by assumption) (by rfl) (H.sub fun p hp => by simp only [List.mem_cons]; simp [hp]) (by simp only [List.mem_cons]; simp [hm0]) (by rcases hy with h | h <;> rw [h] <;> simp) (by rcases hy2 with h | h <;> rw [h] <;> simp) Tb (by ktr_room) (by ktr_units) ?_
      intro t9 h11 tk11 F11 N11
      k_steps
      refine ⟨h11, tk11, oC9, m9, ys ++ zs, (D1, tupObj #[.int 5 u0, .int 6 u1] 0) :: (I, oI) :: (D0, tupObj #[.int 0 t0, .int 1 t1] 0) :: (L1 + 1, o1) :: rest, rfl, F11, hC9, N11, off8, rfl, rfl, hside9, zs ++ [.int (kdfLook c (hkey y.1 y2.1) 0) t9], by rw [List.append_assoc], ?_⟩
      rw [List.map_append]
      exact intsAre_snoc hzs
    · rintro m₂ ys' nw h tk oC ⟨rfl, hside, zs, rfl, hzs⟩ F8 hC8 N8 off8
      refine ⟨rfl, h, tk, oC, m₂, ys ++ zs, (D0, tupObj #[.int 0 t0, .int 1 t1] 0) :: (L1 + 1, o1) :: rest, rfl, F8, hC8, news_sub N8 ?_, off4, rfl, ?_⟩
      · k_ownname
      · rw [List.flatMap_append]
        exact intsAre_app hys hzs
  · rintro m₂ ys nw h tk oC ⟨rfl, hys⟩ F4 hC4 N4 off4
    obtain ⟨v1, v2, v3, v4, rfl⟩ := intsAre_four hys
    refine ⟨rfl, h, tk, oC, m₂, _, _, rfl, F4, hC4, N4, fun p hp => (off4 p hp).2.1, fun h'' F'' N'' => ?_⟩
    k_steps
    rename News _ _ _ _ => N9
    exact ret D v1 v2 v3 v4 _ _ (by assumption) (news_sub N9 (by k_ownname)) (fun p hp => (hlow p (.tail _ (.tail _ hp))).2)
end


section
variable {w : World} {mean : ExcName → Option Value} {mg mb : Str → Option Value} {dp un : Nat} {gd : Option (List Code)} {cn : Str} {cs : Scope} {a : Addr} {ccd : Value} {cl : List (Str × Addr)} {outer : List Env} {A₀ : Around} {base h₀ : Heap} {L : Addr} {m : Str → Option Value} {s : Shared} {Q E : Value → Shared → Prop} {news : List (Addr × Obj)}
theorem get_v {h d sc : Addr} {ts tm : Tok} {lim side move : Int} {o : Obj} {c : List (Int × Int)} {rest : List (Addr × Obj)}
   (B : Below A₀ base outer h₀) (F : Fr h₀ L s.heap m) (X : (Mine.hd.heap_1 w.params).In h₀) 
   (N : News h₀ L s.heap rest)
   (T : Top Mine.hd.view_39 (looseW Mine.hd.view_39 []) mean mg mb h₀) (hk : cs.kind = .function)
   (H : HistIn w rest h d sc lim) (hm0 : (sc, o) ∈ rest)
   (hs : 0 ≤ side ∧ side ≤ 1) (hm : 0 ≤ move ∧ move ≤ 100) 
   (Tb : Tab w sc o c) 
   (hd : dp + 1 < recursionLimit) (hu : un + 8 < cLine)
   (ret : ∀ v t h' tk', v = kdfLook c (hkey side move) 0 → Fr h₀ L h' m → News h₀ L h' rest → Q (.int v t) { s with heap := h', toks := tk' }) :
   wpAny (model PySem.Challenge.rw_tg0010_01.row.prog w) (ktrTop dp un gd cn cs L a ccd cl outer) (call (.ref 81) [.ref h, .int side ts, .int move tm]) Q E s :=
  get_t B F X N T hk H hm0 hs hm Tb hd hu fun t h' tk' F N => ret _ t h' tk' rfl F N
theorem above_step {lim : Int} {c c2 : List (Int × Int)} (hl : 1 ≤ lim) (h1 : TabOk lim c) (h2 : TabOk lim c2) {k : Int} (h : kdfLook c k 0 ≤ kdfLook c2 k 0) (side move bonus : Int) :
    kdfLook (putS lim c side move bonus) k 0 ≤ kdfLook (putS lim c2 side move bonus) k 0 := by
  unfold putS
  rw [kdfLook_put, kdfLook_put]
  by_cases hk : k = hkey side move
  · rw [if_pos hk, if_pos hk]
    subst hk
    exact stepS_mono hl (h1 _) (h2 _) h
  · rw [if_neg hk, if_neg hk]; exact h
theorem put_same (lim : Int) (c : List (Int × Int)) (side move bonus : Int) : kdfLook (putS lim c side move bonus) (hkey side move) 0 = stepS lim (kdfLook c (hkey side move) 0) bonus := by
  unfold putS
  rw [kdfLook_put, if_pos rfl]

set_option maxHeartbeats 4000000 in
theorem steps_c {tl : Tok} {lim : Int} {lr : Addr} {as : List (Addr × Row)} {rest : List (Addr × Obj)}
   (B : Below A₀ base outer h₀) (F : Fr h₀ L s.heap m) (X : (Mine.hd.heap_1 w.params).In h₀) 
   (N : News h₀ L s.heap rest)
   (T : Top Mine.hd.view_39 (looseW Mine.hd.view_39 []) mean mg mb h₀) (hk : cs.kind = .function)
   (hlim : 1 ≤ lim ∧ lim ≤ 400) (R : RowsIn rest lr as) (hok : ∀ p ∈ as, RowOk p.2) (hlen : as.length ≤ 100)
   (hd : dp + 4 < recursionLimit) (hu : un + 32 < cLine) 
   (ret : ∀ h' tk', Fr h₀ L h' m → News h₀ L h' rest → Q (.bool true) { s with heap := h', toks := tk' }) :
   wpAny (model PySem.Challenge.rw_tg0010_01.row.prog w) (ktrTop dp un gd cn cs L a ccd cl outer) (call (.ref 227) [.int lim tl, .ref lr]) Q E s := by
  obtain ⟨⟨n, hlr⟩, hrows⟩ := R
  w_top off; revert X; k_fill; intro X
  refine wpAny_call ?_
  k_dflt k_enter
  k_steps
  refine stop_out ?_
  refine hist_c (by assumption) (by assumption) (by assumption) (by assumption) (by assumption) (by rfl) hlim (by ktr_room) (by ktr_units) ?_
  intro x d sc o t1 t2 h1 tk1 F1 N1 l1 l2 l3 Tb
  k_steps
  refine stop_out ?_
  refine hist_c (by assumption) (by assumption) (by assumption) (by assumption) (by assumption) (by rfl) hlim (by ktr_room) (by ktr_units) ?_
  intro x2 d2 sc2 o2 t3 t4 h2 tk2 F2 N2 m1 m2 m3 Tb2
  k_steps
  refine stop_out ?_
  rename News _ _ _ _ => N3
  have hscd2 : sc < d2 := m1 (sc, o) (.head _)
  have hrd2 : ∀ p ∈ rest, p.1 < d2 := fun p hp => m1 p (.tail _ (.tail _ (.tail _ hp)))
  -- what stays throughout
  obtain ⟨nw, hnw⟩ : ∃ nw, nw = (x2, instObj 105 d2) :: (d2, histD w t3 t4 tl lim sc2) :: (x, instObj 105 d) :: (d, histD w t1 t2 tl lim sc) :: rest := ⟨_, rfl⟩
  have hsub : ∀ p ∈ rest, p ∈ nw := fun p hp => by rw [hnw]; exact .tail _ (.tail _ (.tail _ (.tail _ hp)))
  have hx2 : (x2, instObj 105 d2) ∈ nw := by rw [hnw]; exact .head _
  have hd2 : (d2, histD w t3 t4 tl lim sc2) ∈ nw := by rw [hnw]; exact .tail _ (.head _)
  have hx1 : (x, instObj 105 d) ∈ nw := by rw [hnw]; exact .tail _ (.tail _ (.head _))
  have hd1 : (d, histD w t1 t2 tl lim sc) ∈ nw := by rw [hnw]; exact .tail _ (.tail _ (.tail _ (.head _)))
  have H1 : HistIn w nw x d sc lim := ⟨t1, t2, tl, hx1, hd1⟩
  have H2 : HistIn w nw x2 d2 sc2 lim := ⟨t3, t4, tl, hx2, hd2⟩
  have off1 : ∀ p ∈ nw, p.1 ≠ sc := by
    intro p hp
    rw [hnw] at hp
    simp only [List.mem_cons] at hp
    rcases hp with h | h | h | h | h
    · subst h; exact Nat.ne_of_gt (Nat.lt_trans hscd2 m2)
    · subst h; exact Nat.ne_of_gt hscd2
    · subst h; exact Nat.ne_of_lt l3
    · subst h; exact Nat.ne_of_lt (Nat.lt_trans l2 l3)
    · exact Nat.ne_of_lt (Nat.lt_trans (l1 p h) (Nat.lt_trans l2 l3))
  have off2 : ∀ p ∈ nw, p.1 ≠ sc2 := by
    intro p hp
    rw [hnw] at hp
    simp only [List.mem_cons] at hp
    rcases hp with h | h | h | h | h
    · subst h; exact Nat.ne_of_lt m3
    · subst h; exact Nat.ne_of_lt (Nat.lt_trans m2 m3)
    · subst h; exact Nat.ne_of_lt (Nat.lt_trans (Nat.lt_trans l3 hscd2) (Nat.lt_trans m2 m3))
    · subst h; exact Nat.ne_of_lt (Nat.lt_trans (Nat.lt_trans (Nat.lt_trans l2 l3) hscd2) (Nat.lt_trans m2 m3))
    · exact Nat.ne_of_lt (Nat.lt_trans (hrd2 p h) (Nat.lt_trans m2 m3))
  have hss : sc ≠ sc2 := Nat.ne_of_lt (Nat.lt_trans hscd2 (Nat.lt_trans m2 m3))
  have N4 : News _ _ _ ((sc2, o2) :: (sc, o) :: nw) := news_sub N3 (fun p hp => by
    rw [hnw] at hp
    simp only [List.mem_cons] at hp ⊢
    rcases hp with h | h | h | h | h | h | h <;> simp [h])
  clear N3
  refine update_t (by assumption) (by assumption) (by assumption) N4 (by assumption) (by rfl) (H2.sub fun p hp => .tail _ hp) hlim (by omega) (by omega) (by omega) Tb2 (tabOk_nil hlim.1) (by simp) (fun p hp => by
    rcases List.mem_cons.mp hp with h | h
    · subst h; exact hss
    · exact off2 p h) (by ktr_room) (by ktr_units) ?_
  intro o2' h3 tk3 F5 N5 Tb2'
  clear N4
  k_steps
  refine stop_out ?_
  refine For_turns (by assumption) ?_
  k_steps
  refine stop_out ?_
  refine list_loop (fun p => Value.ref p.1) as rfl
    (fun I r m nws => ∃ pre o o2 c c2, as = pre ++ r ∧ m (Str.ofString "made") = some (.ref x) ∧ m (Str.ofString "above") = some (.ref x2) ∧ m (Str.ofString "limit") = some (.int lim tl) ∧ nws = (sc, o) :: (sc2, o2) :: nw ∧ Tab w sc o c ∧ Tab w sc2 o2 c2 ∧ TabOk lim c ∧ TabOk lim c2 ∧ c.length ≤ pre.length + 1 ∧ c2.length ≤ pre.length + 1 ∧ kdfLook c (hkey 0 5) 0 ≤ kdfLook c2 (hkey 0 5) 0 ∧ ∀ p ∈ nws, p.1 < I)
    rfl F5 (news_sub (l' := (sc, o) :: (sc2, o2') :: nw) N5 ?_) (.tail _ (.tail _ (hsub _ hlr))) rfl rfl (fun I hI => ⟨[], o, o2', [], _, rfl, rfl, rfl, rfl, rfl, Tb, Tb2', tabOk_nil hlim.1, (tabOk_nil hlim.1).put hlim.1 _ _ _, by simp, putS_len _ _ _ _ _, ?_, hI⟩) ?_ ?_ ?_
  · k_ownname
  · have := put_same lim [] 0 5 lim
    rw [this]
    have f := stepS_facts (lim := lim) (old := kdfLook [] (hkey 0 5) 0) (b := lim) hlim.1 (tabOk_nil hlim.1 _)
    show 0 ≤ _
    omega
  · rintro I r m nws ⟨pre, o, o2, c, c2, _, _, _, _, rfl, _⟩
    exact .tail _ (.tail _ (hsub _ hlr))
  · rintro I m nws hh tk ⟨pre, o, o2, c, c2, _, _, _, _, rfl, _⟩ F2 N2
    k_steps
    rename News _ _ _ _ => N9
    exact ret _ _ (by assumption) (news_sub N9 fun p hp => .tail _ (.tail _ (hsub p hp)))
  · rintro I y r m nws oI hh tk ⟨pre, o, o2, c, c2, has, hmade, habove, hlimit, rfl, Tb, Tb2, ok1, ok2, len1, len2, hle, hI⟩ hoI F2 N2
    obtain ⟨ta, tb, tc, nn, hrow⟩ := hrows y (by rw [has]; simp)
    have hT := News.isTup N2 (.tail _ (.tail _ (.tail _ (hsub _ hrow))))
    have F3 := fr_put3 F2 hmade habove hlimit
    clear F2
    have hy := hok y (by rw [has]; simp)
    have hlen2 : pre.length ≤ 100 := by rw [has] at hlen; simp at hlen; omega
    k_steps
    refine stop_out ?_
    refine get_v (rest := (I, oI) :: (sc, o) :: (sc2, o2) :: nw) (by assumption) (by assumption) (by assumption) (by assumption) (by assumption) (by rfl) (H1.sub fun p hp => .tail _ (.tail _ (.tail _ hp))) (.tail _ (.head _)) hy.1 hy.2.1 Tb (by ktr_room) (by ktr_units) ?_
    intro v1 tv1 h5 tk5 hv1 F6 N6
    k_steps
    refine stop_out ?_
    rename News _ _ _ _ => N7
    refine update_t (rest := (I, oI) :: (sc2, o2) :: nw) (by assumption) (by assumption) (by assumption) (news_sub N7 ?_) (by assumption) (by rfl) (H1.sub fun p hp => .tail _ (.tail _ hp)) hlim hy.1 hy.2.1 hy.2.2 Tb ok1 (by omega) ?_ (by ktr_room) (by ktr_units) ?_
    · k_ownname
    · intro p hp
      rcases List.mem_cons.mp hp with h | h
      · subst h; exact Nat.ne_of_gt (hI _ (.head _))
      rcases List.mem_cons.mp h with h | h
      · subst h; exact hss.symm
      · exact off1 p h
    intro o' h8 tk8 F8 N8 Tb'
    clear N7
    k_steps
    refine stop_out ?_
    rename News _ _ _ _ => N9
    refine update_t (rest := (I, oI) :: (sc, o') :: nw) (by assumption) (by assumption) (by assumption) (news_sub N9 ?_) (by assumption) (by rfl) (H2.sub fun p hp => .tail _ (.tail _ hp)) hlim hy.1 hy.2.1 hy.2.2 Tb2 ok2 (by omega) ?_ (by ktr_room) (by ktr_units) ?_
    · k_ownname
    · intro p hp
      rcases List.mem_cons.mp hp with h | h
      · subst h; exact Nat.ne_of_gt (hI _ (.tail _ (.head _)))
      rcases List.mem_cons.mp h with h | h
      · subst h; exact hss
      · exact off2 p h
    intro o2' h10 tk10 F10 N10 Tb2'
    clear N9
    k_steps
    refine stop_out ?_
    refine get_v (rest := (sc2, o2') :: (I, oI) :: (sc, o') :: nw) (by assumption) (by assumption) (by assumption) (by assumption) (by assumption) (by rfl) (H1.sub fun p hp => .tail _ (.tail _ (.tail _ hp))) (.tail _ (.tail _ (.head _))) hy.1 hy.2.1 Tb' (by ktr_room) (by ktr_units) ?_
    intro v2 tv2 h12 tk12 hv2 F12 N12
    have fa := stepS_facts (lim := lim) (old := v1) (b := y.2.2.2) hlim.1 (by rw [hv1]; exact ok1 _)
    rw [put_same, ← hv1] at hv2
    rw [← hv2] at fa
    obtain ⟨fa1, fa2, fa3, fa4, fa5⟩ := fa
    have ok1' := ok1.put hlim.1 y.2.1 y.2.2.1 y.2.2.2
    have ok2' := ok2.put hlim.1 y.2.1 y.2.2.1 y.2.2.2
    have hle' := above_step hlim.1 ok1 ok2 hle y.2.1 y.2.2.1 y.2.2.2
    k_steps
    all_goals try (exfalso; omega)
    all_goals (
      refine stop_out ?_
      refine get_v (rest := (sc2, o2') :: (I, oI) :: (sc, o') :: nw) (by assumption) (by assumption) (by assumption) (by assumption) (by assumption) (by rfl) (H2.sub fun p hp => .tail _ (.tail _ (.tail _ hp))) (.head _) (by omega) (by omega) Tb2' (by ktr_room) (by ktr_units) ?_
      intro v3 tv3 h14 tk14 hv3 F14 N14
      k_steps
      refine stop_out ?_
      refine get_v (rest := (sc2, o2') :: (I, oI) :: (sc, o') :: nw) (by assumption) (by assumption) (by assumption) (by assumption) (by assumption) (by rfl) (H1.sub fun p hp => .tail _ (.tail _ (.tail _ hp))) (.tail _ (.tail _ (.head _))) (by omega) (by omega) Tb' (by ktr_room) (by ktr_units) ?_
      intro v4 tv4 h16 tk16 hv4 F16 N16
      have hv34 : ¬ v3 < v4 := by rw [hv3, hv4]; omega
      k_steps
      refine ⟨_, _, _, (sc, o') :: (sc2, o2') :: nw, rfl, F16, news_sub N16 ?_, ?_, pre ++ [y], o', o2', _, _, by rw [has]; simp, rfl, rfl, rfl, rfl, Tb', Tb2', ok1', ok2', ?_, ?_, hle', ?_⟩
      · k_ownname
      · intro p hp q hq
        rw [List.mem_singleton.mp hq]
        rcases List.mem_cons.mp hp with h | h
        · subst h; exact Nat.ne_of_lt (hI (sc, o) (.head _))
        rcases List.mem_cons.mp h with h | h
        · subst h; exact Nat.ne_of_lt (hI (sc2, o2) (.tail _ (.head _)))
        · exact Nat.ne_of_lt (hI _ (.tail _ (.tail _ h)))
      · have := putS_len lim c y.2.1 y.2.2.1 y.2.2.2
        rw [List.length_append, List.length_singleton]; omega
      · have := putS_len lim c2 y.2.1 y.2.2.1 y.2.2.2
        rw [List.length_append, List.length_singleton]; omega
      · intro p hp
        rcases List.mem_cons.mp hp with h | h
        · subst h; exact hI (sc, o) (.head _)
        rcases List.mem_cons.mp h with h | h
        · subst h; exact hI (sc2, o2) (.tail _ (.head _))
        · exact hI _ (.tail _ (.tail _ h)))
end

local macro_rules | `(tactic| walk_at "exec For Name Attribute cons nil") => `(tactic| (k_here; refine stop_ ?_))
section
variable {prog : Program} {w : World} {A : Around} {E : Value → Shared → Prop} {s : Shared} {env : Env} {h₀ : Heap} {target : PySem.Expr} {body : List Stmt} {Q : Flow → Shared → Prop}
theorem dict_loop {d : Addr} {od : Obj} {c : List (Int × Int)} {m₀ : Str → Option Value} {news : List (Addr × Obj)}
    (J : Addr → List (Int × Int) → (Str → Option Value) → List (Addr × Obj) → Prop)
    (hh : A.handled = none) (F : Fr h₀ env.locals s.heap m₀) (N : News h₀ env.locals s.heap news) (hm : (d, od) ∈ news) (T : TabAt (PySem.intKind prog w) PyData.int s.heap d (kdfD c))
    (h0 : ∀ I, (∀ p ∈ news, p.1 < I) → J I c m₀ news)
    (hkeep : ∀ I r m nw, J I r m nw → (d, od) ∈ nw)
    (done : ∀ I m nw h tk, J I [] m nw → Fr h₀ env.locals h m → News h₀ env.locals h nw → Q .next { s with heap := h, toks := tk })
    (step : ∀ I x r m nw o t h tk, J I (x :: r) m nw → o.cls = .type "dict_keyiterator" → Fr h₀ env.locals h m → News h₀ env.locals h ((I, o) :: nw) →
      wpAny (model prog w) A (assign target env (.int x.1 t)) (fun _ s₂ => wpAny (model prog w) A (execs body env) (UnrPostW h₀ env.locals { s with heap := h, toks := tk } [(I, o)] (fun m' n' => J I r m' n') Q) E s₂) E { s with heap := h, toks := tk }) :
    wpAny (model prog w) A (pyIter (.ref d)) (fun it s₂ => TurnsAt prog w A h₀ env target body Q E it s₂) E s := by
  refine kti_keys (knd := PySem.intKind prog w) (enc := PyData.int) (xs := c.map fun p => Itm.tok fun t => .int p.1 t) hh F N T hm (fun _ _ h => Value.isInt_shape h) (by unfold kdfD; rw [List.map_map]; rfl) fun I hI => ?_
  have key : ∀ (r : List (Int × Int)) m nw, J I r m nw → ItemsRest prog w A E h₀ env target body Q s [(I, "dict_keyiterator")] [(d, od)] (r.map fun p => Itm.tok fun t => .int p.1 t) m nw := by
    intro r
    induction r with
    | nil => intro m nw hJ h tk F N; exact done I m nw h tk hJ F N
    | cons x r ih =>
      intro m nw hJ v h tk e F
      obtain ⟨t, rfl⟩ := e
      intro o ho N
      refine wpAny_mono (step I x r m nw o t h tk hJ ho F N) (fun _ s₂ h₂ => wpAny_mono h₂ (fun f s₃ p => ?_) fun _ _ e => e) fun _ _ e => e
      exact unrPostW_mono p fun m' n' q => ⟨And.intro (hkeep I r m' n' q) trivial, ih m' n' q⟩
  exact key c m₀ news (h0 I hI)
end
def ageS (c : List (Int × Int)) (k : List (Int × Int)) (at_ : Int) : List (Int × Int) := if scl (kdfLook c at_ 0) 1 2 = 0 then k else kdfPut k at_ (scl (kdfLook c at_ 0) 1 2)
def ageC (c : List (Int × Int)) : List (Int × Int) := (c.map (·.1)).foldl (ageS c) []
theorem ageS_len (c : List (Int × Int)) : ∀ (ks : List Int) (k : List (Int × Int)), (ks.foldl (ageS c) k).length ≤ k.length + ks.length
  | [], k => Nat.le_refl _
  | a :: ks, k => by
    refine Nat.le_trans (ageS_len c ks _) ?_
    have : (ageS c k a).length ≤ k.length + 1 := by
      unfold ageS
      split
      · omega
      · exact kdfPut_len _ _ _
    simp; omega

section
variable {w : World} {mean : ExcName → Option Value} {mg mb : Str → Option Value} {dp un : Nat} {gd : Option (List Code)} {cn : Str} {cs : Scope} {a : Addr} {ccd : Value} {cl : List (Str × Addr)} {outer : List Env} {A₀ : Around} {base h₀ : Heap} {L : Addr} {m : Str → Option Value} {s : Shared} {Q E : Value → Shared → Prop} {news : List (Addr × Obj)}
set_option maxHeartbeats 4000000 in
theorem age_c {x d sc : Addr} {t1 t2 tl : Tok} {o : Obj} {c : List (Int × Int)} {lim : Int} {rest : List (Addr × Obj)}
   (B : Below A₀ base outer h₀) (F : Fr h₀ L s.heap m) (X : (Mine.hd.heap_1 w.params).In h₀) 
   (N : News h₀ L s.heap ((d, histD w t1 t2 tl lim sc) :: rest))
   (T : Top Mine.hd.view_39 (looseW Mine.hd.view_39 []) mean mg mb h₀) (hk : cs.kind = .function)
   (hx : (x, instObj 105 d) ∈ rest) (hm0 : (sc, o) ∈ rest) (Tb : Tab w sc o c) (hok : ∀ k, -1000 ≤ kdfLook c k 0 ∧ kdfLook c k 0 ≤ 1000) (hlen : c.length ≤ 1000)
   (hoff : ∀ p ∈ rest, p.1 ≠ d)
   (hd : dp + 2 < recursionLimit) (hu : un + 16 < cLine) 
   (ret : ∀ (kp : Addr) ok h' tk', Fr h₀ L h' m → News h₀ L h' ((d, histD w t1 t2 tl lim kp) :: (kp, ok) :: rest) → (∀ p ∈ rest, p.1 < kp) → (@LT.lt Nat _ d kp) → Tab w kp ok (ageC c) → Q .none { s with heap := h', toks := tk' }) :
   wpAny (model PySem.Challenge.rw_tg0010_01.row.prog w) (ktrTop dp un gd cn cs L a ccd cl outer) (call (.ref 102) [.ref x]) Q E s := by
  have Tb1 := Tb
  obtain ⟨hlo, kvs, hdk, hf⟩ := Tb1
  w_top off; revert X; k_fill; intro X
  refine wpAny_call ?_
  k_dflt k_enter
  k_steps
  refine stop_out ?_
  rename_i kp hhk ok lo1 hs1 fs1 hi1 fi1 l10 hh1 F1 N1
  refine For_turns (by assumption) ?_
  k_steps
  refine stop_out ?_
  have hkd : kp ≠ d := Nat.ne_of_gt l10.1
  have hkr : ∀ p ∈ rest, p.1 < kp := kst_ltOf l10.2
  have hTab0 : TabAt (PySem.intKind _ _) PyData.int _ sc (kdfD c) := TabAt.ofNews N1 (.tail _ (.tail _ hm0)) hlo hdk hf
  refine dict_loop (c := c)
    (fun I r m nw => ∃ pre ok, c = pre ++ r ∧ m (Str.ofString "self") = some (.ref x) ∧ m (Str.ofString "kept") = some (.ref kp) ∧ nw = (kp, ok) :: (d, histD w t1 t2 tl lim sc) :: rest ∧ Tab w kp ok ((pre.map (·.1)).foldl (ageS c) []) ∧ ∀ p ∈ nw, p.1 < I)
    rfl F1 N1 (.tail _ (.tail _ hm0)) hTab0 (fun I hI => ⟨[], ok, rfl, rfl, rfl, rfl, ⟨lo1, [], hi1, fi1⟩, hI⟩) ?_ ?_ ?_
  · rintro I r m nw ⟨pre, ok, _, _, _, rfl, _⟩
    exact .tail _ (.tail _ hm0)
  · rintro I m nw hh tk ⟨pre, ok, hc, hself, hkept, rfl, Tbk, _⟩ F2 N2
    have F3 := fr_put2 F2 hself hkept
    clear F2
    have hc' : pre = c := by rw [hc]; simp
    subst hc'
    k_steps
    rename News _ _ _ _ => N9
    exact ret kp ok _ _ (by assumption) (news_sub N9 (by k_ownname)) hkr l10.1 Tbk
  · rintro I y r m nw oI t hh tk ⟨pre, ok, hc, hself, hkept, rfl, Tbk, hI⟩ hoI F2 N2
    have F3 := fr_put2 F2 hself hkept
    clear F2
    have hhas : kdfHas c y.1 = true := List.any_eq_true.mpr ⟨y, by rw [hc]; simp, decide_eq_true rfl⟩
    have hlk := kdfD_item hhas
    have hb := hok y.1
    have hTk := Tbk
    obtain ⟨hlok, kvk, hdkk, hfk⟩ := hTk
    have hlen2 : ((pre.map (·.1)).foldl (ageS c) []).length ≤ 1000 := by
      refine Nat.le_trans (ageS_len c _ []) ?_
      have := congrArg List.length hc
      simp at this ⊢
      omega
    k_steps
    refine stop_out ?_
    refine scale_c (by assumption) (by assumption) (by assumption) (by assumption) (by assumption) (by rfl) hb (by omega) (by omega) (by ktr_room) (by ktr_units) ?_
    intro t5 h5 tk5 F5 N5
    have hIk : (@Ne Nat I kp) := Nat.ne_of_gt (hI (kp, ok) (.head _))
    have hdk9 : (@Ne Nat d kp) := Nat.ne_of_lt l10.1
    have hrk9 : ∀ p ∈ rest, p.1 ≠ kp := fun p hp => Nat.ne_of_lt (hkr p hp)
    have hIall : ∀ ok' p, p ∈ (kp, ok') :: (d, histD w t1 t2 tl lim sc) :: rest → p.1 < I := fun ok' p hp => by
      rcases List.mem_cons.mp hp with h | h
      · subst h; exact hI (kp, ok) (.head _)
      · exact hI p (.tail _ h)
    have hne9 : ∀ ok' p, p ∈ (kp, ok') :: (d, histD w t1 t2 tl lim sc) :: rest → ∀ q ∈ [(I, oI)], p.1 ≠ q.1 := fun ok' p hp q hq => by
      rw [List.mem_singleton.mp hq]
      exact Nat.ne_of_lt (hIall ok' p hp)
    k_steps
    · rename (scl _ 1 2 ≠ 0) => hnz
      rename News _ _ _ _ => N9
      rename FlatPairs PyData.int _ (kdfD (kdfPut _ _ _)) => hf9
      refine ⟨_, _, _, (kp, _) :: (d, histD w t1 t2 tl lim sc) :: rest, rfl, by assumption, news_sub N9 ?_, hne9 _, pre ++ [y], _, by rw [hc]; simp, rfl, rfl, rfl, ⟨hlok, _, by assumption, ?_⟩, hIall _⟩
      · intro p hp; simpa using hp
      · rw [List.map_append, List.foldl_append]
        show FlatPairs PyData.int _ (kdfD (ageS c _ y.1))
        unfold ageS
        rw [if_neg hnz]
        exact hf9
    · rename (scl _ 1 2 = 0) => hz
      rename News _ _ _ _ => N9
      refine ⟨_, _, _, (kp, ok) :: (d, histD w t1 t2 tl lim sc) :: rest, rfl, by assumption, news_sub N9 ?_, hne9 _, pre ++ [y], ok, by rw [hc]; simp, rfl, rfl, rfl, ?_, hIall _⟩
      · intro p hp; simpa using hp
      · rw [List.map_append, List.foldl_append]
        show Tab w kp ok (ageS c _ y.1)
        unfold ageS
        rw [if_pos hz]
        exact Tbk
end

section
variable {prog : Program} {w : World} {A : Around} {E : Value → Shared → Prop} {s : Shared} {env : Env} {h₀ : Heap} {target : PySem.Expr} {body : List Stmt} {Q : Flow → Shared → Prop}
theorem items_pre {α : Type} (xs : List α) (itm : α → Itm) {ws : List (Addr × String)} {keep : List (Addr × Obj)} {m₀ : Str → Option Value} {news : List (Addr × Obj)}
    (J : List α → (Str → Option Value) → List (Addr × Obj) → Prop) (h0 : J [] m₀ news)
    (hkeep : ∀ pre m nw, J pre m nw → SubL keep nw)
    (done : ∀ m nw h tk, J xs m nw → Fr h₀ env.locals h m → News h₀ env.locals h nw → Q .next { s with heap := h, toks := tk })
    (step : ∀ pre y suf m nw v its h tk, xs = pre ++ y :: suf → J pre m nw → (itm y).Is v h → Objs ws its → Fr h₀ env.locals h m → News h₀ env.locals h (its ++ nw) →
      wpAny (model prog w) A (assign target env v) (fun _ s₂ => wpAny (model prog w) A (execs body env) (UnrPostW h₀ env.locals { s with heap := h, toks := tk } its (fun m' n' => J (pre ++ [y]) m' n') Q) E s₂) E { s with heap := h, toks := tk }) :
    ItemsRest prog w A E h₀ env target body Q s ws keep (xs.map itm) m₀ news := by
  have key : ∀ suf pre m nw, xs = pre ++ suf → J pre m nw → ItemsRest prog w A E h₀ env target body Q s ws keep (suf.map itm) m nw := by
    intro suf
    induction suf with
    | nil =>
      intro pre m nw hx hJ h tk F N
      rw [List.append_nil] at hx
      subst hx
      exact done m nw h tk hJ F N
    | cons y r ih =>
      intro pre m nw hx hJ v h tk e F
      have up : ∀ (k : List (Addr × Obj) → Prop) (ws : List (Addr × String)), (∀ its, Objs ws its → k its) → AllObj ws k := by
        intro k ws
        induction ws generalizing k with
        | nil => intro hk; exact hk [] trivial
        | cons w ws ih =>
          intro hk o ho
          exact ih _ fun its hi => hk ((w.1, o) :: its) ⟨⟨rfl, ho⟩, hi⟩
      refine up _ _ fun its hits N => ?_
      refine wpAny_mono (step pre y r m nw v its h tk hx hJ e hits F N) (fun _ s₂ h₂ => wpAny_mono h₂ (fun f s₃ p => ?_) fun _ _ e => e) fun _ _ e => e
      exact unrPostW_mono p fun m' n' q => ⟨hkeep _ m' n' q, ih (pre ++ [y]) m' n' (by rw [hx]; simp) q⟩
  exact key xs [] m₀ news rfl h0

theorem range_loop {x : Str} {px : Pos} {r : Addr} {b : Int} {t u v : Tok} {n : Nat} {m₀ : Str → Option Value} {news : List (Addr × Obj)}
    (J : Addr → List Nat → (Str → Option Value) → List (Addr × Obj) → Prop)
    (hh : A.handled = none) (F : Fr h₀ env.locals s.heap m₀) (N : News h₀ env.locals s.heap news)
    (hr : IsRange s.heap r 0 b 1 t u v) (hsm : Builtin.Range.small 0 b 1 = true) (hn : Builtin.Range.rangeSize 0 b 1 = ((n : Nat) : Int))
    (h0 : ∀ I, (∀ p ∈ news, p.1 < I) → J I [] m₀ news)
    (done : ∀ I m nw h tk, J I (List.range n) m nw → Fr h₀ env.locals h m → News h₀ env.locals h nw → Q .next { s with heap := h, toks := tk })
    (step : ∀ I pre (y : Nat) suf m nw o t h tk, List.range n = pre ++ y :: suf → J I pre m nw → o.cls = .type "range_iterator" → Fr h₀ env.locals h m → News h₀ env.locals h ((I, o) :: nw) →
      wpAny (model prog w) A (assign (.Name x px) env (.int (y : Int) t)) (fun _ s₂ => wpAny (model prog w) A (execs body env) (UnrPostW h₀ env.locals { s with heap := h, toks := tk } [(I, o)] (fun m' n' => J I (pre ++ [y]) m' n') Q) E s₂) E { s with heap := h, toks := tk }) :
    wpAny (model prog w) A (pyIter (.ref r)) (fun it s₂ => TurnsAt prog w A h₀ env (.Name x px) body Q E it s₂) E s := by
  refine wpAny_pyIter_range hr hsm ?_
  have W := (Walks.range (prog := prog) (w := w) hh s.heap.objs.size 0 1 n).bound
  have h1 := h0 s.heap.objs.size fun p hp => Heap.lt_size (N p hp).1
  refine ktu_core (tk0 := s.toks) (ws := [(s.heap.objs.size, "range_iterator")]) (keep := []) (KTurns.ofWalks W fun i v s Q E st q => wpAny_pure q) (xs := rangeItms n) (by simp [rangeItms]) (fun i v h hp => ?_) (fun i h st => ?_) (fun b hb => ?_) (fun b hb => by simpa using hb) (fun b hb => .inl (by simpa using hb)) ?_ (fun p hp hI => ?_) ?_ (F.push _) (fun p hp => ⟨Heap.get?_push_of_some _ (N p hp).1, (N p hp).2⟩) trivial
    (items_pre (List.range n) _ (J s.heap.objs.size) h1 (fun _ _ _ _ => trivial) (done _) ?_)
  · obtain ⟨hi, t, rfl⟩ := hp
    refine ⟨.tok fun t => .int (i : Int) t, by simp [rangeItms, hi], t, ?_⟩
    show Value.int (0 + (i : Int) * 1) t = Value.int (i : Int) t
    rw [Int.mul_one, Int.zero_add]
  · exact ⟨[(s.heap.objs.size, _)], ⟨⟨rfl, rfl⟩, trivial⟩, fun p hp => by rw [List.mem_singleton.mp hp]; exact st⟩
  · have hb' : b = s.heap.objs.size := by simpa using hb
    rw [hb']
    exact ⟨List.mem_cons_self .., next_is_new F⟩
  · intro hI
    exact absurd F.ns.lt ((List.mem_singleton.mp hI) ▸ Nat.lt_irrefl _)
  · exact absurd (Heap.lt_size (N p hp).1) ((List.mem_singleton.mp hI) ▸ Nat.lt_irrefl _)
  · show IsRangeIter _ _ _ _ _
    rw [hn]
    simpa using Heap.get?_push_size _ rfl
  · rintro pre y suf m nw v its h tk hx hJ ⟨t, rfl⟩ hits F N
    obtain ⟨o, rfl, ho⟩ := objs_one hits
    exact step _ pre y suf m nw o t h tk hx hJ ho F N
end

theorem news_ex {h₀ : Heap} {L : Addr} {h : Heap} {l : List (Addr × Obj)} (N : News h₀ L h l) : ∃ R, R = l ∧ News h₀ L h R := ⟨l, rfl, N⟩
theorem scl_half (v : Int) : scl v 1 2 = if v < 0 then -((-v) / 2) else v / 2 := by
  unfold scl
  rw [Int.mul_one, Int.mul_one, Int.fdiv_eq_ediv_of_nonneg _ (by omega), Int.fdiv_eq_ediv_of_nonneg _ (by omega)]
theorem look_nil (j : Int) : kdfLook [] j 0 = 0 := rfl
theorem look_not {c : List (Int × Int)} {j : Int} (h : ∀ p ∈ c, p.1 ≠ j) : kdfLook c j 0 = 0 := by
  unfold kdfLook
  have : c.find? (fun p => decide (p.1 = j)) = none := List.find?_eq_none.mpr fun q hq => by simp [h q hq]
  rw [this]; rfl
theorem look_ageS (c : List (Int × Int)) : ∀ (ks : List Int) (k : List (Int × Int)), (∀ j, kdfLook k j 0 = 0 ∨ kdfLook k j 0 = scl (kdfLook c j 0) 1 2) →
    ∀ j, kdfLook (ks.foldl (ageS c) k) j 0 = if j ∈ ks then scl (kdfLook c j 0) 1 2 else kdfLook k j 0
  | [], k, _, j => by simp
  | a :: ks, k, h, j => by
    have hs : ∀ j, kdfLook (ageS c k a) j 0 = if j = a then scl (kdfLook c j 0) 1 2 else kdfLook k j 0 := by
      intro j
      unfold ageS
      by_cases hz : scl (kdfLook c a 0) 1 2 = 0
      · rw [if_pos hz]
        by_cases hj : j = a
        · subst hj
          rw [if_pos rfl, hz]
          rcases h j with e | e
          · exact e
          · rw [e, hz]
        · rw [if_neg hj]
      · rw [if_neg hz, kdfLook_put]
        by_cases hj : j = a
        · subst hj; rfl
        · rw [if_neg hj, if_neg hj]
    rw [List.foldl_cons, look_ageS c ks (ageS c k a) (fun j => by
      rw [hs]
      by_cases hj : j = a
      · rw [if_pos hj]; exact .inr rfl
      · rw [if_neg hj]; exact h j) j, hs]
    by_cases h1 : j ∈ ks
    · simp [h1]
    · by_cases h2 : j = a
      · subst h2; simp
      · simp [h1, h2]
theorem look_age (c : List (Int × Int)) (j : Int) : kdfLook (ageC c) j 0 = scl (kdfLook c j 0) 1 2 := by
  unfold ageC
  rw [look_ageS c _ [] (fun j => .inl rfl)]
  by_cases h : j ∈ c.map (·.1)
  · rw [if_pos h]
  · rw [if_neg h, look_nil, look_not (c := c) fun p hp e => h (List.mem_map.mpr ⟨p, hp, e⟩)]
    rfl
theorem age_nil {c : List (Int × Int)} (h : ∀ j, scl (kdfLook c j 0) 1 2 = 0) : ageC c = [] := by
  unfold ageC
  have : ∀ (ks : List Int), ks.foldl (ageS c) [] = [] := by
    intro ks
    induction ks with
    | nil => rfl
    | cons a ks ih =>
      rw [List.foldl_cons]
      have : ageS c [] a = [] := by unfold ageS; rw [if_pos (h a)]
      rw [this, ih]
  exact this _
def ageN : Nat → List (Int × Int) → List (Int × Int)
  | 0, c => c
  | n + 1, c => ageC (ageN n c)
theorem ageC_len (c : List (Int × Int)) : (ageC c).length ≤ c.length := by
  unfold ageC
  have := ageS_len c (c.map (·.1)) []
  simp at this
  exact this
theorem ageN_len (c : List (Int × Int)) : ∀ n, (ageN n c).length ≤ c.length
  | 0 => Nat.le_refl _
  | n + 1 => Nat.le_trans (ageC_len _) (ageN_len c n)
theorem ageC_bd {c : List (Int × Int)} {b : Int} (h : ∀ j, -b ≤ kdfLook c j 0 ∧ kdfLook c j 0 ≤ b) (j : Int) : -(b / 2) ≤ kdfLook (ageC c) j 0 ∧ kdfLook (ageC c) j 0 ≤ b / 2 := by
  rw [look_age, scl_half]
  have := h j
  split <;> omega
theorem ageN_bd {c : List (Int × Int)} (h : ∀ j, -400 ≤ kdfLook c j 0 ∧ kdfLook c j 0 ≤ 400) : ∀ n j, -400 ≤ kdfLook (ageN n c) j 0 ∧ kdfLook (ageN n c) j 0 ≤ 400
  | 0, j => h j
  | n + 1, j => by
    have := ageC_bd (ageN_bd h n) j
    have e : ageN (n + 1) c = ageC (ageN n c) := rfl
    rw [e]
    omega
theorem ageN_nil {c : List (Int × Int)} (h : ∀ j, -400 ≤ kdfLook c j 0 ∧ kdfLook c j 0 ≤ 400) : ageN 10 c = [] := by
  refine age_nil fun j => ?_
  have h1 := ageC_bd h
  have h2 := ageC_bd h1
  have h3 := ageC_bd h2
  have h4 := ageC_bd h3
  have h5 := ageC_bd h4
  have h6 := ageC_bd h5
  have h7 := ageC_bd h6
  have h8 := ageC_bd h7
  have h9 := ageC_bd h8 j
  have e : ageN 9 c = ageC (ageC (ageC (ageC (ageC (ageC (ageC (ageC (ageC c)))))))) := rfl
  rw [e, scl_half]
  split <;> omega
theorem half_law (v : Int) : (if v < 0 then -v else v) / 2 * (if 0 < v then 1 else -1) = scl v 1 2 := by
  rw [scl_half]
  by_cases h : v < 0
  · rw [if_pos h, if_neg (by omega), if_pos h]; omega
  · rw [if_neg h]
    rw [if_neg h]
    by_cases h0 : 0 < v
    · rw [if_pos h0]; omega
    · rw [if_neg h0]; omega

local macro_rules | `(tactic| walk_at "exec For Name Call cons nil") => `(tactic| (k_here; refine stop_ ?_))
local macro_rules | `(tactic| walk_at "exec Assign cons ListComp") => `(tactic| (k_here; refine stop_ ?_))

section
variable {w : World} {mean : ExcName → Option Value} {mg mb : Str → Option Value} {dp un : Nat} {gd : Option (List Code)} {cn : Str} {cs : Scope} {a : Addr} {ccd : Value} {cl : List (Str × Addr)} {outer : List Env} {A₀ : Around} {base h₀ : Heap} {L : Addr} {m : Str → Option Value} {s : Shared} {Q E : Value → Shared → Prop} {news : List (Addr × Obj)}
theorem ne_same {prog : Program} {A : Around} {a b : Addr} {vs us : List Value} {ns : List Int} (hl : s.heap.IsList a vs.toArray) (hi : IntsAre vs ns) (hl' : s.heap.IsList b us.toArray) (hi' : IntsAre us ns) (hu : A.units + 64 < cLine)
    (h : Q (.bool false) s) : wpAny (model prog w) A (compareOp .NotEq (.ref a) (.ref b)) Q E s := ne_intsK hl hi hl' hi' hu (by simpa using h)
theorem eq_same {prog : Program} {A : Around} {a b : Addr} {vs us : List Value} {ns : List Int} (hl : s.heap.IsList a vs.toArray) (hi : IntsAre vs ns) (hl' : s.heap.IsList b us.toArray) (hi' : IntsAre us ns) (hu : A.units + 64 < cLine)
    (h : Q (.bool true) s) : wpAny (model prog w) A (compareOp .Eq (.ref a) (.ref b)) Q E s := eq_intsK hl hi hl' hi' hu (by simpa using h)
theorem intsAre_snocE {vs : List Value} {ns : List Int} {n n' : Int} {t : Tok} (h : IntsAre vs ns) (e : n' = n) : IntsAre (vs ++ [.int n' t]) (ns ++ [n]) := e ▸ intsAre_snoc h
theorem ints4 (a b c d : Int) (t1 t2 t3 t4 : Tok) : IntsAre [.int a t1, .int b t2, .int c t3, .int d t4] [a, b, c, d] := .cons _ _ (.cons _ _ (.cons _ _ (.cons _ _ .nil)))

set_option maxHeartbeats 4000000 in
theorem aged_c {x d sc : Addr} {t1 t2 tl tl' : Tok} {o : Obj} {c : List (Int × Int)} {lim : Int} {rest : List (Addr × Obj)}
   (B : Below A₀ base outer h₀) (F : Fr h₀ L s.heap m) (X : (Mine.hd.heap_1 w.params).In h₀) 
   (N : News h₀ L s.heap ((d, histD w t1 t2 tl lim sc) :: rest))
   (T : Top Mine.hd.view_39 (looseW Mine.hd.view_39 []) mean mg mb h₀) (hk : cs.kind = .function)
   (hx : (x, instObj 105 d) ∈ rest) (hm0 : (sc, o) ∈ rest) (Tb : Tab w sc o c) (hlim : 1 ≤ lim ∧ lim ≤ 400) (hok : TabOk lim c) (hlen : c.length ≤ 1000)
   (hoff : ∀ p ∈ rest, p.1 ≠ d)
   (hd : dp + 4 < recursionLimit) (hu : un + 100 < cLine) 
   (ret : ∀ h' tk', Fr h₀ L h' m → News h₀ L h' rest → Q (.bool true) { s with heap := h', toks := tk' }) :
   wpAny (model PySem.Challenge.rw_tg0010_01.row.prog w) (ktrTop dp un gd cn cs L a ccd cl outer) (call (.ref 232) [.ref x, .int lim tl']) Q E s := by
  have H : HistIn w ((d, histD w t1 t2 tl lim sc) :: rest) x d sc lim := ⟨t1, t2, tl, .tail _ hx, .head _⟩
  have hb4 : ∀ j, -400 ≤ kdfLook c j 0 ∧ kdfLook c j 0 ≤ 400 := fun j => by have := hok j; omega
  w_top off; revert X; k_fill; intro X
  refine wpAny_call ?_
  k_dflt k_enter
  k_steps
  refine stop_out ?_
  refine scores_c (by assumption) (by assumption) (by assumption) (by assumption) (by assumption) (by rfl) H (.tail _ hm0) Tb (by ktr_room) (by ktr_units) ?_
  intro D u1 u2 u3 u4 h1 tk1 F1 N1 hD
  k_steps
  refine stop_out ?_
  rename News _ _ _ _ => N2
  obtain ⟨L4, hL4⟩ : ∃ L4, L4 = [(kdfLook c (hkey 0 5) 0, u1), (kdfLook c (hkey 0 6) 0, u2), (kdfLook c (hkey 1 5) 0, u3), (kdfLook c (hkey 1 6) 0, u4)] := ⟨_, rfl⟩
  refine age_c (t1 := t1) (t2 := t2) (tl := tl) (lim := lim) (rest := (D, lst [.int (kdfLook c (hkey 0 5) 0) u1, .int (kdfLook c (hkey 0 6) 0) u2, .int (kdfLook c (hkey 1 5) 0) u3, .int (kdfLook c (hkey 1 6) 0) u4]) :: rest) (by assumption) (by assumption) (by assumption) (news_sub N2 ?_) (by assumption) (by rfl) (.tail _ hx) (.tail _ hm0) Tb (fun k => by have := hb4 k; omega) hlen ?_ (by ktr_room) (by ktr_units) ?_
  · k_ownname
  · intro p hp
    rcases List.mem_cons.mp hp with h | h
    · subst h; exact Nat.ne_of_gt (hD _ (.head _))
    · exact hoff p h
  intro kp ok h3 tk3 F3 N3 hkp hdkp Tbk
  clear N2
  k_steps
  refine stop_out ?_
  refine scores_c (by assumption) (by assumption) (by assumption) (by assumption) (by assumption) (by rfl) ⟨t1, t2, tl, .tail _ (.tail _ (.tail _ hx)), .head _⟩ (.tail _ (.head _)) Tbk (by ktr_room) (by ktr_units) ?_
  intro D2 w1 w2 w3 w4 h5 tk5 F5 N5 hD2
  rw [look_age, look_age, look_age, look_age] at N5
  k_steps
  refine stop_out ?_
  rename News _ _ _ _ => N6
  obtain ⟨nw0, hnw0, N7⟩ := news_ex N6
  refine listComp_start (by assumption) (by with_unfolding_all rfl) (by decide) (by rfl) (by decide) ?_
  k_steps
  refine stop_out ?_
  refine lc_list (news := nw0) (ax := D) (lo := lst [.int (kdfLook c (hkey 0 5) 0) u1, .int (kdfLook c (hkey 0 6) 0) u2, .int (kdfLook c (hkey 1 5) 0) u3, .int (kdfLook c (hkey 1 6) 0) u4]) rfl (by assumption) N7 (by rw [hnw0]; exact .tail _ (.tail _ (.tail _ (.head _)))) rfl rfl ?_
  intro I hI C Dn h6 tk6 oC m₂ hCD hlow hws F7 hC N8 S
  have hIC := hws I (.head _)
  refine comp_pre (C := C) (D := Dn) [(kdfLook c (hkey 0 5) 0, u1), (kdfLook c (hkey 0 6) 0, u2), (kdfLook c (hkey 1 5) 0, u3), (kdfLook c (hkey 1 6) 0, u4)] (fun p : Int × Tok => .val (.int p.1 p.2)) (fun pre m₂ ys nw => nw = nw0 ∧ ys.length ≤ pre.length ∧ IntsAre ys (pre.map fun p => scl p.1 1 2)) S
    (turn_last1 _ _ _ _ _ _ _ _ _) emL_ok emL_mono ?_ F7 hC N8 ?_ ⟨rfl, Nat.le_refl _, .nil⟩ ?_ ?_ ?_
  · intro b hb
    rw [List.mem_singleton.mp hb]
    exact ⟨Nat.ne_of_lt hIC.1, Nat.ne_of_lt hIC.2⟩
  · exact off_of (fun b hb p hp => by rw [List.mem_singleton.mp hb]; exact Nat.ne_of_lt (hI p hp)) hlow
  · rintro r m₂ ys nw ⟨rfl, _⟩ p hp
    rw [List.mem_singleton.mp hp, hnw0]; exact .tail _ (.tail _ (.tail _ (.head _)))
  · rintro pre y suf m₂ ys nw v h tk its oC hxs ⟨rfl, hyl, hys⟩ hv hits F8 hC8 N9 off8
    subst hv
    obtain ⟨oI, rfl, hoI⟩ := objs_one hits
    refine cassign_name (its := [(I, oI)]) rfl rfl rfl F8 hC8 N9 ?_ ?_ ?_
    · intro b hb; rw [List.mem_singleton.mp hb]; exact Nat.ne_of_lt hIC.1
    · intro p hp
      rcases List.mem_cons.mp hp with rfl | hp
      · exact hCD.symm
      · exact (off8 p hp).2.1
    intro h9 tk9 oC9 m9 e9 r9 F9 hC9 N10
    simp only [List.cons_append, List.nil_append] at N10
    refine wpAny_tests_nil ?_
    rw [if_pos rfl]
    have hlx := congrArg List.length hxs
    simp at hlx
    have hyl9 : ys.length ≤ 16777216 := by omega
    refine cemit (ys := ys) hCD ?_ (line_of hyl9) ?_
    · intro b hb
      rw [List.mem_singleton.mp hb]
      exact ⟨Nat.ne_of_lt hIC.1, Nat.ne_of_lt hIC.2⟩
    clear F8 N9
    have hyb : -400 ≤ y.1 ∧ y.1 ≤ 400 := by
      have hy : y ∈ [(kdfLook c (hkey 0 5) 0, u1), (kdfLook c (hkey 0 6) 0, u2), (kdfLook c (hkey 1 5) 0, u3), (kdfLook c (hkey 1 6) 0, u4)] := by rw [hxs]; simp
      simp only [List.mem_cons, List.not_mem_nil, or_false] at hy
      rcases hy with rfl | rfl | rfl | rfl <;> exact hb4 _
    k_steps
    all_goals (
      refine ⟨_, _, oC9, m9, ys, nw, rfl, F9, hC9, N10, off8, rfl, rfl, ?_, ?_⟩
      · rw [List.length_append, List.length_append, List.length_singleton, List.length_singleton]; omega
      · rw [List.map_append]
        refine intsAre_snocE hys ?_
        show _ = scl y.1 1 2
        rw [scl_half, Int.fdiv_eq_ediv_of_nonneg _ (by omega)]
        split <;> omega)
  · rintro m₂ ys nw h tk oC ⟨rfl, hyl, hys⟩ F8 hC8 N9 off8
    obtain ⟨z1, z2, z3, z4, rfl⟩ := intsAre_four hys
    refine ⟨rfl, h, tk, oC, m₂, _, _, rfl, F8, hC8, N9, fun p hp => (off8 p hp).2.1, fun h'' F'' N'' => ?_⟩
    rw [hnw0] at N''
    clear N7 N8 N9 F7 F8
    k_steps
    rotate_left 1
    · rename (¬ (_ : List Int) = _) => hne9
      exact absurd rfl hne9
    refine stop_out ?_
    have hdI0 : ∀ p ∈ rest, p.1 ≠ d := hoff
    refine For_turns (by assumption) ?_
    k_steps
    refine stop_out ?_
    rename IsRange _ _ _ _ _ _ _ _ => hr
    rename News _ _ _ _ => N10
    refine range_loop (n := 9) (fun I pre m nw => ∃ kp ok, m (Str.ofString "made") = some (.ref x) ∧ nw = (d, histD w t1 t2 tl lim kp) :: (kp, ok) :: rest ∧ Tab w kp ok (ageN (pre.length + 1) c) ∧ kp ≠ d ∧ kp ≠ I ∧ d < I ∧ ∀ p ∈ rest, p.1 < I) rfl (by assumption) (news_sub (l' := (d, histD w t1 t2 tl lim kp) :: (kp, ok) :: rest) N10 ?_) hr (by decide) (by rfl) ?_ ?_ ?_
    · k_ownname
    · intro I2 hI2
      exact ⟨kp, ok, rfl, rfl, Tbk, Nat.ne_of_gt hdkp, Nat.ne_of_lt (hI2 (kp, ok) (.tail _ (.head _))), hI2 _ (.head _), fun p hp => hI2 p (.tail _ (.tail _ hp))⟩
    · rintro I2 m nw hh tk ⟨kp, ok, hmade, rfl, Tb9, hk1, hk2, hk3, hk4⟩ F11 N11
      have F12 := fr_put F11 hmade
      clear F11
      have e10 : ageN ((List.range 9).length + 1) c = [] := ageN_nil hb4
      rw [e10] at Tb9
      clear e10
      k_steps
      refine stop_out ?_
      refine scores_c (by assumption) (by assumption) (by assumption) (by assumption) (by assumption) (by rfl) ⟨t1, t2, tl, .tail _ (.tail _ hx), .head _⟩ (.tail _ (.head _)) Tb9 (by ktr_room) (by ktr_units) ?_
      intro D3 y1 y2 y3 y4 h12 tk12 F13 N13 hD3
      simp only [look_nil] at N13
      obtain ⟨hlo9, kv9, hdk9, hf9⟩ := Tb9
      k_steps
      rename ((_ == sysModules) = false) => lo10
      rename FlatPairs PyData.int [] [] => fi10
      rename Obj.IsDictOf (PySem.intKind _ _) _ [] => hi10
      rename News _ _ _ _ => N14
      have Ta9 : TabAt (PySem.intKind _ _) PyData.int _ kp (kdfD []) := TabAt.ofNews N14 (by k_mem) hlo9 hdk9 hf9
      have Tb10 : TabAt (PySem.intKind _ _) PyData.int _ _ (kdfD []) := TabAt.ofNews N14 (.head _) lo10 hi10 fi10
      refine' keq_tabs PyProof.V.same_int ?zq1 ?zq2 rfl ?zq3 KeqRows.nil ?_
      case zq1 => exact Ta9
      case zq2 => exact Tb10
      case zq3 =>
        show un + 3 < cLine
        omega
      clear Ta9 Tb10
      k_steps
      rename News _ _ _ _ => N15
      exact ret _ _ (by assumption) (news_sub N15 fun p hp => by simp only [List.mem_cons]; simp [hp])
    · rintro I2 pre y suf m nw oI t hh tk hpre ⟨kp, ok, hmade, rfl, Tb9, hk1, hk2, hk3, hk4⟩ hoI F11 N11
      have F12 := fr_put F11 hmade
      clear F11
      k_steps
      refine stop_out ?_
      rename News _ _ _ _ => N12
      refine age_c (t1 := t1) (t2 := t2) (tl := tl) (lim := lim) (rest := (I2, oI) :: (kp, ok) :: rest) (by assumption) (by assumption) (by assumption) (news_sub N12 ?_) (by assumption) (by rfl) (.tail _ (.tail _ hx)) (.tail _ (.head _)) Tb9 (fun k => by have := ageN_bd hb4 (pre.length + 1) k; omega) (Nat.le_trans (ageN_len c _) hlen) ?_ (by ktr_room) (by ktr_units) ?_
      · k_ownname
      · intro p hp
        rcases List.mem_cons.mp hp with h | h
        · subst h; exact Nat.ne_of_gt hk3
        rcases List.mem_cons.mp h with h | h
        · subst h; exact hk1
        · exact hoff p h
      intro kp' ok' h13 tk13 F13 N13 hkp' hdkp' Tb'
      clear N12
      k_steps
      refine ⟨_, _, _, (d, histD w t1 t2 tl lim kp') :: (kp', ok') :: rest, rfl, F13, news_sub N13 ?_, ?_, kp', ok', rfl, rfl, ?_, Nat.ne_of_gt hdkp', Nat.ne_of_gt (hkp' _ (.head _)), hk3, hk4⟩
      · k_ownname
      · intro p hp q hq
        rw [List.mem_singleton.mp hq]
        rcases List.mem_cons.mp hp with h | h
        · subst h; exact Nat.ne_of_lt hk3
        rcases List.mem_cons.mp h with h | h
        · subst h; exact Nat.ne_of_gt (hkp' (I2, oI) (.head _))
        · exact Nat.ne_of_lt (hk4 p h)
      · rw [List.length_append, List.length_singleton]; exact Tb'
end

local macro_rules | `(tactic| walk_at "exec For Name Name cons nil") => `(tactic| (k_here; refine stop_ ?_))
local macro_rules | `(tactic| walk_at "exec For Name Tuple cons nil") => `(tactic| (k_here; refine stop_ ?_))

section
variable {w : World} {mean : ExcName → Option Value} {mg mb : Str → Option Value} {dp un : Nat} {gd : Option (List Code)} {cn : Str} {cs : Scope} {a : Addr} {ccd : Value} {cl : List (Str × Addr)} {outer : List Env} {A₀ : Around} {base h₀ : Heap} {L : Addr} {m : Str → Option Value} {s : Shared} {Q E : Value → Shared → Prop} {news : List (Addr × Obj)}
theorem fr_puts {h₀ : Heap} {L : Addr} {h : Heap} {m : Str → Option Value} (ps : List (Str × Value)) (F : Fr h₀ L h m) (e : ∀ p ∈ ps, m p.1 = some p.2) : Fr h₀ L h (kstB m ps) := by
  have : kstB m ps = m := funext fun z => kstB_eq e fun _ => rfl
  rw [this]; exact F
/-- a cut's rewards: raise the one that cut, lower the others -/
def lowC (lim b best : Int) (c : List (Int × Int)) (ms : List Int) : List (Int × Int) := ms.foldl (fun c m => if m = best then c else putS lim c 0 m (-b)) c
def rewC (lim b best : Int) (c : List (Int × Int)) : List (Int × Int) := lowC lim b best (putS lim c 0 best b) [5, 6, 7]
theorem lowC_ok {lim b best : Int} (hl : 1 ≤ lim) : ∀ (ms : List Int) (c : List (Int × Int)), TabOk lim c → TabOk lim (lowC lim b best c ms)
  | [], _, h => h
  | m :: ms, c, h => by
    show TabOk lim (lowC lim b best (if m = best then c else putS lim c 0 m (-b)) ms)
    refine lowC_ok hl ms _ ?_
    split
    · exact h
    · exact h.put hl _ _ _
theorem lowC_len (lim b best : Int) : ∀ (ms : List Int) (c : List (Int × Int)), (lowC lim b best c ms).length ≤ c.length + ms.length
  | [], c => Nat.le_refl _
  | m :: ms, c => by
    show (lowC lim b best (if m = best then c else putS lim c 0 m (-b)) ms).length ≤ c.length + (ms.length + 1)
    refine Nat.le_trans (lowC_len lim b best ms _) ?_
    split
    · omega
    · have := putS_len lim c 0 m (-b); omega
theorem lowC_snoc (lim b best : Int) (c : List (Int × Int)) (ms : List Int) (m : Int) : lowC lim b best c (ms ++ [m]) = if m = best then lowC lim b best c ms else putS lim (lowC lim b best c ms) 0 m (-b) := by
  unfold lowC
  rw [List.foldl_append, List.foldl_cons, List.foldl_nil]
theorem rewC_ok {lim b best : Int} (hl : 1 ≤ lim) {c : List (Int × Int)} (h : TabOk lim c) : TabOk lim (rewC lim b best c) := lowC_ok hl _ _ (h.put hl _ _ _)
theorem rewC_len (lim b best : Int) (c : List (Int × Int)) : (rewC lim b best c).length ≤ c.length + 4 := by
  have h1 := lowC_len lim b best [5, 6, 7] (putS lim c 0 best b)
  have h2 := putS_len lim c 0 best b
  show (lowC lim b best (putS lim c 0 best b) [5, 6, 7]).length ≤ _
  simp at h1
  omega
def bonusOf (lim depth : Int) : Int := if 16 * depth * depth + 32 * depth < lim then 16 * depth * depth + 32 * depth else lim

theorem add_t {k kd f g : Addr} {tl tm : Tok} {ply move : Int} {of og : Obj} {ff gg : Int → Int} {rest : List (Addr × Obj)}
   (B : Below A₀ base outer h₀) (F : Fr h₀ L s.heap m) (X : (Mine.hd.heap_1 w.params).In h₀) 
   (N : News h₀ L s.heap ((f, of) :: (g, og) :: rest))
   (T : Top Mine.hd.view_39 (looseW Mine.hd.view_39 []) mean mg mb h₀) (hk : cs.kind = .function)
   (Kl : KillIn w rest k kd f g)
   (hply : 0 ≤ ply ∧ ply ≤ 3) (hfg : f ≠ g) (ho1 : ∀ p ∈ rest, p.1 ≠ f) (ho2 : ∀ p ∈ rest, p.1 ≠ g)
   (hf : KL of ff) (hg : KL og gg)
   (hd : dp + 1 < recursionLimit) (hu : un + 8 < cLine) 
   (ret : ∀ of' og' h' tk', Fr h₀ L h' m → News h₀ L h' ((f, of') :: (g, og') :: rest) → KL of' (addF ff ply move) → KL og' (addG ff gg ply move) → Q .none { s with heap := h', toks := tk' }) :
   wpAny (model PySem.Challenge.rw_tg0010_01.row.prog w) (ktrTop dp un gd cn cs L a ccd cl outer) (call (.ref 130) [.ref k, .int ply tl, .int move tm]) Q E s := by
  obtain ⟨t1, t2, t3, tp, hm1, hm2⟩ := Kl
  refine add_c (t1 := t1) (t2 := t2) (t3 := t3) (tp := tp) (k := k) (kd := kd) B F X (rest := rest) (news_sub N fun p hp => ?_) T hk hply ⟨hfg, (ho1 _ hm1).symm, (ho1 _ hm2).symm, (ho2 _ hm1).symm, (ho2 _ hm2).symm⟩ ho1 ho2 hf hg hd hu fun of' og' h' tk' F' N' a b => ret of' og' h' tk' F' (news_sub N' fun p hp => ?_) a b
  · simp only [List.mem_cons] at hp ⊢
    rcases hp with h | h | h | h | h
    · exact .inl h
    · exact .inr (.inl h)
    · exact .inr (.inr (h ▸ hm1))
    · exact .inr (.inr (h ▸ hm2))
    · exact .inr (.inr h)
  · simp only [List.mem_cons] at hp ⊢
    rcases hp with h | h | h <;> simp [h]

set_option maxHeartbeats 4000000 in
theorem reward_c {x d sc k kd f g tr : Addr} {o of og : Obj} {c : List (Int × Int)} {ff gg : Int → Int} {lim ply depth best : Int} {ts tp td tb v5 v6 v7 : Tok} {nl : Nat} {rest : List (Addr × Obj)}
   (B : Below A₀ base outer h₀) (F : Fr h₀ L s.heap m) (X : (Mine.hd.heap_1 w.params).In h₀) 
   (N : News h₀ L s.heap ((sc, o) :: (f, of) :: (g, og) :: rest))
   (T : Top Mine.hd.view_39 (looseW Mine.hd.view_39 []) mean mg mb h₀) (hk : cs.kind = .function)
   (H : HistIn w rest x d sc lim) (Kl : KillIn w rest k kd f g) (hl : (tr, W.listOf #[.int 5 v5, .int 6 v6, .int 7 v7] nl) ∈ rest)
   (Tb : Tab w sc o c) (hf : KL of ff) (hg : KL og gg) (hlim : 1 ≤ lim ∧ lim ≤ 400) (hok : TabOk lim c) (hlen : c.length ≤ 900)
   (hply : 0 ≤ ply ∧ ply ≤ 3) (hdep : 0 ≤ depth ∧ depth ≤ 6) (hbest : 5 ≤ best ∧ best ≤ 7) (hb0 : 0 ≤ bonusOf lim depth)
   (hsf : sc ≠ f) (hsg : sc ≠ g) (hfg : f ≠ g) (o1 : ∀ p ∈ rest, p.1 ≠ sc) (o2 : ∀ p ∈ rest, p.1 ≠ f) (o3 : ∀ p ∈ rest, p.1 ≠ g)
   (hd : dp + 4 < recursionLimit) (hu : un + 100 < cLine) 
   (ret : ∀ o' of' og' h' tk', Fr h₀ L h' m → News h₀ L h' ((sc, o') :: (f, of') :: (g, og') :: rest) → Tab w sc o' (rewC lim (bonusOf lim depth) best c) → KL of' (addF ff ply best) → KL og' (addG ff gg ply best) → Q .none { s with heap := h', toks := tk' }) :
   wpAny (model PySem.Challenge.rw_tg0010_01.row.prog w) (ktrTop dp un gd cn cs L a ccd cl outer) (call (.ref 193) [.ref x, .ref k, .int 0 ts, .int ply tp, .int depth td, .int best tb, .ref tr]) Q E s := by
  have Hh := H
  obtain ⟨ht1, ht2, htl, hm1, hm2⟩ := Hh
  have Hk := Kl
  obtain ⟨kt1, kt2, kt3, ktp, hm3, hm4⟩ := Hk
  w_top off; revert X; k_fill; intro X
  refine wpAny_call ?_
  k_dflt k_enter
  k_steps
  refine stop_out ?_
  refine add_t (rest := (sc, o) :: rest) (by assumption) (by assumption) (by assumption) (news_sub (by assumption) ?_) (by assumption) (by rfl) ⟨kt1, kt2, kt3, ktp, .tail _ hm3, .tail _ hm4⟩ hply hfg ?_ ?_ hf hg (by ktr_room) (by ktr_units) ?_
  · k_ownname
  · intro p hp
    rcases List.mem_cons.mp hp with h | h
    · subst h; exact hsf
    · exact o2 p h
  · intro p hp
    rcases List.mem_cons.mp hp with h | h
    · subst h; exact hsg
    · exact o3 p h
  intro of' og' h1 tk1 F1 N1 hf' hg'
  k_steps
  refine stop_out ?_
  refine bonus_c (tm := 0) (t1 := ht1) (t2 := ht2) (tl := htl) (lim := lim) (d := d) (sc := sc) (rest := (f, of') :: (g, og') :: (sc, o) :: rest) (by assumption) (by assumption) (by assumption) (by assumption) (by assumption) (by rfl) (.tail _ (.tail _ (.tail _ hm1))) (.tail _ (.tail _ (.tail _ hm2))) (by omega) hlim (by ktr_room) (by ktr_units) ?_
  intro tbn h2 tk2 F2 N2
  have hbn : (if 16 * depth * depth + 32 * depth < lim then 16 * depth * depth + 32 * depth else lim) = bonusOf lim depth := rfl
  rw [hbn]
  have hbl : bonusOf lim depth ≤ lim := by unfold bonusOf; split <;> omega
  generalize bonusOf lim depth = bn at *
  clear hbn
  k_steps
  refine stop_out ?_
  rename News _ _ _ _ => N3
  refine update_t (rest := (f, of') :: (g, og') :: rest) (by assumption) (by assumption) (by assumption) (news_sub N3 ?_) (by assumption) (by rfl) (H.sub fun p hp => .tail _ (.tail _ hp)) hlim (by omega) (by omega) (by omega) Tb hok (by omega) ?_ (by ktr_room) (by ktr_units) ?_
  · k_ownname
  · intro p hp
    rcases List.mem_cons.mp hp with h | h
    · subst h; exact hsf.symm
    rcases List.mem_cons.mp h with h | h
    · subst h; exact hsg.symm
    · exact o1 p h
  intro o' h4 tk4 F4 N4 Tb'
  clear N3
  have hok' := hok.put hlim.1 0 best bn
  have hlen' := putS_len lim c 0 best bn
  k_steps
  refine stop_out ?_
  refine For_turns (by assumption) ?_
  k_steps
  refine stop_out ?_
  rename News _ _ _ _ => N5
  refine list_loop (news := (sc, o') :: (f, of') :: (g, og') :: rest) (fun p : Int × Tok => .int p.1 p.2) [(5, v5), (6, v6), (7, v7)] rfl
    (fun I r m nw => ∃ (pre : List (Int × Tok)) (o' : Obj), [(5, v5), (6, v6), (7, v7)] = pre ++ r ∧ m (Str.ofString "history") = some (.ref x) ∧ m (Str.ofString "side") = some (.int 0 ts) ∧ m (Str.ofString "bonus") = some (.int bn tbn) ∧ m (Str.ofString "best") = some (.int best tb) ∧ nw = (sc, o') :: (f, of') :: (g, og') :: rest ∧ Tab w sc o' (lowC lim bn best (putS lim c 0 best bn) (pre.map (·.1))) ∧ ∀ p ∈ nw, p.1 ≠ I)
    rfl (by assumption) N5 (.tail _ (.tail _ (.tail _ hl))) rfl rfl (fun I hI => ⟨[], o', rfl, rfl, rfl, rfl, rfl, rfl, Tb', fun p hp => Nat.ne_of_lt (hI p hp)⟩) ?_ ?_ ?_
  · rintro I r m nw ⟨pre, o, _, _, _, _, _, rfl, _⟩
    exact .tail _ (.tail _ (.tail _ hl))
  · rintro I m nw h tk ⟨pre, o', has, e1, e2, e3, e4, rfl, Tb', _⟩ F2 N2
    have F3 := fr_puts [(Str.ofString "history", .ref x), (Str.ofString "side", .int 0 ts), (Str.ofString "bonus", .int bn tbn), (Str.ofString "best", .int best tb)] F2 (by simp [e1, e2, e3, e4])
    clear F2
    rw [List.append_nil] at has
    subst has
    k_steps
    exact ret _ _ _ _ _ (by assumption) (by assumption) Tb' hf' hg'
  · rintro I y r m nw oI hh tk ⟨pre, o', has, e1, e2, e3, e4, rfl, Tb', hI⟩ hoI F2 N2
    have F3 := fr_puts [(Str.ofString "history", .ref x), (Str.ofString "side", .int 0 ts), (Str.ofString "bonus", .int bn tbn), (Str.ofString "best", .int best tb)] F2 (by simp [e1, e2, e3, e4])
    clear F2
    have hy : 5 ≤ y.1 ∧ y.1 ≤ 7 := by
      have : y ∈ [((5 : Int), v5), (6, v6), (7, v7)] := by rw [has]; simp
      simp only [List.mem_cons, List.not_mem_nil, or_false] at this
      rcases this with h | h | h <;> subst h <;> simp
    have hpl : pre.length ≤ 3 := by
      have := congrArg List.length has
      simp at this; omega
    have hcl := lowC_len lim bn best (pre.map (·.1)) (putS lim c 0 best bn)
    rw [List.length_map] at hcl
    k_steps
    · rename ¬ (y.1 = best) => hne
      refine stop_out ?_
      rename News _ _ _ _ => N3
      refine update_t (rest := (I, oI) :: (f, of') :: (g, og') :: rest) (by assumption) (by assumption) (by assumption) (news_sub N3 ?_) (by assumption) (by rfl) (H.sub fun p hp => .tail _ (.tail _ (.tail _ hp))) hlim (by omega) (by omega) (by omega) Tb' (lowC_ok hlim.1 _ _ hok') (by omega) ?_ (by ktr_room) (by ktr_units) ?_
      · k_ownname
      · intro p hp
        rcases List.mem_cons.mp hp with h | h
        · subst h; exact (hI _ (.head _)).symm
        rcases List.mem_cons.mp h with h | h
        · subst h; exact hsf.symm
        rcases List.mem_cons.mp h with h | h
        · subst h; exact hsg.symm
        · exact o1 p h
      intro o'' h'' tk'' F4 N4 Tb''
      k_steps
      refine ⟨_, _, _, (sc, o'') :: (f, of') :: (g, og') :: rest, rfl, F4, news_sub N4 ?_, ?_, pre ++ [y], o'', by rw [has]; simp, rfl, rfl, rfl, rfl, rfl, ?_, ?_⟩
      · k_ownname
      · intro p hp q hq
        rw [List.mem_singleton.mp hq]
        rcases List.mem_cons.mp hp with h | h
        · subst h; exact hI (sc, o') (.head _)
        · exact hI p (.tail _ h)
      · rw [List.map_append, List.map_cons, List.map_nil, lowC_snoc, if_neg hne]; exact Tb''
      · intro p hp
        rcases List.mem_cons.mp hp with h | h
        · subst h; exact hI (sc, o') (.head _)
        · exact hI p (.tail _ h)
    · rename y.1 = best => he
      rename News _ _ _ _ => N4
      refine ⟨_, _, _, (sc, o') :: (f, of') :: (g, og') :: rest, rfl, by assumption, news_sub N4 ?_, ?_, pre ++ [y], o', by rw [has]; simp, rfl, rfl, rfl, rfl, rfl, ?_, hI⟩
      · k_ownname
      · intro p hp q hq
        rw [List.mem_singleton.mp hq]
        exact hI p hp
      · rw [List.map_append, List.map_cons, List.map_nil, lowC_snoc, if_pos he]; exact Tb'
end
end Mine
open PySem PySem.W PyProof.Rows PySem.Calls PyProof.V
namespace Mine
section
variable {prog : Program} {w : World} {A : Around} {E : Value → Shared → Prop} {s : Shared} {env : Env} {h₀ : Heap} {target : PySem.Expr} {body : List Stmt} {Q : Flow → Shared → Prop}
theorem tup_loop {α : Type} {ax : Addr} {lo : Obj} {vs : List Value} {n : Nat} {m₀ : Str → Option Value} {news : List (Addr × Obj)} (val : α → Value) (xs : List α) (hvs : vs = xs.map val)
    (J : Addr → List α → (Str → Option Value) → List (Addr × Obj) → Prop)
    (hh : A.handled = none) (F : Fr h₀ env.locals s.heap m₀) (N : News h₀ env.locals s.heap news) (hm : (ax, lo) ∈ news) (hc : lo.cls = .type "tuple") (hd : lo.data = .seq vs.toArray n)
    (h0 : ∀ I, (∀ p ∈ news, p.1 < I) → J I xs m₀ news)
    (hkeep : ∀ I r m nw, J I r m nw → (ax, lo) ∈ nw)
    (done : ∀ I m nw h tk, J I [] m nw → Fr h₀ env.locals h m → News h₀ env.locals h nw → Q .next { s with heap := h, toks := tk })
    (step : ∀ I x r m nw o h tk, J I (x :: r) m nw → o.cls = .type "tuple_iterator" → Fr h₀ env.locals h m → News h₀ env.locals h ((I, o) :: nw) →
      wpAny (model prog w) A (assign target env (val x)) (fun _ s₂ => wpAny (model prog w) A (execs body env) (UnrPostW h₀ env.locals { s with heap := h, toks := tk } [(I, o)] (fun m' n' => J I r m' n') Q) E s₂) E { s with heap := h, toks := tk }) :
    wpAny (model prog w) A (pyIter (.ref ax)) (fun it s₂ => TurnsAt prog w A h₀ env target body Q E it s₂) E s := by
  subst hvs
  refine iter_tupTurns hh F N hm hc hd fun I hI => ?_
  have key : ∀ r m nw, J I r m nw → ItemsRest prog w A E h₀ env target body Q s [(I, "tuple_iterator")] [(ax, lo)] ((r.map val).map .val) m nw := by
    intro r
    induction r with
    | nil => intro m nw hJ h tk F N; exact done I m nw h tk hJ F N
    | cons x r ih =>
      intro m nw hJ v h tk e F
      have e' : v = val x := e
      subst e'
      intro o ho N
      refine wpAny_mono (step I x r m nw o h tk hJ ho F N) (fun _ s₂ h₂ => wpAny_mono h₂ (fun f s₃ p => ?_) fun _ _ e => e) fun _ _ e => e
      exact unrPostW_mono p fun m' n' q => ⟨And.intro (hkeep I r m' n' q) trivial, ih m' n' q⟩
  exact key xs m₀ news (h0 I hI)

end
/-- a cut: its ply, and the move that made it -/
abbrev Ply := Int × Int
def kilF (ps : List Ply) : (Int → Int) × (Int → Int) := ps.foldl (fun st p => (addF st.1 p.1 p.2, addG st.1 st.2 p.1 p.2)) (fun _ => 0, fun _ => 0)
theorem kilF_snoc (ps : List Ply) (p : Ply) : kilF (ps ++ [p]) = (addF (kilF ps).1 p.1 p.2, addG (kilF ps).1 (kilF ps).2 p.1 p.2) := by
  unfold kilF; rw [List.foldl_append, List.foldl_cons, List.foldl_nil]
/-- the quiet moves that cut at one of the kept plies -/
def selP (y : Int) (ps : List Ply) : List Int := (ps.filter fun p => decide (p.1 = y ∧ y < 3)).map (·.2)
theorem selP_snoc (y : Int) (ps : List Ply) (p : Ply) : selP y (ps ++ [p]) = selP y ps ++ (if p.1 = y ∧ y < 3 then [p.2] else []) := by
  unfold selP
  rw [List.filter_append, List.map_append]
  by_cases h : p.1 = y ∧ y < 3
  · rw [if_pos h, List.filter_cons_of_pos (by simpa using h)]; rfl
  · rw [if_neg h, List.filter_cons_of_neg (by simpa using h)]; rfl
def dedI (zs : List Int) (is : List Nat) : List Int := (is.filter fun i => decide (i = 0 ∨ zs.getD i 0 ≠ zs.getD (i - 1) 0)).map fun i => zs.getD i 0
theorem dedI_snoc (zs : List Int) (is : List Nat) (i : Nat) : dedI zs (is ++ [i]) = dedI zs is ++ (if i = 0 ∨ zs.getD i 0 ≠ zs.getD (i - 1) 0 then [zs.getD i 0] else []) := by
  unfold dedI
  rw [List.filter_append, List.map_append]
  by_cases h : i = 0 ∨ zs.getD i 0 ≠ zs.getD (i - 1) 0
  · rw [if_pos h, List.filter_cons_of_pos (by simpa using h)]; rfl
  · rw [if_neg h, List.filter_cons_of_neg (by simpa using h)]; rfl
def dedT (b : Int) (zs : List Int) : List Int := ((List.range zs.length).filter fun i => decide (zs.getD i 0 ≠ (b :: zs).getD i 0)).map fun i => zs.getD i 0
theorem dedI_cons (b : Int) (zs : List Int) : dedI (b :: zs) (List.range (b :: zs).length) = b :: dedT b zs := by
  unfold dedI dedT
  rw [List.length_cons, List.range_succ_eq_map, List.filter_cons_of_pos (by simp), List.map_cons, List.filter_map, List.map_map]
  have e : ((fun i => decide (i = 0 ∨ (b :: zs).getD i 0 ≠ (b :: zs).getD (i - 1) 0)) ∘ Nat.succ) = fun i => decide (zs.getD i 0 ≠ (b :: zs).getD i 0) := funext fun i => by simp
  rw [e]
  rfl
theorem dedT_cons (b c : Int) (r : List Int) : dedT b (c :: r) = (if c = b then [] else [c]) ++ dedT c r := by
  unfold dedT
  rw [List.length_cons, List.range_succ_eq_map]
  by_cases h : c = b
  · rw [if_pos h, List.filter_cons_of_neg (by simp [h]), List.filter_map, List.map_map]
    rfl
  · rw [if_neg h, List.filter_cons_of_pos (by simp [h]), List.map_cons, List.filter_map, List.map_map]
    rfl
def top0 (zs : List Int) : Int := (dedI zs (List.range zs.length) ++ [0, 0]).getD 0 0
def top1 (zs : List Int) : Int := (dedI zs (List.range zs.length) ++ [0, 0]).getD 1 0
theorem top0_cons (b : Int) (zs : List Int) : top0 (b :: zs) = b := by
  unfold top0; rw [dedI_cons]; rfl
theorem top1_cons (b : Int) (zs : List Int) (hb : b ≠ 0) : top1 (b :: zs) = if top0 zs = b then top1 zs else top0 zs := by
  unfold top1
  rw [dedI_cons]
  cases zs with
  | nil =>
    have e : top0 [] = 0 := rfl
    rw [e, if_neg (fun h => hb h.symm)]; rfl
  | cons c r =>
    rw [top0_cons, dedT_cons]
    by_cases h : c = b
    · rw [if_pos h, if_pos h, dedI_cons]; rfl
    · rw [if_neg h, if_neg h]; rfl
theorem kil_rev (y : Int) (hy : y < 3) : ∀ r : List Ply, (∀ p ∈ r, 5 ≤ p.2) → (kilF r.reverse).1 y = top0 (selP y r.reverse).reverse ∧ (kilF r.reverse).2 y = top1 (selP y r.reverse).reverse
  | [], _ => ⟨rfl, rfl⟩
  | p :: r, h => by
    have ih := kil_rev y hy r fun q hq => h q (.tail _ hq)
    have hp := h p (.head _)
    rw [List.reverse_cons, kilF_snoc, selP_snoc, List.reverse_append]
    by_cases e : p.1 = y
    · rw [if_pos ⟨e, hy⟩]
      have e2 : ([p.2] : List Int).reverse ++ (selP y r.reverse).reverse = p.2 :: (selP y r.reverse).reverse := rfl
      rw [e2, top0_cons, top1_cons _ _ (by omega), ← ih.1, ← ih.2]
      unfold addF addG
      subst e
      by_cases hc : (kilF r.reverse).1 p.1 = p.2
      · have hn : ¬ (p.1 < 3 ∧ (kilF r.reverse).1 p.1 ≠ p.2) := fun x => x.2 hc
        rw [if_neg hn, if_neg hn, if_pos hc]
        exact ⟨hc, rfl⟩
      · rw [if_pos ⟨hy, hc⟩, if_pos ⟨hy, hc⟩, if_neg hc]
        exact ⟨if_pos rfl, if_pos rfl⟩
    · rw [if_neg (fun x => e x.1)]
      have e2 : ([] : List Int).reverse ++ (selP y r.reverse).reverse = (selP y r.reverse).reverse := rfl
      rw [e2, ← ih.1, ← ih.2]
      unfold addF addG
      constructor <;> (dsimp only; split) <;> first | rfl | exact if_neg (fun x => e x.symm)
theorem selP_off (y : Int) (hy : ¬ y < 3) (ps : List Ply) : selP y ps = [] := by
  unfold selP
  rw [List.filter_eq_nil_iff.mpr (fun p _ => by simp [hy])]; rfl
theorem kil_law (y : Int) (ps : List Ply) (h : ∀ p ∈ ps, 5 ≤ p.2) : (if y < 3 then (kilF ps).1 y else 0) = top0 (selP y ps).reverse ∧ (if y < 3 then (kilF ps).2 y else 0) = top1 (selP y ps).reverse := by
  by_cases hy : y < 3
  · rw [if_pos hy, if_pos hy]
    have := kil_rev y hy ps.reverse fun p hp => h p (List.mem_reverse.mp hp)
    rwa [List.reverse_reverse] at this
  · rw [if_neg hy, if_neg hy, selP_off y hy]; exact ⟨rfl, rfl⟩

def rewAll (lim b : Int) (ps : List Ply) (c : List (Int × Int)) : List (Int × Int) := ps.foldl (fun c p => rewC lim b p.2 c) c
theorem rewAll_snoc (lim b : Int) (ps : List Ply) (p : Ply) (c : List (Int × Int)) : rewAll lim b (ps ++ [p]) c = rewC lim b p.2 (rewAll lim b ps c) := by
  unfold rewAll; rw [List.foldl_append, List.foldl_cons, List.foldl_nil]
theorem rewAll_ok {lim b : Int} (hl : 1 ≤ lim) : ∀ (ps : List Ply) {c : List (Int × Int)}, TabOk lim c → TabOk lim (rewAll lim b ps c)
  | [], _, h => h
  | p :: ps, c, h => rewAll_ok hl ps (c := rewC lim b p.2 c) (rewC_ok hl h)
theorem rewAll_len (lim b : Int) : ∀ (ps : List Ply) (c : List (Int × Int)), (rewAll lim b ps c).length ≤ c.length + 4 * ps.length
  | [], c => Nat.le_refl _
  | p :: ps, c => by
    have h1 := rewAll_len lim b ps (rewC lim b p.2 c)
    have h2 := rewC_len lim b p.2 c
    show (rewAll lim b ps (rewC lim b p.2 c)).length ≤ _
    rw [List.length_cons]; omega
theorem rewAll_nil_len (lim b : Int) (ps : List Ply) (h : ps.length ≤ 30) : (rewAll lim b ps []).length ≤ 900 := by
  have h1 := rewAll_len lim b ps []
  rw [List.length_nil] at h1
  omega
/-- the same updates, move by move -/
def agM (lim b best : Int) (c : List (Int × Int)) (ms : List Int) : List (Int × Int) := ms.foldl (fun c m => putS lim c 0 m (if m = best then b else -b)) c
theorem agM_snoc (lim b best : Int) (c : List (Int × Int)) (ms : List Int) (m : Int) : agM lim b best c (ms ++ [m]) = putS lim (agM lim b best c ms) 0 m (if m = best then b else -b) := by
  unfold agM; rw [List.foldl_append, List.foldl_cons, List.foldl_nil]
theorem agM_ok {lim b best : Int} (hl : 1 ≤ lim) : ∀ (ms : List Int) {c : List (Int × Int)}, TabOk lim c → TabOk lim (agM lim b best c ms)
  | [], _, h => h
  | m :: ms, c, h => agM_ok hl ms (c := putS lim c 0 m _) (h.put hl _ _ _)
theorem agM_len (lim b best : Int) : ∀ (ms : List Int) (c : List (Int × Int)), (agM lim b best c ms).length ≤ c.length + ms.length
  | [], c => Nat.le_refl _
  | m :: ms, c => by
    have h1 := agM_len lim b best ms (putS lim c 0 m (if m = best then b else -b))
    have h2 := putS_len lim c 0 m (if m = best then b else -b)
    show (agM lim b best (putS lim c 0 m (if m = best then b else -b)) ms).length ≤ _
    rw [List.length_cons]; omega
def agAll (lim b : Int) (ps : List Ply) (c : List (Int × Int)) : List (Int × Int) := ps.foldl (fun c p => agM lim b p.2 c [5, 6, 7]) c
theorem agAll_snoc (lim b : Int) (ps : List Ply) (p : Ply) (c : List (Int × Int)) : agAll lim b (ps ++ [p]) c = agM lim b p.2 (agAll lim b ps c) [5, 6, 7] := by
  unfold agAll; rw [List.foldl_append, List.foldl_cons, List.foldl_nil]
theorem agAll_ok {lim b : Int} (hl : 1 ≤ lim) : ∀ (ps : List Ply) {c : List (Int × Int)}, TabOk lim c → TabOk lim (agAll lim b ps c)
  | [], _, h => h
  | p :: ps, c, h => agAll_ok hl ps (c := agM lim b p.2 c [5, 6, 7]) (agM_ok hl _ h)
theorem agAll_len (lim b : Int) : ∀ (ps : List Ply) (c : List (Int × Int)), (agAll lim b ps c).length ≤ c.length + 3 * ps.length
  | [], c => Nat.le_refl _
  | p :: ps, c => by
    have h1 := agAll_len lim b ps (agM lim b p.2 c [5, 6, 7])
    have h2 := agM_len lim b p.2 [5, 6, 7] c
    show (agAll lim b ps (agM lim b p.2 c [5, 6, 7])).length ≤ _
    simp only [List.length_cons, List.length_nil] at h2 ⊢; omega
theorem agAll_nil_len (lim b : Int) (ps : List Ply) (h : ps.length ≤ 30) : (agAll lim b ps []).length ≤ 900 := by
  have h1 := agAll_len lim b ps []
  rw [List.length_nil] at h1
  omega
theorem look_putS (lim : Int) (c : List (Int × Int)) (m x j : Int) : kdfLook (putS lim c 0 m x) (hkey 0 j) 0 = if j = m then stepS lim (kdfLook c (hkey 0 j) 0) x else kdfLook c (hkey 0 j) 0 := by
  unfold putS
  rw [kdfLook_put]
  by_cases h : j = m
  · subst h; rw [if_pos rfl, if_pos rfl]
  · rw [if_neg h, if_neg (by unfold hkey; omega)]
theorem look_agM (lim b best : Int) (c : List (Int × Int)) (j : Int) (hj : 5 ≤ j ∧ j ≤ 7) : kdfLook (agM lim b best c [5, 6, 7]) (hkey 0 j) 0 = stepS lim (kdfLook c (hkey 0 j) 0) (if j = best then b else -b) := by
  unfold agM
  simp only [List.foldl_cons, List.foldl_nil, look_putS]
  obtain rfl | rfl | rfl : j = 5 ∨ j = 6 ∨ j = 7 := by omega
  all_goals simp
theorem look_rewC (lim b best : Int) (c : List (Int × Int)) (hb : 5 ≤ best ∧ best ≤ 7) (j : Int) (hj : 5 ≤ j ∧ j ≤ 7) : kdfLook (rewC lim b best c) (hkey 0 j) 0 = stepS lim (kdfLook c (hkey 0 j) 0) (if j = best then b else -b) := by
  unfold rewC lowC
  obtain rfl | rfl | rfl : best = 5 ∨ best = 6 ∨ best = 7 := by omega
  all_goals (
    obtain rfl | rfl | rfl : j = 5 ∨ j = 6 ∨ j = 7 := by omega
    all_goals simp [look_putS])
theorem look_all (lim b : Int) (j : Int) (hj : 5 ≤ j ∧ j ≤ 7) : ∀ (ps : List Ply) (c c' : List (Int × Int)), (∀ p ∈ ps, 5 ≤ p.2 ∧ p.2 ≤ 7) → kdfLook c (hkey 0 j) 0 = kdfLook c' (hkey 0 j) 0 → kdfLook (rewAll lim b ps c) (hkey 0 j) 0 = kdfLook (agAll lim b ps c') (hkey 0 j) 0
  | [], _, _, _, e => e
  | p :: ps, c, c', h, e => by
    refine look_all lim b j hj ps (rewC lim b p.2 c) (agM lim b p.2 c' [5, 6, 7]) (fun q hq => h q (.tail _ hq)) ?_
    rw [look_rewC _ _ _ _ (h p (.head _)) _ hj, look_agM _ _ _ _ _ hj, e]
end Mine
open PySem PySem.W PyProof.Rows PySem.Calls PyProof.V
open PyProof.Rows.LCg (NsObj lst ns_obj lst_snoc)
namespace Mine
local macro_rules | `(tactic| k_exc) => `(tactic| first | with_reducible exact List.Mem.head _ | with_reducible assumption | (refine List.Mem.tail _ ?_; k_exc) | exact List.Mem.head _ | assumption | fail)
local macro_rules | `(tactic| k_ownname) => `(tactic| first | exact List.forall_mem_nil _ | (refine List.forall_mem_cons.mpr ⟨?_, ?_⟩; (· k_exc); k_ownname) | (intro p hp; k_exc) | fail)
local macro_rules | `(tactic| k_not) => `(tactic| first | exact List.forall_mem_nil _ | (with_reducible assumption) | (refine List.forall_mem_cons.mpr ⟨?_, ?_⟩; (· k_ne); k_not) | fail)
local macro_rules | `(tactic| k_ne) => `(tactic| first | assumption | (refine Ne.symm ?_; assumption) | (refine Nat.ne_of_lt ?_; assumption) | (refine Nat.ne_of_gt ?_; assumption) | fail)
local macro_rules | `(tactic| ktr_room) => `(tactic| first | (refine' Mine.room_le ?h ?e; (case h => assumption); (case e => decide)) | (refine' Mine.room_one ?h ?e; (case h => assumption); (case e => decide)) | fail)
local macro_rules | `(tactic| ktr_units) => `(tactic| first | (refine' Mine.room_le ?h ?e; (case h => assumption); (case e => decide)) | (refine' Mine.room_one ?h ?e; (case h => assumption); (case e => decide)) | fail)
local macro_rules | `(tactic| k_mem) => `(tactic| first | exact List.Mem.head _ | assumption | (refine' List.Mem.tail _ ?_; k_mem))
local macro_rules | `(tactic| k_all) => `(tactic| k_not)
local macro_rules | `(tactic| k_enter) => `(tactic| first
  | (refine' code_def ?k1 ?k2 ?k3 ?k4 ?k5 ?kA ?kF ?kK ?k6 ?k7 ?k8 ?k9 ?kB ?_ ?c2 ?c3 ?c4 ?c5; (case kA => exact rfl); (case kF => exact rfl); (case kK => first | exact rfl | assumption); (case k1 => k_asm); (case k2 => k_asm); (case k3 => k_asm); (case k4 => k_asm); (case k5 => k_asm); (case k6 => k_is); (case k7 => k_is); (case k8 => ktr_room); (case k9 => exact BindsTo.of_eq rfl); (case c5 => decide); (case kB => exact locs rfl); (case c2 => exact rfl); (case c3 => exact rfl); (case c4 => exact rfl); k_whole; intro g' L' h' FG' F' N' B' X' T'; (try dsimp only); (try k_fold))
  | (refine' code_defC ?k1 ?k2 ?k3 ?k4 ?k5 ?kA ?kF ?kK ?k6 ?k7 ?k8 ?k9 ?kB ?kD ?_ ?c2 ?c3 ?c4; (case kA => exact rfl); (case kF => exact rfl); (case kK => first | exact rfl | assumption); (case k1 => k_asm); (case k2 => k_asm); (case k3 => k_asm); (case k4 => k_asm); (case k5 => k_asm); (case k6 => k_is); (case k7 => k_is); (case k8 => ktr_room); (case k9 => exact BindsTo.of_eq rfl); (case kB => exact rfl); (case kD => decide +kernel); (case c2 => exact rfl); (case c3 => exact rfl); (case c4 => exact rfl); k_whole; intro g' L' h' tk' cells' FG' F' N' Y' B' X' T' l1; k_cells Y'; (try simp only [List.cons_append, List.nil_append] at N'); (try dsimp only); (try k_fold)))
local macro_rules | `(tactic| walk_at "call ref") => `(tactic| (k_here; first
  | ((with_reducible show wpAny _ _ (call (Value.ref 60) _) _ _ _); refine stop_ ?_)
  | ((with_reducible show wpAny _ _ (call (Value.ref 81) _) _ _ _); refine stop_ ?_)
  | ((with_reducible show wpAny _ _ (call (Value.ref 88) _) _ _ _); refine stop_ ?_)
  | ((with_reducible show wpAny _ _ (call (Value.ref 95) _) _ _ _); refine stop_ ?_)
  | ((with_reducible show wpAny _ _ (call (Value.ref 102) _) _ _ _); refine stop_ ?_)
  | ((with_reducible show wpAny _ _ (call (Value.ref 105) _) _ _ _); refine stop_ ?_)
  | ((with_reducible show wpAny _ _ (call (Value.ref 130) _) _ _ _); refine stop_ ?_)
  | ((with_reducible show wpAny _ _ (call (Value.ref 137) _) _ _ _); refine stop_ ?_)
  | ((with_reducible show wpAny _ _ (call (Value.ref 147) _) _ _ _); refine stop_ ?_)
  | ((with_reducible show wpAny _ _ (call (Value.ref 172) _) _ _ _); refine stop_ ?_)
  | ((with_reducible show wpAny _ _ (call (Value.ref 182) _) _ _ _); refine stop_ ?_)
  | ((with_reducible show wpAny _ _ (call (Value.ref 193) _) _ _ _); refine stop_ ?_)
  | ((with_reducible show wpAny _ _ (call (Value.ref 200) _) _ _ _); refine stop_ ?_)
  | ((with_reducible show wpAny _ _ (call (Value.ref 208) _) _ _ _); refine stop_ ?_)
  | ((with_reducible show wpAny _ _ (call (Value.ref 215) _) _ _ _); refine stop_ ?_)
  | ((with_reducible show wpAny _ _ (call (Value.ref 220) _) _ _ _); refine stop_ ?_)
  | ((with_reducible show wpAny _ _ (call (Value.ref 227) _) _ _ _); refine stop_ ?_)
  | ((with_reducible show wpAny _ _ (call (Value.ref 232) _) _ _ _); refine stop_ ?_)
  | ((with_reducible show wpAny _ _ (call (Value.ref 237) _) _ _ _); refine stop_ ?_)))
local macro_rules | `(tactic| walk_at "exec For Tuple Name cons nil") => `(tactic| (k_here; refine stop_ ?_))
local macro_rules | `(tactic| walk_at "exec For Name Attribute cons nil") => `(tactic| (k_here; refine stop_ ?_))
local macro_rules | `(tactic| walk_at "exec For Name Call cons nil") => `(tactic| (k_here; refine stop_ ?_))
local macro_rules | `(tactic| walk_at "exec For Name Name cons nil") => `(tactic| (k_here; refine stop_ ?_))
local macro_rules | `(tactic| walk_at "exec For Name Tuple cons nil") => `(tactic| (k_here; refine stop_ ?_))
local macro_rules | `(tactic| walk_at "eval ListComp") => `(tactic| (k_here; refine stop_ ?_))
local macro_rules | `(tactic| walk_at "pyIter ref") => `(tactic| (k_here; refine stop_ ?_))
local macro_rules | `(tactic| walk_at "binaryOp Add ref ref") => `(tactic| (k_here; refine stop_ ?_))
local macro_rules | `(tactic| walk_at "call builtin:list.append") => `(tactic| (k_here; (with_reducible show wpAny _ _ (call (Value.builtin _) [Value.ref _, _]) _ _ _); k_dflt (refine' append_K ?k1 ?k2 ?k3 ?_ ?z; (case k1 => k_asm); (case k2 => k_asm); (case k3 => k_upd); (case z => with_reducible assumption); k_whole); intro h' F' N'))

section
variable {w : World} {mean : ExcName → Option Value} {mg mb : Str → Option Value} {dp un : Nat} {gd : Option (List Code)} {cn : Str} {cs : Scope} {a : Addr} {ccd : Value} {cl : List (Str × Addr)} {outer : List Env} {A₀ : Around} {base h₀ : Heap} {L : Addr} {m : Str → Option Value} {s : Shared} {Q E : Value → Shared → Prop} {news : List (Addr × Obj)}
def PlyAt (news : List (Addr × Obj)) (p : Addr × Ply) : Prop := ∃ ta tb n, (p.1, tupObj #[.int p.2.1 ta, .int p.2.2 tb] n) ∈ news
def PliesIn (news : List (Addr × Obj)) (lr : Addr) (as : List (Addr × Ply)) : Prop := (∃ n, (lr, ({ cls := .type "list", data := .seq (as.map fun p => Value.ref p.1).toArray n } : Obj)) ∈ news) ∧ ∀ p ∈ as, PlyAt news p
theorem PliesIn.sub {n1 n2 : List (Addr × Obj)} {lr : Addr} {as : List (Addr × Ply)} (R : PliesIn n1 lr as) (h : ∀ p ∈ n1, p ∈ n2) : PliesIn n2 lr as := ⟨let ⟨n, a⟩ := R.1; ⟨n, h _ a⟩, fun p hp => let ⟨ta, tb, n, a⟩ := R.2 p hp; ⟨ta, tb, n, h _ a⟩⟩
def PlyOk (r : Ply) : Prop := (0 ≤ r.1 ∧ r.1 ≤ 3) ∧ 5 ≤ r.2 ∧ r.2 ≤ 7

def DueIn (rs : List (Addr × Obj)) (vs : List Value) (ps : List Ply) : Prop := ∃ ds : List (Addr × Ply), ds.map (·.2) = ps ∧ vs = ds.map (fun p => Value.ref p.1) ∧ ∀ p ∈ ds, PlyAt rs p
theorem PlyAt.sub {n1 n2 : List (Addr × Obj)} {p : Addr × Ply} (R : PlyAt n1 p) (h : ∀ q ∈ n1, q ∈ n2) : PlyAt n2 p := let ⟨ta, tb, n, a⟩ := R; ⟨ta, tb, n, h _ a⟩
theorem DueIn.snoc {rs : List (Addr × Obj)} {vs : List Value} {ps : List Ply} {p : Ply} {t : Addr} {ta tb : Tok} {n : Nat} (D : DueIn rs vs ps) : DueIn ((t, tupObj #[.int p.1 ta, .int p.2 tb] n) :: rs) (vs ++ [.ref t]) (ps ++ [p]) := by
  obtain ⟨ds, h1, h2, h3⟩ := D
  refine ⟨ds ++ [(t, p)], by rw [List.map_append, h1]; rfl, by rw [List.map_append, h2]; rfl, fun q hq => ?_⟩
  rcases List.mem_append.mp hq with hq | hq
  · exact (h3 q hq).sub fun _ h => .tail _ h
  · rw [List.mem_singleton.mp hq]; exact ⟨ta, tb, n, .head _⟩
theorem DueIn.line {rs : List (Addr × Obj)} {vs : Array Value} {ps : List Ply} (D : DueIn rs vs.toList ps) (h : ps.length ≤ 1000) : vs.size ≤ sizeLine := by
  obtain ⟨ds, h1, h2, h3⟩ := D
  have := congrArg List.length h2
  have h4 := congrArg List.length h1
  rw [List.length_map] at this h4
  rw [Array.length_toList] at this
  exact line_of (by omega)
theorem selP_len (y : Int) (ps : List Ply) : (selP y ps).length ≤ ps.length := by
  unfold selP; rw [List.length_map]; exact List.length_filter_le _ _
theorem intsAre_three {ys : List Value} {a b c : Int} (h : IntsAre ys [a, b, c]) : ∃ t1 t2 t3, ys = [.int a t1, .int b t2, .int c t3] := by
  cases h with
  | cons _ t1 h =>
    cases h with
    | cons _ t2 h =>
      cases h with
      | cons _ t3 h =>
        cases h
        exact ⟨t1, t2, t3, rfl⟩
theorem small_len {n : Nat} (h : n ≤ 1000) : Builtin.Range.small 0 (n : Int) 1 = true := small_one (by decide) (by decide) (by omega) (by omega)
theorem size_len (n : Nat) : Builtin.Range.rangeSize 0 (n : Int) 1 = ((n : Nat) : Int) := by rw [rangeSize_nat, Int.sub_zero, Int.toNat_natCast]
theorem bonusOf_bd {lim depth : Int} (hl : 1 ≤ lim) (hd : 0 ≤ depth) : 0 ≤ bonusOf lim depth ∧ bonusOf lim depth ≤ lim := by
  unfold bonusOf
  have h1 : 0 ≤ 16 * depth := by omega
  have h2 := Int.mul_nonneg h1 hd
  split <;> omega
def Cell (o : Obj) : Prop := ∃ v, o.data = .cell v
def Apart (lo hi : Nat) (rs : List (Addr × Obj)) : Prop := ∀ p ∈ rs, (@LT.lt Nat _ p.1 lo) ∨ (@LT.lt Nat _ hi p.1)
theorem Apart.ne {lo hi : Nat} {rs : List (Addr × Obj)} (A : Apart lo hi rs) {b : Addr} (h1 : @LE.le Nat _ lo b) (h2 : @LE.le Nat _ b hi) : ∀ p ∈ rs, p.1 ≠ b := fun p hp e => by
  have h : @Eq Nat p.1 b := e
  rcases A p hp with x | x <;> omega

theorem add_ints {prog : Program} {A : Around} {l b : Addr} {vs ws : List Value} {ns ms : List Int} (F : Fr h₀ L s.heap m) (N : News h₀ L s.heap news) (hl : s.heap.IsList l vs.toArray) (hb : s.heap.IsList b ws.toArray)
    (hi : IntsAre vs ns) (hj : IntsAre ws ms) (hsz : ns.length + ms.length ≤ 16777216)
    (h : ∀ (D : Addr) h', (∀ p ∈ news, p.1 < D) → Fr h₀ L h' m → News h₀ L h' ((D, { cls := .type "list", data := .seq (vs ++ ws).toArray }) :: news) → IntsAre (vs ++ ws) (ns ++ ms) → Q (.ref D) { s with heap := h' }) :
    wpAny (model prog w) A (binaryOp .Add (.ref l) (.ref b)) Q E s :=
  add_lists_ints (hsz := line_of hsz) F N hl hb hi hj fun h' F' N' I' => h _ h' (fun p hp => Heap.lt_size (N p hp).1) F' N' I'

set_option maxHeartbeats 40000000 in
theorem cuts_c {pl : Addr} {as : List (Addr × Ply)} {lim depth : Int} {t1 t2 : Tok} {rest : List (Addr × Obj)}
   (B : Below A₀ base outer h₀) (F : Fr h₀ L s.heap m) (X : (Mine.hd.heap_1 w.params).In h₀) 
   (N : News h₀ L s.heap rest)
   (T : Top Mine.hd.view_39 (looseW Mine.hd.view_39 []) mean mg mb h₀) (hk : cs.kind = .function)
   (R : PliesIn rest pl as) (hok : ∀ p ∈ as, PlyOk p.2) (hlen : as.length ≤ 30) (hlim : 1 ≤ lim ∧ lim ≤ 400) (hdep : 1 ≤ depth ∧ depth ≤ 6)
   (hd : dp + 5 < recursionLimit) (hu : un + 150 < cLine) 
   (ret : ∀ h' tk', Fr h₀ L h' m → News h₀ L h' rest → Q (.bool true) { s with heap := h', toks := tk' }) :
   wpAny (model PySem.Challenge.rw_tg0010_01.row.prog w) (ktrTop dp un gd cn cs L a ccd cl outer) (call (.ref 237) [.int lim t1, .int depth t2, .ref pl]) Q E s := by
  w_top off; revert X; k_fill; intro X
  refine wpAny_call ?_
  k_dflt k_enter
  rename_i g1 L1 hx1 tkx1 FG1 Fx1 B1 X1 T1 hL1 oA oR oP oH dA dR dP dH N1
  have cH : ∀ p ∈ rest, p.1 ≠ L1 + 1 := fun p hp => Nat.ne_of_lt (Nat.lt_succ_of_lt (hL1 p hp))
  have cP : ∀ p ∈ rest, p.1 ≠ L1 + 1 + 1 := fun p hp => Nat.ne_of_lt (Nat.lt_succ_of_lt (Nat.lt_succ_of_lt (hL1 p hp)))
  have cR : ∀ p ∈ rest, p.1 ≠ L1 + 1 + 1 + 1 := fun p hp => Nat.ne_of_lt (Nat.lt_succ_of_lt (Nat.lt_succ_of_lt (Nat.lt_succ_of_lt (hL1 p hp))))
  have cA : ∀ p ∈ rest, p.1 ≠ L1 + 1 + 1 + 1 + 1 := fun p hp => Nat.ne_of_lt (Nat.lt_succ_of_lt (Nat.lt_succ_of_lt (Nat.lt_succ_of_lt (Nat.lt_succ_of_lt (hL1 p hp)))))
  k_steps
  refine stop_out ?_
  refine kill_c (by assumption) (by assumption) (by assumption) (by assumption) (by assumption) (by rfl) (by ktr_room) (by ktr_units) ?_
  intro k kd f g of og kt1 kt2 kt3 h1 tk1 F1 N1 lk1 lk2 lk3 lk4 hf hg
  k_lt lk1
  k_steps
  refine stop_out ?_
  refine hist_c (by assumption) (by assumption) (by assumption) (by assumption) (by assumption) (by rfl) hlim (by ktr_room) (by ktr_units) ?_
  intro x d sc o ht1 ht2 h2 tk2 F2 N2 lh1 lh2 lh3 Tb
  k_lt lh1
  replace lk2 := ltN lk2
  replace lk3 := ltN lk3
  replace lk4 := ltN lk4
  replace lh2 := ltN lh2
  replace lh3 := ltN lh3
  k_steps
  refine stop_out ?_
  rename_i du _ ldu _ _ _ _ _ _ oH' dH' F5 N5 tk5
  have oc01 : @LT.lt Nat _ (L1 + 1) (L1 + 1 + 1) := Nat.lt_succ_self _
  have oc12 : @LT.lt Nat _ (L1 + 1 + 1) (L1 + 1 + 1 + 1) := Nat.lt_succ_self _
  have oc23 : @LT.lt Nat _ (L1 + 1 + 1 + 1) (L1 + 1 + 1 + 1 + 1) := Nat.lt_succ_self _
  have oc02 : @LT.lt Nat _ (L1 + 1) (L1 + 1 + 1 + 1) := Nat.lt_trans oc01 oc12
  have oc13 : @LT.lt Nat _ (L1 + 1 + 1) (L1 + 1 + 1 + 1 + 1) := Nat.lt_trans oc12 oc23
  have oc03 : @LT.lt Nat _ (L1 + 1) (L1 + 1 + 1 + 1 + 1) := Nat.lt_trans oc02 oc23
  have oc3kd : @LT.lt Nat _ (L1 + 1 + 1 + 1 + 1) kd := by omega
  have ogd : @LT.lt Nat _ g d := by omega
  have osd : @LT.lt Nat _ sc du := by omega
  have oc2kd : @LT.lt Nat _ (L1 + 1 + 1 + 1) kd := Nat.lt_trans oc23 oc3kd
  have oc1kd : @LT.lt Nat _ (L1 + 1 + 1) kd := Nat.lt_trans oc13 oc3kd
  have oc0kd : @LT.lt Nat _ (L1 + 1) kd := Nat.lt_trans oc03 oc3kd
  have oc0k : @LT.lt Nat _ (L1 + 1) k := Nat.lt_trans oc0kd lk2
  have oc1k : @LT.lt Nat _ (L1 + 1 + 1) k := Nat.lt_trans oc1kd lk2
  have oc2k : @LT.lt Nat _ (L1 + 1 + 1 + 1) k := Nat.lt_trans oc2kd lk2
  have oc3k : @LT.lt Nat _ (L1 + 1 + 1 + 1 + 1) k := Nat.lt_trans oc3kd lk2
  have oc0f : @LT.lt Nat _ (L1 + 1) f := Nat.lt_trans oc0k lk3
  have oc1f : @LT.lt Nat _ (L1 + 1 + 1) f := Nat.lt_trans oc1k lk3
  have oc2f : @LT.lt Nat _ (L1 + 1 + 1 + 1) f := Nat.lt_trans oc2k lk3
  have oc3f : @LT.lt Nat _ (L1 + 1 + 1 + 1 + 1) f := Nat.lt_trans oc3k lk3
  have ookdf : @LT.lt Nat _ kd f := Nat.lt_trans lk2 lk3
  have oc0g : @LT.lt Nat _ (L1 + 1) g := Nat.lt_trans oc0f lk4
  have oc1g : @LT.lt Nat _ (L1 + 1 + 1) g := Nat.lt_trans oc1f lk4
  have oc2g : @LT.lt Nat _ (L1 + 1 + 1 + 1) g := Nat.lt_trans oc2f lk4
  have oc3g : @LT.lt Nat _ (L1 + 1 + 1 + 1 + 1) g := Nat.lt_trans oc3f lk4
  have ookdg : @LT.lt Nat _ kd g := Nat.lt_trans ookdf lk4
  have ookg : @LT.lt Nat _ k g := Nat.lt_trans lk3 lk4
  have oc0d : @LT.lt Nat _ (L1 + 1) d := Nat.lt_trans oc0g ogd
  have oc1d : @LT.lt Nat _ (L1 + 1 + 1) d := Nat.lt_trans oc1g ogd
  have oc2d : @LT.lt Nat _ (L1 + 1 + 1 + 1) d := Nat.lt_trans oc2g ogd
  have oc3d : @LT.lt Nat _ (L1 + 1 + 1 + 1 + 1) d := Nat.lt_trans oc3g ogd
  have ookdd : @LT.lt Nat _ kd d := Nat.lt_trans ookdg ogd
  have ookd : @LT.lt Nat _ k d := Nat.lt_trans ookg ogd
  have oofd : @LT.lt Nat _ f d := Nat.lt_trans lk4 ogd
  have oc0x : @LT.lt Nat _ (L1 + 1) x := Nat.lt_trans oc0d lh2
  have oc1x : @LT.lt Nat _ (L1 + 1 + 1) x := Nat.lt_trans oc1d lh2
  have oc2x : @LT.lt Nat _ (L1 + 1 + 1 + 1) x := Nat.lt_trans oc2d lh2
  have oc3x : @LT.lt Nat _ (L1 + 1 + 1 + 1 + 1) x := Nat.lt_trans oc3d lh2
  have ookdx : @LT.lt Nat _ kd x := Nat.lt_trans ookdd lh2
  have ookx : @LT.lt Nat _ k x := Nat.lt_trans ookd lh2
  have oofx : @LT.lt Nat _ f x := Nat.lt_trans oofd lh2
  have oogx : @LT.lt Nat _ g x := Nat.lt_trans ogd lh2
  have oc0sc : @LT.lt Nat _ (L1 + 1) sc := Nat.lt_trans oc0x lh3
  have oc1sc : @LT.lt Nat _ (L1 + 1 + 1) sc := Nat.lt_trans oc1x lh3
  have oc2sc : @LT.lt Nat _ (L1 + 1 + 1 + 1) sc := Nat.lt_trans oc2x lh3
  have oc3sc : @LT.lt Nat _ (L1 + 1 + 1 + 1 + 1) sc := Nat.lt_trans oc3x lh3
  have ookdsc : @LT.lt Nat _ kd sc := Nat.lt_trans ookdx lh3
  have ooksc : @LT.lt Nat _ k sc := Nat.lt_trans ookx lh3
  have oofsc : @LT.lt Nat _ f sc := Nat.lt_trans oofx lh3
  have oogsc : @LT.lt Nat _ g sc := Nat.lt_trans oogx lh3
  have oodsc : @LT.lt Nat _ d sc := Nat.lt_trans lh2 lh3
  have oc0du : @LT.lt Nat _ (L1 + 1) du := Nat.lt_trans oc0sc osd
  have oc1du : @LT.lt Nat _ (L1 + 1 + 1) du := Nat.lt_trans oc1sc osd
  have oc2du : @LT.lt Nat _ (L1 + 1 + 1 + 1) du := Nat.lt_trans oc2sc osd
  have oc3du : @LT.lt Nat _ (L1 + 1 + 1 + 1 + 1) du := Nat.lt_trans oc3sc osd
  have ookddu : @LT.lt Nat _ kd du := Nat.lt_trans ookdsc osd
  have ookdu : @LT.lt Nat _ k du := Nat.lt_trans ooksc osd
  have oofdu : @LT.lt Nat _ f du := Nat.lt_trans oofsc osd
  have oogdu : @LT.lt Nat _ g du := Nat.lt_trans oogsc osd
  have ooddu : @LT.lt Nat _ d du := Nat.lt_trans oodsc osd
  have ooxdu : @LT.lt Nat _ x du := Nat.lt_trans lh3 osd
  clear dH oH
  have hbd := bonusOf_bd hlim.1 (show 0 ≤ depth by omega)
  refine For_turns (by assumption) ?_
  k_steps
  refine stop_out ?_
  obtain ⟨vP0, hvP0⟩ : Cell oP := ⟨_, dP⟩
  obtain ⟨vA0, hvA0⟩ : Cell oA := ⟨_, dA⟩
  obtain ⟨vR0, hvR0⟩ : Cell oR := ⟨_, dR⟩
  clear dP dA dR
  obtain ⟨⟨npl, hpl⟩, hrows⟩ := R
  rename News _ _ _ _ => N6
  obtain ⟨tp, D9, o9, N6⟩ : ∃ tp D9 o9, News _ _ _ ((D9, o9) :: (du, W.listOf #[] 0) :: (sc, o) :: (x, instObj 105 d) :: (d, histD w ht1 ht2 t1 lim sc) :: (f, of) :: (g, og) :: (k, instObj 147 kd) :: (kd, killD w kt1 kt2 kt3 tp f g) :: (L1 + 1 + 1 + 1 + 1, oA) :: (L1 + 1 + 1 + 1, oR) :: (L1 + 1 + 1, oP) :: (L1 + 1, oH') :: rest) := ⟨_, _, _, N6⟩
  have key : ∀ (b : Addr), (@LE.le Nat _ L1 b) → ∀ p ∈ rest, p.1 ≠ b := fun b hb p hp => Nat.ne_of_lt (Nat.lt_of_lt_of_le (hL1 p hp) hb)
  refine list_loop (ax := pl) (lo := { cls := .type "list", data := .seq (as.map fun p => Value.ref p.1).toArray npl }) (news := (sc, o) :: (f, of) :: (g, og) :: (du, W.listOf #[] 0) :: (L1 + 1 + 1, oP) :: (x, instObj 105 d) :: (d, histD w ht1 ht2 t1 lim sc) :: (k, instObj 147 kd) :: (kd, killD w kt1 kt2 kt3 tp f g) :: (L1 + 1 + 1 + 1 + 1, oA) :: (L1 + 1 + 1 + 1, oR) :: (L1 + 1, oH') :: rest) (fun p : Addr × Ply => .ref p.1) as rfl
    (fun I r m nw => ∃ (pre : List (Addr × Ply)) (o' of' og' oP' : Obj) (vs : Array Value) (nd : Nat) (rs : List (Addr × Obj)), as = pre ++ r ∧ m (Str.ofString "limit") = some (.int lim t1) ∧ m (Str.ofString "depth") = some (.int depth t2) ∧ m (Str.ofString "killers") = some (.ref k) ∧ m (Str.ofString "due") = some (.ref du) ∧
      nw = (sc, o') :: (f, of') :: (g, og') :: (du, W.listOf vs nd) :: (L1 + 1 + 1, oP') :: (x, instObj 105 d) :: (d, histD w ht1 ht2 t1 lim sc) :: (k, instObj 147 kd) :: (kd, killD w kt1 kt2 kt3 tp f g) :: (L1 + 1 + 1 + 1 + 1, oA) :: (L1 + 1 + 1 + 1, oR) :: (L1 + 1, oH') :: rs ∧
      Tab w sc o' (rewAll lim (bonusOf lim depth) (pre.map (·.2)) []) ∧ KL of' (kilF (pre.map (·.2))).1 ∧ KL og' (kilF (pre.map (·.2))).2 ∧ Cell oP' ∧ DueIn rs vs.toList (pre.map (·.2)) ∧ (∀ p ∈ rest, p ∈ rs) ∧ Apart L1 I rs ∧ (@LT.lt Nat _ du I))
    rfl (by assumption) (news_sub N6 (by k_ownname)) (by simp [hpl]) rfl rfl (fun I hI => ⟨[], o, of, og, oP, #[], 0, rest, rfl, rfl, rfl, rfl, rfl, rfl, Tb, hf, hg, ⟨_, hvP0⟩, ⟨[], rfl, rfl, fun _ h => nomatch h⟩, fun _ h => h, fun p hp => .inl (hL1 p hp), hI (du, W.listOf #[] 0) (.tail _ (.tail _ (.tail _ (.head _))))⟩) ?_ ?_ ?_
  · rintro I r m nw ⟨pre, o', of', og', oP', vs, nd, rs, _, _, _, _, _, rfl, _, _, _, _, _, hsub, _⟩
    simp [hsub _ hpl]
  · rintro I m nw h12 tk12 ⟨pre, o', of', og', oP', vs, nd, rs, has, e1, e2, e3, e4, rfl, Tb', hf', hg', ⟨vP, hvP⟩, hdue, hsub, hap, hdI⟩ F7 N7
    rw [List.append_nil] at has
    subst has
    have F8 := fr_puts [(Str.ofString "limit", .int lim t1), (Str.ofString "depth", .int depth t2), (Str.ofString "killers", .ref k), (Str.ofString "due", .ref du)] F7 (by simp [e1, e2, e3, e4])
    clear F7
    have a1 := hap.ne (b := L1 + 1 + 1) (Nat.le_add_right L1 2) (Nat.le_of_lt (Nat.lt_trans oc1du hdI))
    have a2 := hap.ne (b := L1 + 1 + 1 + 1) (Nat.le_add_right L1 3) (Nat.le_of_lt (Nat.lt_trans oc2du hdI))
    k_steps
    refine stop_out ?_
    refine For_turns (by assumption) ?_
    k_steps
    obtain ⟨Wd, hWd⟩ : ∃ Wd, Wd = (sc, o') :: (f, of') :: (g, og') :: (du, W.listOf vs nd) :: (x, instObj 105 d) :: (d, histD w ht1 ht2 t1 lim sc) :: (k, instObj 147 kd) :: (kd, killD w kt1 kt2 kt3 tp f g) :: (L1 + 1 + 1 + 1 + 1, oA) :: (L1 + 1, oH') :: rs := ⟨_, rfl⟩
    have wK : KillIn w Wd k kd f g := ⟨kt1, kt2, kt3, tp, by rw [hWd]; k_exc, by rw [hWd]; k_exc⟩
    have wk1 : (k, instObj 147 kd) ∈ Wd := by rw [hWd]; k_exc
    have wk2 : (kd, killD w kt1 kt2 kt3 tp f g) ∈ Wd := by rw [hWd]; k_exc
    have wf : (f, of') ∈ Wd := by rw [hWd]; k_exc
    have wg : (g, og') ∈ Wd := by rw [hWd]; k_exc
    have wdu : (du, W.listOf vs nd) ∈ Wd := by rw [hWd]; k_exc
    have w1 : ∀ p ∈ Wd, p.1 ≠ L1 + 1 + 1 := by rw [hWd]; k_not
    have w2 : ∀ p ∈ Wd, p.1 ≠ L1 + 1 + 1 + 1 := by rw [hWd]; k_not
    obtain ⟨ds, hds1, hds2, hds3⟩ := hdue
    have wds : ∀ p ∈ ds, PlyAt Wd p := fun p hp => (hds3 p hp).sub fun q hq => by rw [hWd]; k_exc
    rename IsRange _ _ _ _ _ _ _ _ => hr
    rename News _ _ _ _ => N9
    have N10 := news_sub (l' := (L1 + 1 + 1, oP') :: (L1 + 1 + 1 + 1, oR) :: Wd) N9 (by rw [hWd]; k_ownname)
    clear N9
    refine range_loop (n := 4) (fun I2 pre m nw => ∃ oP' oR', m (Str.ofString "limit") = some (.int lim t1) ∧ m (Str.ofString "depth") = some (.int depth t2) ∧ m (Str.ofString "killers") = some (.ref k) ∧ m (Str.ofString "due") = some (.ref du) ∧ nw = (L1 + 1 + 1, oP') :: (L1 + 1 + 1 + 1, oR') :: Wd ∧ Cell oP' ∧ Cell oR' ∧ ∀ p ∈ nw, p.1 < I2) rfl (by assumption) N10 hr (by decide) (by rfl) ?_ ?_ ?_
    · intro I2 hI2
      exact ⟨oP', oR, rfl, rfl, rfl, rfl, rfl, ⟨_, hvP⟩, ⟨_, hvR0⟩, hI2⟩
    · rintro I2 m nw h30 tk30 ⟨oP2, oR2, e1, e2, e3, e4, rfl, ⟨vP2, hvP2⟩, ⟨vR2, hvR2⟩, hI2⟩ F31 N31
      have F32 := fr_puts [(Str.ofString "limit", .int lim t1), (Str.ofString "depth", .int depth t2), (Str.ofString "killers", .ref k), (Str.ofString "due", .ref du)] F31 (by simp [e1, e2, e3, e4])
      clear F31 hr N10
      have wH : (L1 + 1, oH') ∈ Wd := by rw [hWd]; k_exc
      have wx : (x, instObj 105 d) ∈ Wd := by rw [hWd]; k_exc
      have wd : (d, histD w ht1 ht2 t1 lim sc) ∈ Wd := by rw [hWd]; k_exc
      have wsc : (sc, o') ∈ Wd := by rw [hWd]; k_exc
      have hap2 : ∀ p ∈ rs, p.1 ≠ L1 + 1 + 1 + 1 + 1 := hap.ne (b := L1 + 1 + 1 + 1 + 1) (Nat.le_add_right L1 4) (Nat.le_of_lt (Nat.lt_trans oc3du hdI))
      obtain ⟨W2, hW2⟩ : ∃ W2, W2 = (sc, o') :: (f, of') :: (g, og') :: (du, W.listOf vs nd) :: (x, instObj 105 d) :: (d, histD w ht1 ht2 t1 lim sc) :: (k, instObj 147 kd) :: (kd, killD w kt1 kt2 kt3 tp f g) :: (L1 + 1, oH') :: rs := ⟨_, rfl⟩
      have N33 := news_sub (l' := (L1 + 1 + 1 + 1 + 1, oA) :: (L1 + 1 + 1, oP2) :: (L1 + 1 + 1 + 1, oR2) :: W2) N31 (by rw [hWd, hW2]; k_ownname)
      clear N31
      k_steps
      refine stop_out ?_
      refine hist_c (by assumption) (by assumption) (by assumption) (by assumption) (by assumption) (by rfl) hlim (by ktr_room) (by ktr_units) ?_
      intro x2 d2 sc2 o2 gt1 gt2 h34 tk34 F34 N34 lg1 lg2 lg3 Tb2
      have lW2 : ∀ p ∈ W2, (@LT.lt Nat _ p.1 d2) := fun p hp => lg1 p (.tail _ (.tail _ (.tail _ hp)))
      have w3 : ∀ p ∈ W2, p.1 ≠ L1 + 1 + 1 + 1 + 1 := by rw [hW2]; k_not
      have w4 : ∀ p ∈ W2, p.1 ≠ L1 + 1 + 1 := by rw [hW2]; k_not
      k_lt lg1
      replace lg2 := ltN lg2
      replace lg3 := ltN lg3
      have odd2 : @LT.lt Nat _ du d2 := lW2 (du, W.listOf vs nd) (by rw [hW2]; k_exc)
      have oc0d2 : @LT.lt Nat _ (L1 + 1) d2 := Nat.lt_trans oc0du odd2
      have oc1d2 : @LT.lt Nat _ (L1 + 1 + 1) d2 := Nat.lt_trans oc1du odd2
      have oc2d2 : @LT.lt Nat _ (L1 + 1 + 1 + 1) d2 := Nat.lt_trans oc2du odd2
      have oc3d2 : @LT.lt Nat _ (L1 + 1 + 1 + 1 + 1) d2 := Nat.lt_trans oc3du odd2
      have oc0x2 : @LT.lt Nat _ (L1 + 1) x2 := Nat.lt_trans oc0d2 lg2
      have oc1x2 : @LT.lt Nat _ (L1 + 1 + 1) x2 := Nat.lt_trans oc1d2 lg2
      have oc2x2 : @LT.lt Nat _ (L1 + 1 + 1 + 1) x2 := Nat.lt_trans oc2d2 lg2
      have oc3x2 : @LT.lt Nat _ (L1 + 1 + 1 + 1 + 1) x2 := Nat.lt_trans oc3d2 lg2
      have oc0sc2 : @LT.lt Nat _ (L1 + 1) sc2 := Nat.lt_trans oc0x2 lg3
      have oc1sc2 : @LT.lt Nat _ (L1 + 1 + 1) sc2 := Nat.lt_trans oc1x2 lg3
      have oc2sc2 : @LT.lt Nat _ (L1 + 1 + 1 + 1) sc2 := Nat.lt_trans oc2x2 lg3
      have oc3sc2 : @LT.lt Nat _ (L1 + 1 + 1 + 1 + 1) sc2 := Nat.lt_trans oc3x2 lg3
      have w5 : ∀ p ∈ W2, p.1 ≠ sc2 := fun p hp => Nat.ne_of_lt (Nat.lt_trans (lW2 p hp) (by omega))
      k_steps
      refine stop_out ?_
      rename_i gA oA2 dA2 gB F40 N40
      refine For_turns (by assumption) ?_
      k_steps
      refine stop_out ?_
      have hvs : vs = (ds.map fun p => Value.ref p.1).toArray := by rw [← hds2]
      subst hvs
      have hdl := congrArg List.length hds1
      rw [List.length_map, List.length_map] at hdl
      have wdu2 : (du, W.listOf (ds.map fun p => Value.ref p.1).toArray nd) ∈ W2 := by rw [hW2]; k_exc
      have wds2 : ∀ p ∈ ds, PlyAt W2 p := fun p hp => (hds3 p hp).sub fun q hq => by rw [hW2]; k_exc
      refine list_loop (ax := du) (lo := W.listOf (ds.map fun p => Value.ref p.1).toArray nd) (news := (sc2, o2) :: (L1 + 1 + 1, oP2) :: (x2, instObj 105 d2) :: (d2, histD w gt1 gt2 t1 lim sc2) :: (L1 + 1 + 1 + 1 + 1, oA2) :: (L1 + 1 + 1 + 1, oR2) :: W2) (fun p : Addr × Ply => .ref p.1) ds rfl
        (fun I r m nw => ∃ (pre : List (Addr × Ply)) (o2' oP' : Obj) (tb : Tok), ds = pre ++ r ∧ m (Str.ofString "limit") = some (.int lim t1) ∧ m (Str.ofString "depth") = some (.int depth t2) ∧ m (Str.ofString "bonus") = some (.int (bonusOf lim depth) tb) ∧
          nw = (sc2, o2') :: (L1 + 1 + 1, oP') :: (x2, instObj 105 d2) :: (d2, histD w gt1 gt2 t1 lim sc2) :: (L1 + 1 + 1 + 1 + 1, oA2) :: (L1 + 1 + 1 + 1, oR2) :: W2 ∧
          Tab w sc2 o2' (agAll lim (bonusOf lim depth) (pre.map (·.2)) []) ∧ Cell oP' ∧ ∀ p ∈ nw, p.1 < I)
        rfl (by assumption) (news_sub N40 (by k_ownname)) (by simp [wdu2]) rfl rfl ?_ ?_ ?_ ?_
      · intro I hI
        exact ⟨[], o2, oP2, _, rfl, rfl, rfl, rfl, rfl, Tb2, ⟨_, hvP2⟩, hI⟩
      · rintro I r m nw ⟨pre, o2', oP', tb, _, _, _, _, rfl, _⟩
        simp [wdu2]
      · rintro I3 m nw h41 tk41 ⟨pre, o2', oP', tb, has, e1, e2, e3, rfl, Tb3, ⟨vP3, hvP3⟩, hI3⟩ F41 N41
        rw [List.append_nil] at has
        subst has
        have F42 := fr_puts [(Str.ofString "limit", .int lim t1), (Str.ofString "depth", .int depth t2), (Str.ofString "bonus", .int (bonusOf lim depth) tb)] F41 (by simp [e1, e2, e3])
        clear F41
        have y1 : (L1 + 1, oH') ∈ W2 := by rw [hW2]; k_exc
        have y2 : (x, instObj 105 d) ∈ W2 := by rw [hW2]; k_exc
        have y3 : (d, histD w ht1 ht2 t1 lim sc) ∈ W2 := by rw [hW2]; k_exc
        have y4 : (sc, o') ∈ W2 := by rw [hW2]; k_exc
        k_steps
        refine stop_out ?_
        refine listComp_start (by assumption) (by with_unfolding_all rfl) (by decide) (by rfl) (by decide) ?_
        k_steps
        refine stop_out ?_
        rename News _ _ _ _ => Na1
        rename_i TT1 _ _ _
        obtain ⟨p51, p61, p71, Na1⟩ : ∃ u5 u6 u7, News _ _ _ ((TT1, tupObj #[.int 5 u5, .int 6 u6, .int 7 u7] 0) :: (sc2, o2') :: (L1 + 1 + 1, oP') :: (x2, instObj 105 d2) :: (d2, histD w gt1 gt2 t1 lim sc2) :: (L1 + 1 + 1 + 1 + 1, oA2) :: (L1 + 1 + 1 + 1, oR2) :: W2) := ⟨_, _, _, Na1⟩
        obtain ⟨nx1, hnx1, Nb1⟩ := news_ex Na1
        have mt1 : (TT1, tupObj #[.int 5 p51, .int 6 p61, .int 7 p71] 0) ∈ nx1 := by rw [hnx1]; exact .head _
        have mc1 : (L1 + 1, oH') ∈ nx1 := by rw [hnx1]; k_exc
        have hH1 : HistIn w nx1 x d sc lim ∧ (sc, o') ∈ nx1 := by rw [hnx1]; exact ⟨⟨ht1, ht2, t1, by simp [y2], by simp [y3]⟩, by simp [y4]⟩
        refine lc_tuple (news := nx1) (vs := [.int 5 p51, .int 6 p61, .int 7 p71]) rfl (by assumption) Nb1 mt1 rfl rfl ?_
        intro I1 hI1 C1 D1 hh1 tk1 oC1 m1 hCD1 hlow1 hws1 F1 hC1 Nc1 S1
        have hIC1 := hws1 I1 (.head _)
        refine comp_pre (C := C1) (D := D1) [(5, p51), (6, p61), (7, p71)] (fun p : Int × Tok => .val (.int p.1 p.2)) (fun pre m₂ ys nw => nw = nx1 ∧ ys.length ≤ pre.length ∧ IntsAre ys (pre.map fun p => kdfLook (rewAll lim (bonusOf lim depth) (as.map (·.2)) []) (hkey 0 p.1) 0)) S1
          (turn_last1 _ _ _ _ _ _ _ _ _) emL_ok emL_mono ?_ F1 hC1 Nc1 ?_ ⟨rfl, Nat.le_refl _, .nil⟩ ?_ ?_ ?_
        · intro b hb
          rw [List.mem_singleton.mp hb]
          exact ⟨Nat.ne_of_lt hIC1.1, Nat.ne_of_lt hIC1.2⟩
        · exact off_of (fun b hb p hp => by rw [List.mem_singleton.mp hb]; exact Nat.ne_of_lt (hI1 p hp)) hlow1
        · rintro r m₂ ys nw ⟨rfl, _⟩ p hp
          rw [List.mem_singleton.mp hp]; exact mt1
        · rintro pre1 z suf1 m₂ ys nw v h tk its oC hxs ⟨rfl, hyl, hys⟩ hv hits F8 hC8 N16 off8
          subst hv
          obtain ⟨oI3, rfl, hoI3⟩ := objs_one hits
          refine cassign_name (its := [(I1, oI3)]) rfl rfl rfl F8 hC8 N16 ?_ ?_ ?_
          · intro b hb; rw [List.mem_singleton.mp hb]; exact Nat.ne_of_lt hIC1.1
          · intro p hp
            rcases List.mem_cons.mp hp with rfl | hp
            · exact hCD1.symm
            · exact (off8 p hp).2.1
          intro h9 tk9 oC9 m9 e9 r9 F9 hC9 N17
          simp only [List.cons_append, List.nil_append] at N17
          refine wpAny_tests_nil ?_
          rw [if_pos rfl]
          have hlx := congrArg List.length hxs
          simp only [List.length_append, List.length_cons, List.length_nil] at hlx
          have hyl9 : ys.length ≤ 16777216 := by first | exact small3 hyl hlx (by decide) | omega
          have hz : 5 ≤ z.1 ∧ z.1 ≤ 7 := by
            have : z ∈ [((5 : Int), p51), (6, p61), (7, p71)] := by rw [hxs]; simp
            simp only [List.mem_cons, List.not_mem_nil, or_false] at this
            rcases this with h | h | h <;> subst h <;> simp
          refine cemit (ys := ys) hCD1 ?_ (line_of hyl9) ?_
          · intro b hb
            rw [List.mem_singleton.mp hb]
            exact ⟨Nat.ne_of_lt hIC1.1, Nat.ne_of_lt hIC1.2⟩
          clear F8 N16
          have hx9 := hH1.1
          obtain ⟨hq1, hq2, hq3, hq4, hq5⟩ := hx9
          k_steps
          refine stop_out ?_
          rename News _ _ _ _ => N18
          refine get_t (rest := (I1, oI3) :: (C1, oC9) :: (D1, lst ys) :: nw) (by assumption) (by assumption) (by assumption) N18 (by assumption) (by rfl) (hH1.1.sub fun p hp => .tail _ (.tail _ (.tail _ hp))) (.tail _ (.tail _ (.tail _ hH1.2))) (by omega) (by omega) Tb' (by ktr_room) (by ktr_units) ?_
          intro t9 h11 tk11 F11 N11
          k_steps
          refine ⟨h11, tk11, oC9, m9, ys, nw, rfl, F11, hC9, N11, off8, rfl, rfl, ?_, ?_⟩
          · simp only [List.length_append, List.length_cons, List.length_nil]; omega
          · rw [List.map_append]
            exact intsAre_snoc hys
        · rintro m₂ ysV1 nw h tk oC ⟨rfl, hyl1, hys1⟩ F8 hC8 N16 off8
          refine ⟨rfl, h, tk, oC, m₂, _, _, rfl, F8, hC8, N16, fun p hp => (off8 p hp).2.1, fun h'' F'' N'' => ?_⟩
          rw [hnx1] at N''
          clear F8 N16 Nc1 F1 Nb1 Na1
          simp only [List.map_cons, List.map_nil] at hys1
          obtain ⟨a1, a2, a3, rfl⟩ := intsAre_three hys1
          k_steps
          refine stop_out ?_
          refine listComp_start (by assumption) (by with_unfolding_all rfl) (by decide) (by rfl) (by decide) ?_
          k_steps
          refine stop_out ?_
          rename News _ _ _ _ => Na2
          rename_i TT2 _ _ _
          obtain ⟨p52, p62, p72, Na2⟩ : ∃ u5 u6 u7, News _ _ _ ((TT2, tupObj #[.int 5 u5, .int 6 u6, .int 7 u7] 0) :: (D1, lst [.int (kdfLook (rewAll lim (bonusOf lim depth) (as.map (·.2)) []) (hkey 0 5) 0) a1, .int (kdfLook (rewAll lim (bonusOf lim depth) (as.map (·.2)) []) (hkey 0 6) 0) a2, .int (kdfLook (rewAll lim (bonusOf lim depth) (as.map (·.2)) []) (hkey 0 7) 0) a3]) :: (TT1, tupObj #[.int 5 p51, .int 6 p61, .int 7 p71] 0) :: (sc2, o2') :: (L1 + 1 + 1, oP') :: (x2, instObj 105 d2) :: (d2, histD w gt1 gt2 t1 lim sc2) :: (L1 + 1 + 1 + 1 + 1, oA2) :: (L1 + 1 + 1 + 1, oR2) :: W2) := ⟨_, _, _, Na2⟩
          obtain ⟨nx2, hnx2, Nb2⟩ := news_ex Na2
          have mt2 : (TT2, tupObj #[.int 5 p52, .int 6 p62, .int 7 p72] 0) ∈ nx2 := by rw [hnx2]; exact .head _
          have mc2 : (L1 + 1 + 1 + 1 + 1, oA2) ∈ nx2 := by rw [hnx2]; k_exc
          have hH2 : HistIn w nx2 x2 d2 sc2 lim ∧ (sc2, o2') ∈ nx2 := by rw [hnx2]; exact ⟨⟨gt1, gt2, t1, by simp, by simp⟩, by simp⟩
          refine lc_tuple (news := nx2) (vs := [.int 5 p52, .int 6 p62, .int 7 p72]) rfl (by assumption) Nb2 mt2 rfl rfl ?_
          intro I2 hI2 C2 D2 hh2 tk2 oC2 m2 hCD2 hlow2 hws2 F2 hC2 Nc2 S2
          have hIC2 := hws2 I2 (.head _)
          refine comp_pre (C := C2) (D := D2) [(5, p52), (6, p62), (7, p72)] (fun p : Int × Tok => .val (.int p.1 p.2)) (fun pre m₂ ys nw => nw = nx2 ∧ ys.length ≤ pre.length ∧ IntsAre ys (pre.map fun p => kdfLook (agAll lim (bonusOf lim depth) (ds.map (·.2)) []) (hkey 0 p.1) 0)) S2
            (turn_last1 _ _ _ _ _ _ _ _ _) emL_ok emL_mono ?_ F2 hC2 Nc2 ?_ ⟨rfl, Nat.le_refl _, .nil⟩ ?_ ?_ ?_
          · intro b hb
            rw [List.mem_singleton.mp hb]
            exact ⟨Nat.ne_of_lt hIC2.1, Nat.ne_of_lt hIC2.2⟩
          · exact off_of (fun b hb p hp => by rw [List.mem_singleton.mp hb]; exact Nat.ne_of_lt (hI2 p hp)) hlow2
          · rintro r m₂ ys nw ⟨rfl, _⟩ p hp
            rw [List.mem_singleton.mp hp]; exact mt2
          · rintro pre1 z suf1 m₂ ys nw v h tk its oC hxs ⟨rfl, hyl, hys⟩ hv hits F8 hC8 N16 off8
            subst hv
            obtain ⟨oI3, rfl, hoI3⟩ := objs_one hits
            refine cassign_name (its := [(I2, oI3)]) rfl rfl rfl F8 hC8 N16 ?_ ?_ ?_
            · intro b hb; rw [List.mem_singleton.mp hb]; exact Nat.ne_of_lt hIC2.1
            · intro p hp
              rcases List.mem_cons.mp hp with rfl | hp
              · exact hCD2.symm
              · exact (off8 p hp).2.1
            intro h9 tk9 oC9 m9 e9 r9 F9 hC9 N17
            simp only [List.cons_append, List.nil_append] at N17
            refine wpAny_tests_nil ?_
            rw [if_pos rfl]
            have hlx := congrArg List.length hxs
            simp only [List.length_append, List.length_cons, List.length_nil] at hlx
            have hyl9 : ys.length ≤ 16777216 := by first | exact small3 hyl hlx (by decide) | omega
            have hz : 5 ≤ z.1 ∧ z.1 ≤ 7 := by
              have : z ∈ [((5 : Int), p52), (6, p62), (7, p72)] := by rw [hxs]; simp
              simp only [List.mem_cons, List.not_mem_nil, or_false] at this
              rcases this with h | h | h <;> subst h <;> simp
            refine cemit (ys := ys) hCD2 ?_ (line_of hyl9) ?_
            · intro b hb
              rw [List.mem_singleton.mp hb]
              exact ⟨Nat.ne_of_lt hIC2.1, Nat.ne_of_lt hIC2.2⟩
            clear F8 N16
            have hx9 := hH2.1
            obtain ⟨hq1, hq2, hq3, hq4, hq5⟩ := hx9
            k_steps
            refine stop_out ?_
            rename News _ _ _ _ => N18
            refine get_t (rest := (I2, oI3) :: (C2, oC9) :: (D2, lst ys) :: nw) (by assumption) (by assumption) (by assumption) N18 (by assumption) (by rfl) (hH2.1.sub fun p hp => .tail _ (.tail _ (.tail _ hp))) (.tail _ (.tail _ (.tail _ hH2.2))) (by omega) (by omega) Tb3 (by ktr_room) (by ktr_units) ?_
            intro t9 h11 tk11 F11 N11
            k_steps
            refine ⟨h11, tk11, oC9, m9, ys, nw, rfl, F11, hC9, N11, off8, rfl, rfl, ?_, ?_⟩
            · simp only [List.length_append, List.length_cons, List.length_nil]; omega
            · rw [List.map_append]
              exact intsAre_snoc hys
          · rintro m₂ ysV2 nw h tk oC ⟨rfl, hyl2, hys2⟩ F8 hC8 N16 off8
            refine ⟨rfl, h, tk, oC, m₂, _, _, rfl, F8, hC8, N16, fun p hp => (off8 p hp).2.1, fun h'' F'' N'' => ?_⟩
            rw [hnx2] at N''
            clear F8 N16 Nc2 F2 Nb2 Na2
            simp only [List.map_cons, List.map_nil] at hys2
            have lk : ∀ j, 5 ≤ j ∧ j ≤ 7 → kdfLook (agAll lim (bonusOf lim depth) (ds.map (·.2)) []) (hkey 0 j) 0 = kdfLook (rewAll lim (bonusOf lim depth) (as.map (·.2)) []) (hkey 0 j) 0 := fun j hj => by
              rw [hds1]
              refine (look_all lim _ j hj _ [] [] (fun p hp => ?_) rfl).symm
              obtain ⟨q, hq, rfl⟩ := List.mem_map.mp hp
              exact (hok q hq).2
            rw [lk 5 (by decide), lk 6 (by decide), lk 7 (by decide)] at hys2
            obtain ⟨c1, c2, c3, rfl⟩ := intsAre_three hys2
            k_steps
            refine stop_out ?_
            rename News _ _ _ _ => N61
            obtain ⟨R61, hR61, N61'⟩ := news_ex N61
            refine bonus_c (tm := 0) (t1 := gt1) (t2 := gt2) (tl := t1) (lim := lim) (d := d2) (sc := sc2) (rest := R61) (by assumption) (by assumption) (by assumption) N61' (by assumption) (by rfl) (by rw [hR61]; k_exc) (by rw [hR61]; k_exc) (by omega) hlim (by ktr_room) (by ktr_units) ?_
            intro tbn h62 tk62 F62 N62
            have hbn : (if 16 * depth * depth + 32 * depth < lim then 16 * depth * depth + 32 * depth else lim) = bonusOf lim depth := rfl
            rw [hbn]
            generalize bonusOf lim depth = bn at *
            clear hbn N61' N61
            k_steps
            rw [show (bn == bn) = true from beq_self_eq_true bn]
            rename News _ _ _ _ => N63
            exact ret _ _ (by assumption) (news_sub N63 fun p hp => by rw [hR61, hW2]; simp [hsub p hp])
      · rintro I3 y r m nw oI hh tk ⟨pre, o2', oP', tb, has, e1, e2, e3, rfl, Tb3, ⟨vP3, hvP3⟩, hI3⟩ hoI F41 N41
        have F42 := fr_puts [(Str.ofString "limit", .int lim t1), (Str.ofString "depth", .int depth t2), (Str.ofString "bonus", .int (bonusOf lim depth) tb)] F41 (by simp [e1, e2, e3])
        clear F41
        obtain ⟨ta9, tb9, nn9, hrow9⟩ := wds2 y (by rw [has]; simp)
        have hT := News.isTup N41 (show (y.1, tupObj #[.int y.2.1 ta9, .int y.2.2 tb9] nn9) ∈ _ by simp [hrow9])
        have v1 := ltN (hI3 _ (.head _))
        have v2 := ltN (hI3 _ (.tail _ (.head _)))
        dsimp only at v1 v2
        k_steps
        refine stop_out ?_
        refine For_turns (by assumption) ?_
        k_steps
        refine stop_out ?_
        rename_i oP4 dP4 gC TT gD F43 N43 lTT
        obtain ⟨u5, u6, u7, N43⟩ : ∃ u5 u6 u7, News _ _ _ ((TT, tupObj #[.int 5 u5, .int 6 u6, .int 7 u7] 0) :: (I3, oI) :: (sc2, o2') :: (L1 + 1 + 1, oP4) :: (x2, instObj 105 d2) :: (d2, histD w gt1 gt2 t1 lim sc2) :: (L1 + 1 + 1 + 1 + 1, oA2) :: (L1 + 1 + 1 + 1, oR2) :: W2) := ⟨_, _, _, N43⟩
        obtain ⟨W3, hW3⟩ : ∃ W3, W3 = (TT, tupObj #[.int 5 u5, .int 6 u6, .int 7 u7] 0) :: (I3, oI) :: (L1 + 1 + 1, oP4) :: (x2, instObj 105 d2) :: (d2, histD w gt1 gt2 t1 lim sc2) :: (L1 + 1 + 1 + 1 + 1, oA2) :: (L1 + 1 + 1 + 1, oR2) :: W2 := ⟨_, rfl⟩
        have N44 := news_sub (l' := (sc2, o2') :: W3) N43 (by rw [hW3]; k_ownname)
        have x1 : (L1 + 1 + 1 + 1 + 1, oA2) ∈ W3 := by rw [hW3]; k_exc
        have x2' : (x2, instObj 105 d2) ∈ W3 := by rw [hW3]; k_exc
        have x3 : (d2, histD w gt1 gt2 t1 lim sc2) ∈ W3 := by rw [hW3]; k_exc
        have x4 : ∀ p ∈ W3, p.1 ≠ sc2 := by rw [hW3]; k_not
        have x5 : (TT, tupObj #[.int 5 u5, .int 6 u6, .int 7 u7] 0) ∈ W3 := by rw [hW3]; k_exc
        clear N43
        have hyk : PlyOk y.2 := by
          have : y.2 ∈ as.map (·.2) := by rw [← hds1, has]; simp
          obtain ⟨q, hq, e⟩ := List.mem_map.mp this
          rw [← e]; exact hok q hq
        have hpl9 : pre.length ≤ 30 := by have := congrArg List.length has; simp at this; omega
        refine tup_loop (ax := TT) (lo := tupObj #[.int 5 u5, .int 6 u6, .int 7 u7] 0) (news := (sc2, o2') :: W3) (fun p : Int × Tok => .int p.1 p.2) [(5, u5), (6, u6), (7, u7)] rfl
          (fun I r m nw => ∃ (pre2 : List (Int × Tok)) (o9 : Obj), [(5, u5), (6, u6), (7, u7)] = pre2 ++ r ∧ m (Str.ofString "limit") = some (.int lim t1) ∧ m (Str.ofString "depth") = some (.int depth t2) ∧ m (Str.ofString "bonus") = some (.int (bonusOf lim depth) tb) ∧ m (Str.ofString "best") = some (.int y.2.2 tb9) ∧
            nw = (sc2, o9) :: W3 ∧ Tab w sc2 o9 (agM lim (bonusOf lim depth) y.2.2 (agAll lim (bonusOf lim depth) (pre.map (·.2)) []) (pre2.map (·.1))) ∧ ∀ p ∈ nw, p.1 < I)
          rfl (by assumption) N44 (.tail _ x5) rfl rfl ?_ ?_ ?_ ?_
        · intro I hI
          exact ⟨[], o2', rfl, rfl, rfl, rfl, rfl, rfl, Tb3, hI⟩
        · rintro I r m nw ⟨pre2, o9, _, _, _, _, _, rfl, _⟩
          exact .tail _ x5
        · rintro I4 m nw h51 tk51 ⟨pre2, o9, has2, f1, f2, f3, f4, rfl, Tb5, hI4⟩ F51 N51
          rw [List.append_nil] at has2
          subst has2
          have F52 := fr_puts [(Str.ofString "limit", .int lim t1), (Str.ofString "depth", .int depth t2), (Str.ofString "bonus", .int (bonusOf lim depth) tb), (Str.ofString "best", .int y.2.2 tb9)] F51 (by simp [f1, f2, f3, f4])
          clear F51
          k_steps
          rename News _ _ _ _ => N53
          refine ⟨_, _, _, (sc2, o9) :: (L1 + 1 + 1, oP4) :: (x2, instObj 105 d2) :: (d2, histD w gt1 gt2 t1 lim sc2) :: (L1 + 1 + 1 + 1 + 1, oA2) :: (L1 + 1 + 1 + 1, oR2) :: W2, rfl, by assumption, news_sub N53 (by rw [hW3]; k_ownname), ?_, pre ++ [y], o9, oP4, tb, by rw [has]; simp, rfl, rfl, rfl, rfl, ?_, ⟨_, dP4⟩, ?_⟩
          · intro p hp q hq
            rw [List.mem_singleton.mp hq]
            rcases List.mem_cons.mp hp with h | h
            · subst h; exact Nat.ne_of_lt v1
            rcases List.mem_cons.mp h with h | h
            · subst h; exact Nat.ne_of_lt v2
            · exact Nat.ne_of_lt (hI3 p (.tail _ (.tail _ h)))
          · rw [List.map_append, List.map_cons, List.map_nil, agAll_snoc]; exact Tb5
          · intro p hp
            rcases List.mem_cons.mp hp with h | h
            · subst h; exact v1
            rcases List.mem_cons.mp h with h | h
            · subst h; exact v2
            · exact hI3 p (.tail _ (.tail _ h))
        · rintro I4 z r2 m nw oI4 hh4 tk4 ⟨pre2, o9, has2, f1, f2, f3, f4, rfl, Tb5, hI4⟩ hoI4 F51 N51
          have F52 := fr_puts [(Str.ofString "limit", .int lim t1), (Str.ofString "depth", .int depth t2), (Str.ofString "bonus", .int (bonusOf lim depth) tb), (Str.ofString "best", .int y.2.2 tb9)] F51 (by simp [f1, f2, f3, f4])
          clear F51
          have hz : 5 ≤ z.1 ∧ z.1 ≤ 7 := by
            have : z ∈ [((5 : Int), u5), (6, u6), (7, u7)] := by rw [has2]; simp
            simp only [List.mem_cons, List.not_mem_nil, or_false] at this
            rcases this with h | h | h <;> subst h <;> simp
          have hpl2 : pre2.length ≤ 3 := by
            have := congrArg List.length has2
            simp at this; omega
          have H9 : HistIn w ((I4, oI4) :: W3) x2 d2 sc2 lim := ⟨gt1, gt2, t1, .tail _ x2', .tail _ x3⟩
          have hok9 : TabOk lim (agM lim (bonusOf lim depth) y.2.2 (agAll lim (bonusOf lim depth) (pre.map (·.2)) []) (pre2.map (·.1))) := agM_ok hlim.1 _ (agAll_ok hlim.1 _ (tabOk_nil hlim.1))
          have hln9 : (agM lim (bonusOf lim depth) y.2.2 (agAll lim (bonusOf lim depth) (pre.map (·.2)) []) (pre2.map (·.1))).length ≤ 1000 := by
            refine Nat.le_trans (agM_len _ _ _ _ _) ?_
            have := agAll_nil_len lim (bonusOf lim depth) (pre.map (·.2)) (by rw [List.length_map]; exact hpl9)
            rw [List.length_map]; omega
          have hof9 : ∀ p ∈ (I4, oI4) :: W3, p.1 ≠ sc2 := by
            intro p hp
            rcases List.mem_cons.mp hp with h | h
            · subst h; exact (Nat.ne_of_lt (hI4 (sc2, o9) (.head _))).symm
            · exact x4 p h
          k_steps
          · rename z.1 = y.2.2 => hze
            refine stop_out ?_
            rename News _ _ _ _ => N54
            refine update_t (d := d2) (lim := lim) (rest := (I4, oI4) :: W3) (by assumption) (by assumption) (by assumption) (news_sub N54 (by k_ownname)) (by assumption) (by rfl) H9 hlim (by omega) (by omega) (by omega) Tb5 hok9 hln9 hof9 (by ktr_room) (by ktr_units) ?_
            intro o10 h55 tk55 F55 N55 Tb6
            clear N54
            k_steps
            refine ⟨_, _, _, (sc2, o10) :: W3, rfl, F55, news_sub N55 (by k_ownname), ?_, pre2 ++ [z], o10, by rw [has2]; simp, rfl, rfl, rfl, rfl, rfl, ?_, ?_⟩
            · intro p hp q hq
              rw [List.mem_singleton.mp hq]
              rcases List.mem_cons.mp hp with h | h
              · subst h; exact Nat.ne_of_lt (hI4 (sc2, o9) (.head _))
              · exact Nat.ne_of_lt (hI4 p (.tail _ h))
            · rw [List.map_append, List.map_cons, List.map_nil, agM_snoc, if_pos hze]; exact Tb6
            · intro p hp
              rcases List.mem_cons.mp hp with h | h
              · subst h; exact hI4 (sc2, o9) (.head _)
              · exact hI4 p (.tail _ h)
          · rename ¬ (z.1 = y.2.2) => hze
            refine stop_out ?_
            rename News _ _ _ _ => N54
            refine update_t (d := d2) (lim := lim) (rest := (I4, oI4) :: W3) (by assumption) (by assumption) (by assumption) (news_sub N54 (by k_ownname)) (by assumption) (by rfl) H9 hlim (by omega) (by omega) (by omega) Tb5 hok9 hln9 hof9 (by ktr_room) (by ktr_units) ?_
            intro o10 h55 tk55 F55 N55 Tb6
            clear N54
            k_steps
            refine ⟨_, _, _, (sc2, o10) :: W3, rfl, F55, news_sub N55 (by k_ownname), ?_, pre2 ++ [z], o10, by rw [has2]; simp, rfl, rfl, rfl, rfl, rfl, ?_, ?_⟩
            · intro p hp q hq
              rw [List.mem_singleton.mp hq]
              rcases List.mem_cons.mp hp with h | h
              · subst h; exact Nat.ne_of_lt (hI4 (sc2, o9) (.head _))
              · exact Nat.ne_of_lt (hI4 p (.tail _ h))
            · rw [List.map_append, List.map_cons, List.map_nil, agM_snoc, if_neg hze]; exact Tb6
            · intro p hp
              rcases List.mem_cons.mp hp with h | h
              · subst h; exact hI4 (sc2, o9) (.head _)
              · exact hI4 p (.tail _ h)
    · rintro I2 pre y suf m nw oI t hh tk hpre ⟨oP', oR', e1, e2, e3, e4, rfl, ⟨vP, hvP⟩, ⟨vR, hvR⟩, hI2⟩ hoI F11 N11
      have F12 := fr_puts [(Str.ofString "limit", .int lim t1), (Str.ofString "depth", .int depth t2), (Str.ofString "killers", .ref k), (Str.ofString "due", .ref du)] F11 (by simp [e1, e2, e3, e4])
      clear F11
      have i1 := ltN (hI2 _ (.head _))
      have i2 := ltN (hI2 _ (.tail _ (.head _)))
      dsimp only at i1 i2
      have hlp := congrArg List.length hpre
      simp only [List.length_range, List.length_append, List.length_cons] at hlp
      have hy3 : 0 ≤ (y : Int) ∧ (y : Int) ≤ 3 := by
        have : y ∈ List.range 4 := by rw [hpre]; simp
        have := List.mem_range.mp this
        omega
      k_steps
      refine stop_out ?_
      rename_i g13 oP2 F13 N13 hdP
      clear F12 N11
      have hvs : vs = (ds.map fun p => Value.ref p.1).toArray := by rw [← hds2]
      subst hvs
      have hdl := congrArg List.length hds1
      rw [List.length_map, List.length_map] at hdl
      refine listComp_start (by assumption) (by with_unfolding_all rfl) (by decide) (by rfl) (by decide) ?_
      k_steps
      refine stop_out ?_
      obtain ⟨nw0, hnw0, N14⟩ := news_ex N13
      have mP : (L1 + 1 + 1, oP2) ∈ nw0 := by rw [hnw0]; exact .tail _ (.head _)
      have mW : ∀ p ∈ Wd, p ∈ nw0 := fun p hp => by rw [hnw0]; exact .tail _ (.tail _ (.tail _ hp))
      refine lc_list (news := nw0) (ax := du) (lo := W.listOf (ds.map fun p => Value.ref p.1).toArray nd) rfl (by assumption) N14 (mW _ wdu) rfl rfl ?_
      intro I3 hI3 C Dn h6 tk6 oC m₂ hCD hlow hws F15 hC N15 S
      have hIC := hws I3 (.head _)
      rw [List.map_map] at S
      refine comp_pre (C := C) (D := Dn) ds (fun p : Addr × Ply => .val (.ref p.1)) (fun pre m₂ ys nw => nw = nw0 ∧ ys.length ≤ pre.length ∧ IntsAre ys (selP y (pre.map (·.2)))) S
        (turn_last1 _ _ _ _ _ _ _ _ _) emL_ok emL_mono ?_ F15 hC N15 ?_ ⟨rfl, Nat.le_refl _, .nil⟩ ?_ ?_ ?_
      · intro b hb
        rw [List.mem_singleton.mp hb]
        exact ⟨Nat.ne_of_lt hIC.1, Nat.ne_of_lt hIC.2⟩
      · exact off_of (fun b hb p hp => by rw [List.mem_singleton.mp hb]; exact Nat.ne_of_lt (hI3 p hp)) hlow
      · rintro r m₂ ys nw ⟨rfl, _⟩ p hp
        rw [List.mem_singleton.mp hp]; exact mW _ wdu
      · rintro pre1 z suf1 m₂ ys nw v h tk its oC hxs ⟨rfl, hyl, hys⟩ hv hits F8 hC8 N16 off8
        subst hv
        obtain ⟨oI3, rfl, hoI3⟩ := objs_one hits
        obtain ⟨za, zb, zn, hz⟩ := wds z (by rw [hxs]; simp)
        have hT := News.isTup N16 (show (z.1, tupObj #[.int z.2.1 za, .int z.2.2 zb] zn) ∈ _ from .tail _ (.tail _ (.tail _ (mW _ hz))))
        refine cassign2 (its := [(I3, oI3)]) rfl rfl rfl (by decide) rfl rfl F8 hC8 N16 ?_ ?_ hT ?_
        · intro b hb; rw [List.mem_singleton.mp hb]; exact Nat.ne_of_lt hIC.1
        · intro p hp
          rcases List.mem_cons.mp hp with rfl | hp
          · exact hCD.symm
          · exact (off8 p hp).2.1
        intro h9 tk9 oC9 m9 e9 e9' r9 F9 hC9 N17
        simp only [List.cons_append, List.nil_append] at N17
        refine wpAny_tests_one ?_
        have hlx := congrArg List.length hxs
        rw [List.length_append, List.length_cons] at hlx
        have hyl9 : ys.length ≤ 16777216 := by first | exact small3 hyl hlx (by decide) | omega
        clear F8 N16
        k_steps
        · rename z.2.1 = (y : Int) => hy1
          rename (y : Int) < 3 => hy2
          refine cemit (ys := ys) hCD ?_ (line_of hyl9) ?_
          · intro b hb
            rw [List.mem_singleton.mp hb]
            exact ⟨Nat.ne_of_lt hIC.1, Nat.ne_of_lt hIC.2⟩
          k_steps
          refine ⟨_, _, oC9, m9, ys, nw, rfl, F9, hC9, N17, off8, rfl, rfl, ?_, ?_⟩
          · simp only [List.length_append, List.length_cons, List.length_nil]; omega
          · rw [List.map_append, List.map_cons, List.map_nil, selP_snoc, if_pos ⟨hy1, hy2⟩]
            exact intsAre_snoc hys
        all_goals (
          refine ⟨_, _, oC9, m9, ys, nw, rfl, F9, hC9, N17, off8, rfl, ?_, ?_⟩
          · simp only [List.length_append, List.length_cons, List.length_nil]; omega
          · rw [List.map_append, List.map_cons, List.map_nil, selP_snoc, if_neg (by omega), List.append_nil]
            exact hys)
      · rintro m₂ ys nw h tk oC ⟨rfl, hyl, hys⟩ F8 hC8 N16 off8
        refine ⟨rfl, h, tk, oC, m₂, _, _, rfl, F8, hC8, N16, fun p hp => (off8 p hp).2.1, fun h'' F'' N'' => ?_⟩
        rw [hnw0] at N''
        have hDn : ∀ p ∈ (I2, oI) :: (L1 + 1 + 1, oP2) :: (L1 + 1 + 1 + 1, oR') :: Wd, (@LT.lt Nat _ p.1 Dn) := fun p hp => (hlow p (hnw0 ▸ hp)).2
        have j1 := ltN (hDn _ (.tail _ (.tail _ (.head _))))
        have j2 := ltN (hDn _ (.tail _ (.head _)))
        have j3 := ltN (hDn _ (.head _))
        dsimp only at j1 j2 j3
        clear N14 N15 N16 F15 F8
        k_steps
        refine stop_out ?_
        rename_i rw1 ws h14 hws1 hwl lrw h15 oR2 F16 N17 hdR
        have hsl : (selP y (ds.map (·.2))).length ≤ 30 := Nat.le_trans (selP_len _ _) (by rw [List.length_map]; omega)
        have hsl2 : (selP y (ds.map (·.2))).reverse.length ≤ 30 := by rw [List.length_reverse]; exact hsl
        generalize hzs : (selP y (ds.map (·.2))).reverse = zs at hws1 hwl hsl2
        refine listComp_start (by assumption) (by with_unfolding_all rfl) (by decide) (by rfl) (by decide) ?_
        k_steps
        refine stop_out ?_
        rename IsRange _ _ _ _ _ _ _ _ => hr2
        rename News _ _ _ _ => N18
        obtain ⟨nw1, hnw1, N19⟩ := news_ex N18
        have mR : (L1 + 1 + 1 + 1, oR2) ∈ nw1 := by rw [hnw1]; exact .tail _ (.tail _ (.tail _ (.tail _ (.head _))))
        have mRw : (rw1, W.listOf ws.toArray 0) ∈ nw1 := by rw [hnw1]; exact .head _
        refine lc_range (news := nw1) (n := zs.length) rfl (by assumption) N19 hr2 (small_len (by omega)) (size_len _) ?_
        intro I4 hI4 C2 Dm h16 tk16 oC2 m₃ hCD2 hlow2 hws2 F19 hC2 N20 S2
        have hIC2 := hws2 I4 (.head _)
        refine comp_pre (C := C2) (D := Dm) (List.range zs.length) (fun (i : Nat) => .tok fun t => .int (i : Int) t) (fun pre m₂ ys nw => nw = nw1 ∧ ys.length ≤ pre.length ∧ IntsAre ys (dedI zs pre)) S2
          (turn_last1 _ _ _ _ _ _ _ _ _) emL_ok emL_mono ?_ F19 hC2 N20 ?_ ⟨rfl, Nat.le_refl _, .nil⟩ ?_ ?_ ?_
        · intro b hb
          rw [List.mem_singleton.mp hb]
          exact ⟨Nat.ne_of_lt hIC2.1, Nat.ne_of_lt hIC2.2⟩
        · exact off_of (fun b hb p hp => by rw [List.mem_singleton.mp hb]; exact Nat.ne_of_lt (hI4 p hp)) hlow2
        · rintro r m₂ ys nw ⟨rfl, _⟩ p hp
          cases hp
        · rintro pre1 z suf1 m₂ ys nw v h tk its oC hxs ⟨rfl, hyl, hys⟩ ⟨t8, rfl⟩ hits F8 hC8 N16 off8
          obtain ⟨oI3, rfl, hoI3⟩ := objs_one hits
          refine cassign_name (its := [(I4, oI3)]) rfl rfl rfl F8 hC8 N16 ?_ ?_ ?_
          · intro b hb; rw [List.mem_singleton.mp hb]; exact Nat.ne_of_lt hIC2.1
          · intro p hp
            rcases List.mem_cons.mp hp with rfl | hp
            · exact hCD2.symm
            · exact (off8 p hp).2.1
          intro h9 tk9 oC9 m9 e9 r9 F9 hC9 N17
          simp only [List.cons_append, List.nil_append] at N17
          refine wpAny_tests_one ?_
          have hlx := congrArg List.length hxs
          rw [List.length_range, List.length_append, List.length_cons] at hlx
          have hyl9 : ys.length ≤ 16777216 := by first | exact small3 hyl hlx (by decide) | omega
          have hzl : z < zs.length := by
            have : z ∈ List.range zs.length := by rw [hxs]; simp
            exact List.mem_range.mp this
          obtain ⟨tz, hgz⟩ := hws1.get z _ (List.getElem?_eq_getElem hzl)
          clear F8 N16
          have z1 : ((z : Int)).toNat = z := Int.toNat_natCast z
          have z2 : ((z : Int) - 1).toNat = z - 1 := by omega
          k_steps
          · rename (z : Int) = 0 => hz0
            refine cemit (ys := ys) hCD2 ?_ (line_of hyl9) ?_
            · intro b hb
              rw [List.mem_singleton.mp hb]
              exact ⟨Nat.ne_of_lt hIC2.1, Nat.ne_of_lt hIC2.2⟩
            k_steps
            refine ⟨_, _, oC9, m9, ys, nw, rfl, F9, hC9, N17, off8, rfl, rfl, ?_, ?_⟩
            · simp only [List.length_append, List.length_cons, List.length_nil]; omega
            · rw [dedI_snoc, if_pos (.inl (by omega))]
              refine intsAre_snocE hys ?_
              first | rfl | rw [z1]
          · rename zs.getD _ 0 ≠ zs.getD _ 0 => hzn
            rw [z1, z2] at hzn
            refine cemit (ys := ys) hCD2 ?_ (line_of hyl9) ?_
            · intro b hb
              rw [List.mem_singleton.mp hb]
              exact ⟨Nat.ne_of_lt hIC2.1, Nat.ne_of_lt hIC2.2⟩
            k_steps
            refine ⟨_, _, oC9, m9, ys, nw, rfl, F9, hC9, N17, off8, rfl, rfl, ?_, ?_⟩
            · simp only [List.length_append, List.length_cons, List.length_nil]; omega
            · rw [dedI_snoc, if_pos (.inr hzn)]
              refine intsAre_snocE hys ?_
              first | rfl | rw [z1]
          · rename zs.getD _ 0 = zs.getD _ 0 => hzn
            rename (z : Int) ≠ 0 => hz0
            rw [z1, z2] at hzn
            refine ⟨_, _, oC9, m9, ys, nw, rfl, F9, hC9, N17, off8, rfl, ?_, ?_⟩
            · simp only [List.length_append, List.length_cons, List.length_nil]; omega
            · rw [dedI_snoc, if_neg (fun h => h.elim (fun h => by omega) fun h => h hzn), List.append_nil]
              exact hys
        · rintro m₂ ys2 nw h tk oC ⟨rfl, hyl2, hys2⟩ F8 hC8 N16 off8
          refine ⟨rfl, h, tk, oC, m₂, _, _, rfl, F8, hC8, N16, fun p hp => (off8 p hp).2.1, fun h'' F'' N'' => ?_⟩
          rw [hnw1] at N''
          have hDm : ∀ p ∈ (rw1, W.listOf ws.toArray 0) :: (Dn, lst ys) :: (I2, oI) :: (L1 + 1 + 1, oP2) :: (L1 + 1 + 1 + 1, oR2) :: Wd, (@LT.lt Nat _ p.1 Dm) := fun p hp => (hlow2 p (hnw1 ▸ hp)).2
          have q1 := ltN (hDm _ (.head _))
          have q2 := ltN (hDm _ (.tail _ (.head _)))
          have q3 := ltN (hDm _ (.tail _ (.tail _ (.head _))))
          have q4 := ltN (hDm _ (.tail _ (.tail _ (.tail _ (.head _)))))
          have q5 := ltN (hDm _ (.tail _ (.tail _ (.tail _ (.tail _ (.head _))))))
          dsimp only at q1 q2 q3 q4 q5
          clear N18 N19 N20 N16 F19 F8
          k_steps
          refine stop_out ?_
          rename_i h19 oR3 F19b N20 dR3
          have t6 : ∀ {p : Addr × Obj} {a1 a2 a3 a4 a5 a6 : Addr × Obj}, p ∈ Wd → p ∈ a1 :: a2 :: a3 :: a4 :: a5 :: a6 :: Wd := fun h => .tail _ (.tail _ (.tail _ (.tail _ (.tail _ (.tail _ h)))))
          refine pair_c (by assumption) (by assumption) (by assumption) N20 (by assumption) (by rfl) ⟨kt1, kt2, kt3, tp, t6 wk1, t6 wk2⟩ (t6 wf) (t6 wg) hy3 hf' hg' (by ktr_room) (by ktr_units) ?_
          intro tt pa pb h21 tk21 F21 N21 htt
          clear N20
          have htl : ∀ p ∈ Wd, (@LT.lt Nat _ p.1 tt) := fun p hp => htt p (t6 hp)
          k_lt htt
          k_steps
          refine stop_out ?_
          rename News _ _ _ _ => N22
          refine add_ints (ns := dedI zs (List.range zs.length)) (ms := [0, 0]) (by assumption) N22 (News.isList N22 (.tail _ (.tail _ (.head _)))) (News.isList N22 (.head _)) hys2 (.cons 0 _ (.cons 0 _ .nil)) (by rw [← hys2.length]; rw [List.length_range] at hyl2; simp only [List.length_cons, List.length_nil]; omega) ?_
          intro D23 h23 lD23 F23 N23 hI23
          clear N22 hws1 hys hdR
          generalize hqs : dedI zs (List.range zs.length) ++ [0, 0] = qs at hI23
          have hq2 : 2 ≤ qs.length := by rw [← hqs]; simp
          k_steps
          refine stop_out ?_
          rename News _ _ _ _ => N24
          refine add_ints (ns := dedI zs (List.range zs.length)) (ms := [0, 0]) (by assumption) N24 (News.isList N24 (.tail _ (.tail _ (.tail _ (.tail _ (.head _)))))) (News.isList N24 (.head _)) hys2 (.cons 0 _ (.cons 0 _ .nil)) (by rw [← hys2.length]; rw [List.length_range] at hyl2; simp only [List.length_cons, List.length_nil]; omega) ?_
          intro D25 h25 lD25 F25 N25 hI25
          clear N24 hI23 hys2
          rw [hqs] at hI25
          k_steps
          · rename News _ _ _ _ => N27
            refine ⟨_, _, _, (L1 + 1 + 1, oP2) :: (L1 + 1 + 1 + 1, oR3) :: Wd, rfl, by assumption, news_sub N27 (by k_ownname), ?_, oP2, oR3, rfl, rfl, rfl, rfl, rfl, ⟨_, hdP⟩, ⟨_, dR3⟩, ?_⟩
            · intro p hp q hq
              rw [List.mem_singleton.mp hq]
              rcases List.mem_cons.mp hp with h | h
              · subst h; exact Nat.ne_of_lt i1
              rcases List.mem_cons.mp h with h | h
              · subst h; exact Nat.ne_of_lt i2
              · exact Nat.ne_of_lt (hI2 p (.tail _ (.tail _ h)))
            · intro p hp
              rcases List.mem_cons.mp hp with h | h
              · subst h; exact i1
              rcases List.mem_cons.mp h with h | h
              · subst h; exact i2
              · exact hI2 p (.tail _ (.tail _ h))
          · exfalso
            first | rename (_ && _) = false => hf9 | rename ¬ (_ && _) = true => hf9
            have hkl := kil_law y (as.map (·.2)) fun p hp => by
              obtain ⟨q, hq, rfl⟩ := List.mem_map.mp hp
              exact (hok q hq).2.1
            rw [← hds1, hzs, hds1] at hkl
            unfold top0 top1 at hkl
            rw [hqs] at hkl
            have e0 : qs.getD (Int.toNat 0) 0 = qs.getD 0 0 := rfl
            have e1 : qs.getD (Int.toNat 1) 0 = qs.getD 1 0 := rfl
            rw [e0, e1, hkl.1, hkl.2] at hf9
            simp at hf9
  · rintro I y r m nw oI hh tk ⟨pre, o', of', og', oP', vs, nd, rs, has, e1, e2, e3, e4, rfl, Tb', hf', hg', ⟨vP, hvP⟩, hdue, hsub, hap, hdI⟩ hoI F7 N7
    obtain ⟨ta, tb, nn, hrow⟩ := hrows y (by rw [has]; simp)
    have hT := News.isTup N7 (show (y.1, tupObj #[.int y.2.1 ta, .int y.2.2 tb] nn) ∈ _ by simp [hsub _ hrow])
    have F8 := fr_puts [(Str.ofString "limit", .int lim t1), (Str.ofString "depth", .int depth t2), (Str.ofString "killers", .ref k), (Str.ofString "due", .ref du)] F7 (by simp [e1, e2, e3, e4])
    clear F7
    have oc0I : @LT.lt Nat _ (L1 + 1) I := Nat.lt_trans oc0du hdI
    have oc1I : @LT.lt Nat _ (L1 + 1 + 1) I := Nat.lt_trans oc1du hdI
    have oc2I : @LT.lt Nat _ (L1 + 1 + 1 + 1) I := Nat.lt_trans oc2du hdI
    have oc3I : @LT.lt Nat _ (L1 + 1 + 1 + 1 + 1) I := Nat.lt_trans oc3du hdI
    have ookdI : @LT.lt Nat _ kd I := Nat.lt_trans ookddu hdI
    have ookI : @LT.lt Nat _ k I := Nat.lt_trans ookdu hdI
    have oofI : @LT.lt Nat _ f I := Nat.lt_trans oofdu hdI
    have oogI : @LT.lt Nat _ g I := Nat.lt_trans oogdu hdI
    have oodI : @LT.lt Nat _ d I := Nat.lt_trans ooddu hdI
    have ooxI : @LT.lt Nat _ x I := Nat.lt_trans ooxdu hdI
    have ooscI : @LT.lt Nat _ sc I := Nat.lt_trans osd hdI
    have a1 := hap.ne (b := L1 + 1 + 1) (Nat.le_add_right L1 2) (Nat.le_of_lt oc1I)
    have a2 := hap.ne (b := sc) (Nat.le_of_lt (Nat.lt_trans (Nat.lt_succ_self _) oc0sc)) (Nat.le_of_lt ooscI)
    have a3 := hap.ne (b := f) (Nat.le_of_lt (Nat.lt_trans (Nat.lt_succ_self _) oc0f)) (Nat.le_of_lt oofI)
    have a4 := hap.ne (b := g) (Nat.le_of_lt (Nat.lt_trans (Nat.lt_succ_self _) oc0g)) (Nat.le_of_lt oogI)
    have a5 := hap.ne (b := du) (Nat.le_of_lt (Nat.lt_trans (Nat.lt_succ_self _) oc0du)) (Nat.le_of_lt hdI)
    k_steps
    refine stop_out ?_
    rename_i hv8 oP2 hdP hw8 tr hx8 F8' N9 l9
    obtain ⟨v5, v6, v7, N9⟩ : ∃ v5 v6 v7, News _ _ _ ((tr, W.listOf #[.int 5 v5, .int 6 v6, .int 7 v7] 0) :: (I, oI) :: (sc, o') :: (f, of') :: (g, og') :: (du, W.listOf vs nd) :: (L1 + 1 + 1, oP2) :: (x, instObj 105 d) :: (d, histD w ht1 ht2 t1 lim sc) :: (k, instObj 147 kd) :: (kd, killD w kt1 kt2 kt3 tp f g) :: (L1 + 1 + 1 + 1 + 1, oA) :: (L1 + 1 + 1 + 1, oR) :: (L1 + 1, oH') :: rs) := ⟨_, _, _, N9⟩
    have hy := hok y (by rw [has]; simp)
    have hpl : pre.length ≤ 30 := by have := congrArg List.length has; simp at this; omega
    obtain ⟨R9, hR9⟩ : ∃ R9, R9 = (tr, W.listOf #[.int 5 v5, .int 6 v6, .int 7 v7] 0) :: (I, oI) :: (du, W.listOf vs nd) :: (L1 + 1 + 1, oP2) :: (x, instObj 105 d) :: (d, histD w ht1 ht2 t1 lim sc) :: (k, instObj 147 kd) :: (kd, killD w kt1 kt2 kt3 tp f g) :: (L1 + 1 + 1 + 1 + 1, oA) :: (L1 + 1 + 1 + 1, oR) :: (L1 + 1, oH') :: rs := ⟨_, rfl⟩
    have N10 : News g1 L1 hx8 ((sc, o') :: (f, of') :: (g, og') :: R9) := by rw [hR9]; exact news_sub N9 (by k_ownname)
    have b1 : HistIn w R9 x d sc lim := ⟨ht1, ht2, t1, by rw [hR9]; k_exc, by rw [hR9]; k_exc⟩
    have b2 : KillIn w R9 k kd f g := ⟨kt1, kt2, kt3, tp, by rw [hR9]; k_exc, by rw [hR9]; k_exc⟩
    have b3 : (tr, W.listOf #[.int 5 v5, .int 6 v6, .int 7 v7] 0) ∈ R9 := by rw [hR9]; exact .head _
    have b4 : ∀ p ∈ R9, p.1 ≠ sc := by rw [hR9]; k_not
    have b5 : ∀ p ∈ R9, p.1 ≠ f := by rw [hR9]; k_not
    have b6 : ∀ p ∈ R9, p.1 ≠ g := by rw [hR9]; k_not
    have b7 : sc ≠ f := Nat.ne_of_gt oofsc
    have b8 : sc ≠ g := Nat.ne_of_gt oogsc
    have b9 : f ≠ g := Nat.ne_of_lt lk4
    have hlc2 : (rewAll lim (bonusOf lim depth) (pre.map (·.2)) []).length ≤ 900 := rewAll_nil_len _ _ _ (by rw [List.length_map]; exact hpl)
    clear N9
    refine reward_c (rest := R9) (by assumption) (by assumption) (by assumption) N10 (by assumption) (by rfl) b1 b2 b3 Tb' hf' hg' hlim (rewAll_ok hlim.1 _ (tabOk_nil hlim.1)) hlc2 hy.1 ⟨by omega, by omega⟩ hy.2 hbd.1 b7 b8 b9 b4 b5 b6 (by ktr_room) (by ktr_units) ?_
    intro o'' of'' og'' h10 tk10 F10 N11 Tb'' hf'' hg''
    clear N10 b1 b2 b3 b4 b5 b6
    subst hR9
    have hvl : vs.size ≤ sizeLine := hdue.line (by rw [List.length_map]; omega)
    k_steps
    rename_i D10 h11 F11 N11 l10 h12 F12 N12
    have a6 := hap.ne (b := I) (Nat.le_of_lt (Nat.lt_trans (Nat.lt_succ_self _) oc0I)) (Nat.le_refl _)
    clear F11 N11
    refine ⟨_, _, _, (sc, o'') :: (f, of'') :: (g, og'') :: (du, W.listOf (vs.push (.ref D10)) (nd + 1)) :: (L1 + 1 + 1, oP2) :: (x, instObj 105 d) :: (d, histD w ht1 ht2 t1 lim sc) :: (k, instObj 147 kd) :: (kd, killD w kt1 kt2 kt3 tp f g) :: (L1 + 1 + 1 + 1 + 1, oA) :: (L1 + 1 + 1 + 1, oR) :: (L1 + 1, oH') :: (D10, tupObj #[.int y.2.1 ta, .int y.2.2 tb] 0) :: rs, rfl, F12, news_sub N12 ?_, ?_, pre ++ [y], o'', of'', og'', oP2, vs.push (.ref D10), nd + 1, (D10, tupObj #[.int y.2.1 ta, .int y.2.2 tb] 0) :: rs, by rw [has]; simp, rfl, rfl, rfl, rfl, rfl, ?_, ?_, ?_, ⟨_, hdP⟩, ?_, ?_, ?_, hdI⟩
    · k_ownname
    · have : ∀ p ∈ (sc, o'') :: (f, of'') :: (g, og'') :: (du, W.listOf (vs.push (.ref D10)) (nd + 1)) :: (L1 + 1 + 1, oP2) :: (x, instObj 105 d) :: (d, histD w ht1 ht2 t1 lim sc) :: (k, instObj 147 kd) :: (kd, killD w kt1 kt2 kt3 tp f g) :: (L1 + 1 + 1 + 1 + 1, oA) :: (L1 + 1 + 1 + 1, oR) :: (L1 + 1, oH') :: (D10, tupObj #[.int y.2.1 ta, .int y.2.2 tb] 0) :: rs, p.1 ≠ I := by k_not
      intro p hp q hq
      rw [List.mem_singleton.mp hq]
      exact this p hp
    · rw [List.map_append, List.map_cons, List.map_nil, rewAll_snoc]; exact Tb''
    · rw [List.map_append, List.map_cons, List.map_nil, kilF_snoc]; exact hf''
    · rw [List.map_append, List.map_cons, List.map_nil, kilF_snoc]; exact hg''
    · rw [List.map_append, List.map_cons, List.map_nil, Array.toList_push]; exact hdue.snoc
    · exact fun p hp => .tail _ (hsub p hp)
    · intro p hp
      rcases List.mem_cons.mp hp with h | h
      · subst h; exact .inr (by show @LT.lt Nat _ I D10; omega)
      · exact hap p h
end


section
variable {w : World} {mean : ExcName → Option Value} {mg mb : Str → Option Value} {dp un : Nat} {gd : Option (List Code)} {cn : Str} {cs : Scope} {a : Addr} {ccd : Value} {cl : List (Str × Addr)} {outer : List Env} {A₀ : Around} {base h₀ : Heap} {L : Addr} {m : Str → Option Value} {s : Shared} {Q E : Value → Shared → Prop} {news : List (Addr × Obj)}
theorem fmod_bd (a : Int) {b : Int} (h : 1 ≤ b) : 0 ≤ a.fmod b ∧ a.fmod b < b := by
  rw [Int.fmod_eq_emod_of_nonneg _ (by omega)]
  exact ⟨Int.emod_nonneg _ (by omega), Int.emod_lt_of_pos _ (by omega)⟩

set_option maxHeartbeats 4000000 in
theorem draw_c {pa l : Addr} {n many : Int} {tn tm : Tok} {np nl : Nat} {ws : List Value} {zs : List Int} {rest : List (Addr × Obj)}
   (B : Below A₀ base outer h₀) (F : Fr h₀ L s.heap m) (X : (Mine.hd.heap_1 w.params).In h₀) 
   (N : News h₀ L s.heap ((pa, W.listOf #[.ref l, .int n tn] np) :: rest))
   (T : Top Mine.hd.view_39 (looseW Mine.hd.view_39 []) mean mg mb h₀) (hk : cs.kind = .function)
   (hl : (l, W.listOf ws.toArray nl) ∈ rest) (hI : IntsAre ws zs) (hz : zs.length ≤ 50) (hn : 0 ≤ n ∧ n ≤ 1000) (hm : 1 ≤ many ∧ many ≤ 1000)
   (hoff : ∀ p ∈ rest, p.1 ≠ pa)
   (hd : dp + 2 < recursionLimit) (hu : un + 16 < cLine) 
   (ret : ∀ r t tn' np' h' tk', 0 ≤ r ∧ r < many → Fr h₀ L h' m → News h₀ L h' ((pa, W.listOf #[.ref l, .int (n + 1) tn'] np') :: rest) → Q (.int r t) { s with heap := h', toks := tk' }) :
   wpAny (model PySem.Challenge.rw_tg0010_01.row.prog w) (ktrTop dp un gd cn cs L a ccd cl outer) (call (.ref 208) [.ref pa, .int many tm]) Q E s := by
  have N1 := news_sub (l' := (pa, W.listOf #[.ref l, .int n tn] np) :: (l, W.listOf ws.toArray nl) :: rest) N (by
    intro p hp
    simp only [List.mem_cons] at hp ⊢
    rcases hp with h | h | h
    · exact .inl h
    · exact .inr (h ▸ hl)
    · exact .inr h)
  have hlpa : @Ne Nat l pa := hoff _ hl
  clear N
  w_top off; revert X; k_fill; intro X
  refine wpAny_call ?_
  k_dflt k_enter
  k_steps
  all_goals (
    rename News _ _ _ _ => N9
    obtain ⟨tx, N9⟩ : ∃ tx, News _ _ _ ((pa, W.listOf #[.ref l, .int (n + 1) tx] np) :: (l, W.listOf ws.toArray nl) :: rest) := ⟨_, N9⟩
    refine ret _ _ tx np _ _ (fmod_bd _ hm.1) (by assumption) (news_sub N9 fun p hp => ?_)
    rcases List.mem_cons.mp hp with h | h
    · subst h; exact .head _
    · exact .tail _ (.tail _ h))
end


section
variable {w : World} {mean : ExcName → Option Value} {mg mb : Str → Option Value} {dp un : Nat} {gd : Option (List Code)} {cn : Str} {cs : Scope} {a : Addr} {ccd : Value} {cl : List (Str × Addr)} {outer : List Env} {A₀ : Around} {base h₀ : Heap} {L : Addr} {m : Str → Option Value} {s : Shared} {Q E : Value → Shared → Prop} {news : List (Addr × Obj)}
def Row2Ok (r : Row) : Prop := (0 ≤ r.1 ∧ r.1 ≤ 1) ∧ (5 ≤ r.2.1 ∧ r.2.1 ≤ 6) ∧ (-450 ≤ r.2.2 ∧ r.2.2 ≤ 450)
def RowAll (rs : List (Addr × Obj)) (as : List (Addr × Row)) : Prop := ∀ p ∈ as, RowAt rs p.1 p.2 ∧ Row2Ok p.2
def rowVs (as : List (Addr × Row)) : Array Value := (as.map fun p => Value.ref p.1).toArray
def negR (r : Row) : Row := (r.1, r.2.1, -r.2.2)
theorem neg_law {lim : Int} (hl : 1 ≤ lim) (rows : List Row) (k : Int) : kdfLook (fillC lim [] (rows.map negR)) k 0 = - kdfLook (fillC lim [] rows) k 0 := by
  have h1 := look_fill lim k (rows.map negR) []
  have h2 := look_fill lim k rows []
  have h3 := scoreOf_neg (lim := lim) hl k rows 0
  have e1 : fillM lim [] (rows.map negR) = fillC lim [] (rows.map negR) := rfl
  have e2 : fillM lim [] rows = fillC lim [] rows := rfl
  rw [e1] at h1
  rw [e2] at h2
  rw [h1, h2, look_nil]
  exact h3
theorem Row2Ok.ok {r : Row} (h : Row2Ok r) : RowOk r := by
  unfold Row2Ok at h; unfold RowOk; omega
theorem Row2Ok.neg {r : Row} (h : Row2Ok r) : RowOk (negR r) := by
  unfold Row2Ok at h; unfold RowOk negR; exact ⟨h.1, ⟨by show 0 ≤ r.2.1; omega, by show r.2.1 ≤ 100; omega⟩, by show -1000 ≤ -r.2.2; omega, by show -r.2.2 ≤ 1000; omega⟩
def NegIn (nw : List (Addr × Obj)) (ys : List Value) (ds : List (Addr × Row)) (pre : List (Addr × Row)) : Prop := ys = ds.map (fun p => Value.ref p.1) ∧ ds.map (·.2) = pre.map (fun p => negR p.2) ∧ ∀ p ∈ ds, RowAt nw p.1 p.2
theorem RowAt.sub {n1 n2 : List (Addr × Obj)} {a : Addr} {r : Row} (R : RowAt n1 a r) (h : ∀ p ∈ n1, p ∈ n2) : RowAt n2 a r := let ⟨ta, tb, tc, n, x⟩ := R; ⟨ta, tb, tc, n, h _ x⟩
def selA (c : Int) (as : List (Addr × Row)) : List (Addr × Row) := as.filter fun p => decide (p.2.1 = c)
theorem selA_snoc (c : Int) (as : List (Addr × Row)) (z : Addr × Row) : selA c (as ++ [z]) = selA c as ++ if z.2.1 = c then [z] else [] := by
  unfold selA
  rw [List.filter_append]
  by_cases h : z.2.1 = c
  · rw [if_pos h, List.filter_cons_of_pos (by simpa using h)]; rfl
  · rw [if_neg h, List.filter_cons_of_neg (by simpa using h)]; rfl
theorem selA_len (c : Int) (as : List (Addr × Row)) : (selA c as).length ≤ as.length := List.length_filter_le _ _
theorem selA_mem {c : Int} {as : List (Addr × Row)} {p : Addr × Row} (h : p ∈ selA c as) : p ∈ as := (List.mem_filter.mp h).1
theorem selA_map (c : Int) (as : List (Addr × Row)) : (selA c as).map (·.2) = (as.map (·.2)).filter fun r => decide (r.1 = c) := by
  unfold selA
  rw [List.filter_map]
  rfl
theorem apart_law {lim side move : Int} (hs : side = 0 ∨ side = 1) (hm : 0 ≤ move ∧ move ≤ 100) (as : List (Addr × Row)) (h : ∀ p ∈ as, Row2Ok p.2) :
    kdfLook (fillC lim [] ((selA 1 as ++ selA 0 as).map (·.2))) (hkey side move) 0 = kdfLook (fillC lim [] (as.map (·.2))) (hkey side move) 0 := by
  have h1 := look_fill lim (hkey side move) ((selA 1 as ++ selA 0 as).map (·.2)) []
  have h2 := look_fill lim (hkey side move) (as.map (·.2)) []
  have h3 := scoreOf_apart lim side move hs hm (as.map (·.2)) (by
    intro r hr
    obtain ⟨p, hp, e⟩ := List.mem_map.mp hr
    have := h p hp
    rw [← e]
    unfold Row2Ok at this
    omega) 0
  have e1 : fillM lim [] ((selA 1 as ++ selA 0 as).map (·.2)) = fillC lim [] ((selA 1 as ++ selA 0 as).map (·.2)) := rfl
  have e2 : fillM lim [] (as.map (·.2)) = fillC lim [] (as.map (·.2)) := rfl
  rw [e1] at h1
  rw [e2] at h2
  rw [h1, h2, look_nil, List.map_append, selA_map, selA_map]
  exact h3
theorem add_objs {prog : Program} {A : Around} {l b : Addr} {vs us : List Value} (F : Fr h₀ L s.heap m) (N : News h₀ L s.heap news) (hl : (l, lst vs) ∈ news) (hb : (b, lst us) ∈ news) (hsz : vs.length + us.length ≤ 16777216)
    (h : ∀ (D : Addr) h', (∀ p ∈ news, p.1 < D) → Fr h₀ L h' m → News h₀ L h' ((D, W.listOf (vs ++ us).toArray 0) :: news) → Q (.ref D) { s with heap := h' }) :
    wpAny (model prog w) A (binaryOp .Add (.ref l) (.ref b)) Q E s :=
  add_lists (hsz := line_of hsz) F N ⟨lst vs, (N _ hl).1, rfl, _, rfl⟩ ⟨lst us, (N _ hb).1, rfl, _, rfl⟩ fun h' F' N' => h _ h' (fun p hp => Heap.lt_size (N p hp).1) F' N'
def enumAs : Nat → List (Addr × Row) → List (Nat × (Addr × Row))
  | _, [] => []
  | i, p :: r => (i, p) :: enumAs (i + 1) r
theorem enumAs_items : ∀ (as : List (Addr × Row)) (i : Nat), enumItems i (as.map fun p => Value.ref p.1) = (enumAs i as).map fun q => Itm.pair (fun t => .int (q.1 : Int) t) (.ref q.2.1)
  | [], _ => rfl
  | p :: r, i => by
    show _ :: enumItems (i + 1) _ = _ :: (enumAs (i + 1) r).map _
    rw [enumAs_items r (i + 1)]
theorem enumAs_mem : ∀ (as : List (Addr × Row)) (i : Nat) {q : Nat × (Addr × Row)}, q ∈ enumAs i as → q.2 ∈ as
  | [], _, _, h => nomatch h
  | p :: r, i, q, h => by
    rcases List.mem_cons.mp h with h | h
    · subst h; exact .head _
    · exact .tail _ (enumAs_mem r (i + 1) h)
theorem enumAs_len : ∀ (as : List (Addr × Row)) (i : Nat), (enumAs i as).length = as.length
  | [], _ => rfl
  | p :: r, i => congrArg (· + 1) (enumAs_len r (i + 1))
theorem objs_two {I J : Addr} {c d : String} {its : List (Addr × Obj)} (h : Objs [(I, c), (J, d)] its) : ∃ o p : Obj, its = [(I, o), (J, p)] ∧ o.cls = .type c ∧ p.cls = .type d := by
  cases its with
  | nil => exact h.elim
  | cons p r =>
    obtain ⟨⟨h1, h2⟩, h3⟩ := h
    obtain ⟨o, rfl, h4⟩ := objs_one h3
    obtain ⟨pa, po⟩ := p
    subst h1
    exact ⟨po, o, rfl, h2, h4⟩
def PlysAt (nw : List (Addr × Obj)) (ps : List (Addr × Ply)) : Prop := ∀ p ∈ ps, PlyAt nw p ∧ PlyOk p.2
theorem PlysAt.sub {n1 n2 : List (Addr × Obj)} {ps : List (Addr × Ply)} (R : PlysAt n1 ps) (h : ∀ p ∈ n1, p ∈ n2) : PlysAt n2 ps := fun p hp => ⟨(R p hp).1.sub h, (R p hp).2⟩
theorem plyOk_of {r : Row} (h : Row2Ok r) {s k : Int} (hs : s = 0 ∨ s = 2) (hk : 0 ≤ k ∧ k < 3) : PlyOk (s + r.1, 5 + k) := by
  unfold Row2Ok at h
  unfold PlyOk
  dsimp only
  omega
def CleanC (c : List (Int × Int)) : Prop := ∀ s : Int, s = 0 ∨ s = 1 → kdfLook c (hkey s 99) 0 = 0 ∧ kdfLook c (hkey s 0) 0 = 0
theorem CleanC.put {c : List (Int × Int)} (h : CleanC c) {side move v : Int} (hs : 0 ≤ side ∧ side ≤ 1) (hm : 5 ≤ move ∧ move ≤ 6) : CleanC (kdfPut c (hkey side move) v) := by
  intro s hs'
  rw [kdfLook_put, kdfLook_put, if_neg, if_neg]
  · exact h s hs'
  · unfold hkey; omega
  · unfold hkey; omega
set_option maxHeartbeats 8000000 in
theorem whole : PySem.Challenge.rw_tg0010_01.Holds := Mine.hd (by
  k_go0
  all_goals try k_fold
  rename_i script _ _ _ _ _ _ _ la vs0 _ hLl _ _ _ hI0 _ hlen63 _ K0 _ hh1 F0 N0
  k_steps
  refine stop_out ?_
  rename_i Dl ws hD0 hI50 hC50 hL50 _ pa _ lpa _ F1 N1
  replace lpa := ltN lpa
  have hz50 : (script.take 50).length ≤ 50 := List.length_take_le ..
  refine draw_c (zs := script.take 50) (by assumption) (by assumption) (by assumption) N1 (by assumption) (by rfl) (.head _) hI50 (by omega) (by decide) (by decide) ?_ (by ktr_room) (by ktr_units) ?_
  · k_not
  intro r0 tr0 tn1 np1 h1 tk1 hr0 F1 N1
  k_steps
  refine stop_out ?_
  rename News _ _ _ _ => N2
  refine For_turns (by assumption) ?_
  k_steps
  refine stop_out ?_
  rename_i rl _ lrl Dt _ _ _ _ _ F2
  have lrl1 := ltN lrl.1
  have lrl2 := ltN lrl.2
  have N3 := news_sub (l' := (pa, W.listOf #[.ref Dl, .int (0 + 1) tn1] np1) :: (rl, W.listOf #[] 0) :: (Dl, W.listOf ws.toArray 0) :: []) N2 (by k_ownname)
  clear N2
  refine draw_c (rest := (rl, W.listOf #[] 0) :: (Dl, W.listOf ws.toArray 0) :: []) (zs := script.take 50) (by assumption) (by assumption) (by assumption) N3 (by assumption) (by rfl) (.tail _ (.head _)) hI50 (by omega) (by decide) (by decide) ?_ (by ktr_room) (by ktr_units) ?_
  · k_not
  intro r1 tr1 tn2 np2 h2 tk2 hr1 F3 N4
  k_steps
  refine stop_out ?_
  rename IsRange _ _ _ _ _ _ _ _ => hr
  rename News _ _ _ _ => N5
  rename_i F3 N4 hx _ _ _ _ F4b Ex
  clear F3 N4 F2 N3 Ex
  have hn12 : (1 + r1).toNat ≤ 12 := by omega
  refine range_loop (n := (1 + r1).toNat) (fun I pre m nw => ∃ (as : List (Addr × Row)) (tn : Tok) (np nd : Nat) (rs : List (Addr × Obj)), m (Str.ofString "pan") = some (.ref pa) ∧ m (Str.ofString "limit") = some (.int (1 + r0) tk1) ∧ m (Str.ofString "rows") = some (.ref rl) ∧
      nw = (pa, W.listOf #[.ref Dl, .int (2 + 3 * (pre.length : Int)) tn] np) :: (rl, W.listOf (rowVs as) nd) :: (Dl, W.listOf ws.toArray 0) :: rs ∧ RowAll rs as ∧ as.length = pre.length ∧ (∀ p ∈ rs, @LT.lt Nat _ I p.1) ∧ (@LT.lt Nat _ rl I)) rfl (by assumption) N5 hr (small_one (by decide) (by decide) (by omega) (by omega)) (by rw [rangeSize_nat, Int.sub_zero]) ?_ ?_ ?_
  · intro I hI
    have e0 : (0 : Int) + 1 + 1 = 2 + 3 * (([] : List Nat).length : Int) := by simp
    refine ⟨[], tn2, np2, 0, [], ?_, ?_, ?_, ?_, ?_, rfl, ?_, ?_⟩
    · rfl
    · rfl
    · rfl
    · rw [e0]; rfl
    · intro p hp; cases hp
    · intro p hp; cases hp
    · exact hI (rl, W.listOf #[] 0) (.tail _ (.head _))
  · rintro I m nw h3 tk3 ⟨as, tn3, np3, nd, rs, e1, e2, e3, rfl, hall, hlen, hrs, hI⟩ F4 N6
    have F5 := fr_puts [(Str.ofString "pan", .ref pa), (Str.ofString "limit", .int (1 + r0) tk1), (Str.ofString "rows", .ref rl)] F4 (by simp [e1, e2, e3])
    clear F4 e1 e2 e3 N5 hr F4b
    w_top off
    rename World => wld
    rename (as.length = _) => hlenA
    rw [List.length_range] at hlenA
    have hlen12 : as.length ≤ 12 := by omega
    have hpaI : @LT.lt Nat _ pa I := by omega
    obtain ⟨R1, hR1⟩ : ∃ R1, R1 = (rl, W.listOf (rowVs as) nd) :: (Dl, W.listOf ws.toArray 0) :: rs := ⟨_, rfl⟩
    rw [← hR1] at N6
    have rRl : (rl, W.listOf (rowVs as) nd) ∈ R1 := by rw [hR1]; exact .head _
    have rDl : (Dl, W.listOf ws.toArray 0) ∈ R1 := by rw [hR1]; exact .tail _ (.head _)
    have rRows : RowsIn R1 rl as := ⟨⟨nd, rRl⟩, fun p hp => let ⟨ta, tb, tc, n, a⟩ := (hall p hp).1; ⟨ta, tb, tc, n, by rw [hR1]; exact .tail _ (.tail _ a)⟩⟩
    have rOff : ∀ p ∈ R1, p.1 ≠ pa := by
      intro p hp
      rw [hR1] at hp
      rcases List.mem_cons.mp hp with h | h
      · subst h; exact Nat.ne_of_gt lrl1
      rcases List.mem_cons.mp h with h | h
      · subst h; exact Nat.ne_of_lt lpa
      · exact Nat.ne_of_gt (Nat.lt_trans hpaI (hrs p h))
    have hok2 : ∀ p ∈ as, Row2Ok p.2 := fun p hp => (hall p hp).2
    have hok1 : ∀ p ∈ as, RowOk p.2 := fun p hp => (hok2 p hp).ok
    obtain ⟨opan, hopan⟩ : ∃ o, o = W.listOf #[.ref Dl, .int (2 + 3 * ((List.range (1 + r1).toNat).length : Int)) tn3] np3 := ⟨_, rfl⟩
    rw [← hopan] at N6
    have hlim : 1 ≤ 1 + r0 ∧ 1 + r0 ≤ 400 := by omega
    obtain ⟨lim, hlimE⟩ : ∃ lim, lim = 1 + r0 := ⟨_, rfl⟩
    rw [← hlimE] at F5 hlim
    clear hR1 hrs hall
    k_steps
    refine stop_out ?_
    rename News _ _ _ _ => N7
    have rR2 : RowsIn ((pa, opan) :: R1) rl as := ⟨let ⟨n, a⟩ := rRows.1; ⟨n, .tail _ a⟩, fun p hp => let ⟨ta, tb, tc, n, a⟩ := rRows.2 p hp; ⟨ta, tb, tc, n, .tail _ a⟩⟩
    refine filled_c (as := as) (by assumption) (by assumption) (by assumption) N7 (by assumption) (by rfl) hlim rR2 hok1 (by omega) (by ktr_room) (by ktr_units) ?_
    intro x d sc o t1 t2 h4 tk4 F6 N8 l1 l2 l3 Tb
    k_steps
    refine stop_out ?_
    rename News _ _ _ _ => N9
    obtain ⟨W0, hW0, N10⟩ := news_ex N9
    clear N9
    have wH : HistIn wld W0 x d sc lim := ⟨t1, t2, tk1, by rw [hW0]; k_exc, by rw [hW0]; k_exc⟩
    have wsc : (sc, o) ∈ W0 := by rw [hW0]; exact .head _
    have wSub : ∀ p ∈ R1, p ∈ W0 := fun p hp => by rw [hW0]; k_exc
    have wRows : RowsIn W0 rl as := ⟨let ⟨n, a⟩ := rRows.1; ⟨n, wSub _ a⟩, fun p hp => let ⟨ta, tb, tc, n, a⟩ := rRows.2 p hp; ⟨ta, tb, tc, n, wSub _ a⟩⟩
    have wrl := wSub _ rRl
    refine scores_c (by assumption) (by assumption) (by assumption) N10 (by assumption) (by rfl) wH wsc Tb (by ktr_room) (by ktr_units) ?_
    intro DS y1 y2 y3 y4 h5 tk5 F7 N11 lDS
    clear N10
    obtain ⟨v05, h05⟩ : ∃ v, v = kdfLook (fillC lim [] (as.map (·.2))) (hkey 0 5) 0 := ⟨_, rfl⟩
    obtain ⟨v06, h06⟩ : ∃ v, v = kdfLook (fillC lim [] (as.map (·.2))) (hkey 0 6) 0 := ⟨_, rfl⟩
    obtain ⟨v15, h15⟩ : ∃ v, v = kdfLook (fillC lim [] (as.map (·.2))) (hkey 1 5) 0 := ⟨_, rfl⟩
    obtain ⟨v16, h16⟩ : ∃ v, v = kdfLook (fillC lim [] (as.map (·.2))) (hkey 1 6) 0 := ⟨_, rfl⟩
    rw [← h05, ← h06, ← h15, ← h16] at N11
    obtain ⟨oS, hoS⟩ : ∃ o, o = lst [.int v05 y1, .int v06 y2, .int v15 y3, .int v16 y4] := ⟨_, rfl⟩
    rw [← hoS] at N11
    k_steps
    refine stop_out ?_
    refine listComp_start (by assumption) (by with_unfolding_all rfl) (by decide) (by rfl) (by decide) ?_
    k_steps
    refine stop_out ?_
    rename News _ _ _ _ => N12
    obtain ⟨nw0, hnw0, N13⟩ := news_ex N12
    have n0 : ∀ p ∈ W0, p ∈ nw0 := fun p hp => by rw [hnw0]; exact .tail _ hp
    have n1 : (DS, oS) ∈ nw0 := by rw [hnw0]; exact .head _
    refine lc_list (news := nw0) (ax := rl) (lo := W.listOf (rowVs as) nd) (vs := as.map fun p => .ref p.1) rfl (by assumption) N13 (n0 _ wrl) rfl rfl ?_
    intro I1 hI1 C1 D1 hh1 tkc1 oC1 m1 hCD1 hlow1 hws1 Fc1 hC1 Nc1 S1
    rw [List.map_map] at S1
    have hIC1 := hws1 I1 (.head _)
    refine comp_pre (C := C1) (D := D1) as (fun p : Addr × Row => .val (.ref p.1)) (fun pre m₂ ys nw => (∀ p ∈ nw0, p ∈ nw) ∧ ∃ ds, NegIn nw ys ds pre) S1
      (turn_last1 _ _ _ _ _ _ _ _ _) emL_ok emL_mono ?_ Fc1 hC1 Nc1 ?_ ⟨fun _ h => h, [], rfl, rfl, nofun⟩ ?_ ?_ ?_
    · intro b hb
      rw [List.mem_singleton.mp hb]
      exact ⟨Nat.ne_of_lt hIC1.1, Nat.ne_of_lt hIC1.2⟩
    · exact off_of (fun b hb p hp => by rw [List.mem_singleton.mp hb]; exact Nat.ne_of_lt (hI1 p hp)) hlow1
    · rintro r m₂ ys nw ⟨hsub, _⟩ p hp
      rw [List.mem_singleton.mp hp]; exact hsub _ (n0 _ wrl)
    · rintro pre z suf m₂ ys nw v h tk its oC hxs ⟨hsub, ds, hds1, hds2, hds3⟩ hv hits F8 hC8 N16 off8
      subst hv
      obtain ⟨oI3, rfl, hoI3⟩ := objs_one hits
      obtain ⟨ta, tb, tc, nn, hrow⟩ := wRows.2 z (by rw [hxs]; simp)
      have hT := News.isTup N16 (List.mem_append_right _ (.tail _ (.tail _ (hsub _ (n0 _ hrow)))))
      refine cassign3 (its := [(I1, oI3)]) rfl rfl rfl rfl (by decide) (by decide) (by decide) rfl rfl F8 hC8 N16 ?_ ?_ hT ?_
      · intro b hb; rw [List.mem_singleton.mp hb]; exact Nat.ne_of_lt hIC1.1
      · intro p hp
        rcases List.mem_cons.mp hp with rfl | hp
        · exact hCD1.symm
        · exact (off8 p hp).2.1
      intro h9 tk9 oC9 m9 e91 e92 e93 r9 F9 hC9 N17
      simp only [List.cons_append, List.nil_append] at N17
      refine wpAny_tests_nil ?_
      rw [if_pos rfl]
      have hlx := congrArg List.length hxs
      simp only [List.length_append, List.length_cons] at hlx
      have hyl : ys.length = pre.length := by
        have a1 := congrArg List.length hds1
        have a2 := congrArg List.length hds2
        simp only [List.length_map] at a1 a2
        omega
      have hyl9 : ys.length ≤ 16777216 := by omega
      refine cemit (ys := ys) hCD1 ?_ (line_of hyl9) ?_
      · intro b hb
        rw [List.mem_singleton.mp hb]
        exact ⟨Nat.ne_of_lt hIC1.1, Nat.ne_of_lt hIC1.2⟩
      clear F8 N16 hlx hyl9 hT
      k_steps
      rename News _ _ _ _ => N18
      rename_i D9 h10 F10 l10
      obtain ⟨tz, N18⟩ : ∃ tz, News _ _ _ ((D9, tupObj #[.int z.2.1 ta, .int z.2.2.1 tb, .int (-z.2.2.2) tz] 0) :: _) := ⟨_, N18⟩
      refine ⟨h10, _, oC9, m9, ys, (D9, tupObj #[.int z.2.1 ta, .int z.2.2.1 tb, .int (-z.2.2.2) tz] 0) :: nw, rfl, F10, hC9, news_sub N18 ?_, ?_, rfl, fun p hp => .tail _ (hsub p hp), ds ++ [(D9, negR z.2)], ?_, ?_, ?_⟩
      · intro p hp
        simp only [List.mem_cons, List.cons_append, List.nil_append] at hp ⊢
        rcases hp with h | h | h | h | h
        · exact .inr (.inl h)
        · exact .inr (.inr (.inl h))
        · exact .inr (.inr (.inr (.inl h)))
        · exact .inl h
        · exact .inr (.inr (.inr (.inr h)))
      · refine off_cons ⟨fun hb => ?_, ?_, ?_⟩ off8
        · exact Nat.ne_of_gt l10.1 (List.mem_singleton.mp hb)
        · exact Nat.ne_of_gt l10.2.1
        · exact Nat.ne_of_gt l10.2.2.1
      · rw [List.map_append, hds1]; rfl
      · rw [List.map_append, List.map_append, hds2]; rfl
      · intro p hp
        rcases List.mem_append.mp hp with hp | hp
        · exact (hds3 p hp).sub fun _ h => .tail _ h
        · rw [List.mem_singleton.mp hp]; exact ⟨_, _, _, _, .head _⟩
    · rintro m₂ ysN nwN h tk oC ⟨hsubN, ds, hds1, hds2, hds3⟩ F8 hC8 N16 off8
      refine ⟨rfl, h, tk, oC, m₂, _, _, rfl, F8, hC8, N16, fun p hp => (off8 p hp).2.1, fun h'' F'' N'' => ?_⟩
      clear F8 N16 Nc1 Fc1 N13 hI1 hlow1 hws1 hIC1 S1 hC1 hC8 off8
      subst hds1
      k_steps
      refine stop_out ?_
      have hdl : ds.length = as.length := by have := congrArg List.length hds2; simpa using this
      have nRows : RowsIn ((D1, lst (ds.map fun p => Value.ref p.1)) :: nwN) D1 ds := ⟨⟨(ds.map fun p => Value.ref p.1).length, .head _⟩, fun p hp => (hds3 p hp).sub fun _ h => .tail _ h⟩
      have nok : ∀ p ∈ ds, RowOk p.2 := by
        intro p hp
        have h1 : p.2 ∈ ds.map (·.2) := List.mem_map_of_mem hp
        rw [hds2] at h1
        obtain ⟨q, hq, e⟩ := List.mem_map.mp h1
        rw [← e]
        exact (hok2 q hq).neg
      rename News _ _ _ _ => N19
      refine filled_c (as := ds) (by assumption) (by assumption) (by assumption) N19 (by assumption) (by rfl) hlim nRows nok (by omega) (by ktr_room) (by ktr_units) ?_
      intro x2 d2 sc2 o2 u1 u2 h12 tk12 F12 N20 q1 q2 q3 Tb2
      rw [hds2] at Tb2
      k_steps
      refine stop_out ?_
      have e7 : as.map (fun p => negR p.2) = (as.map (·.2)).map negR := by rw [List.map_map]; rfl
      rw [e7] at Tb2
      rename News _ _ _ _ => N21
      refine scores_c (sc := sc2) (d := d2) (lim := lim) (by assumption) (by assumption) (by assumption) N21 (by assumption) (by rfl) ⟨u1, u2, tk1, .tail _ (.head _), .tail _ (.tail _ (.head _))⟩ (.head _) Tb2 (by ktr_room) (by ktr_units) ?_
      intro D2 z1 z2 z3 z4 h13 tk13 F13 N22 lD2
      rw [neg_law hlim.1, neg_law hlim.1, neg_law hlim.1, neg_law hlim.1, ← h05, ← h06, ← h15, ← h16] at N22
      have N23 := news_sub (l' := (D2, lst [.int (-v05) z1, .int (-v06) z2, .int (-v15) z3, .int (-v16) z4]) :: nw0) N22 (by
        intro p hp
        rcases List.mem_cons.mp hp with h | h
        · subst h; exact .head _
        · exact .tail _ (.tail _ (.tail _ (.tail _ (.tail _ (hsubN _ h))))))
      clear N22 N21
      k_steps
      refine stop_out ?_
      clear nRows nok q1 lD2 hds2 hds3 hsubN
      have n2 : (DS, lst [.int v05 y1, .int v06 y2, .int v15 y3, .int v16 y4]) ∈ nw0 := hoS ▸ n1
      refine listComp_start (by assumption) (by with_unfolding_all rfl) (by decide) (by rfl) (by decide) ?_
      k_steps
      refine stop_out ?_
      rename News _ _ _ _ => N24
      obtain ⟨nw1, hnw1, N25⟩ := news_ex N24
      have n3 : (DS, lst [.int v05 y1, .int v06 y2, .int v15 y3, .int v16 y4]) ∈ nw1 := by rw [hnw1]; exact .tail _ n2
      refine lc_list (news := nw1) (ax := DS) (lo := lst [.int v05 y1, .int v06 y2, .int v15 y3, .int v16 y4]) rfl (by assumption) N25 n3 rfl rfl ?_
      intro I1 hI1 C1 D3 hh1 tkc1 oC1 m1 hCD1 hlow1 hws1 Fc1 hC1 Nc1 S1
      have hIC1 := hws1 I1 (.head _)
      refine comp_pre (C := C1) (D := D3) [(v05, y1), (v06, y2), (v15, y3), (v16, y4)] (fun p : Int × Tok => .val (.int p.1 p.2)) (fun pre m₂ ys nw => nw = nw1 ∧ ys.length ≤ pre.length ∧ IntsAre ys (pre.map fun p => -p.1)) S1
        (turn_last1 _ _ _ _ _ _ _ _ _) emL_ok emL_mono ?_ Fc1 hC1 Nc1 ?_ ⟨rfl, Nat.le_refl _, .nil⟩ ?_ ?_ ?_
      · intro b hb
        rw [List.mem_singleton.mp hb]
        exact ⟨Nat.ne_of_lt hIC1.1, Nat.ne_of_lt hIC1.2⟩
      · exact off_of (fun b hb p hp => by rw [List.mem_singleton.mp hb]; exact Nat.ne_of_lt (hI1 p hp)) hlow1
      · rintro r m₂ ys nw ⟨rfl, _⟩ p hp
        rw [List.mem_singleton.mp hp]; exact n3
      · rintro pre z suf m₂ ys nw v h tk its oC hxs ⟨rfl, hyl, hys⟩ hv hits F8 hC8 N16 off8
        subst hv
        obtain ⟨oI3, rfl, hoI3⟩ := objs_one hits
        refine cassign_name (its := [(I1, oI3)]) rfl rfl rfl F8 hC8 N16 ?_ ?_ ?_
        · intro b hb; rw [List.mem_singleton.mp hb]; exact Nat.ne_of_lt hIC1.1
        · intro p hp
          rcases List.mem_cons.mp hp with rfl | hp
          · exact hCD1.symm
          · exact (off8 p hp).2.1
        intro h9 tk9 oC9 m9 e9 r9 F9 hC9 N17
        simp only [List.cons_append, List.nil_append] at N17
        refine wpAny_tests_nil ?_
        rw [if_pos rfl]
        have hlx := congrArg List.length hxs
        simp only [List.length_append, List.length_cons, List.length_nil] at hlx
        have hyl9 : ys.length ≤ 16777216 := by omega
        refine cemit (ys := ys) hCD1 ?_ (line_of hyl9) ?_
        · intro b hb
          rw [List.mem_singleton.mp hb]
          exact ⟨Nat.ne_of_lt hIC1.1, Nat.ne_of_lt hIC1.2⟩
        clear F8 N16 hlx hyl9
        k_steps
        refine ⟨_, _, oC9, m9, ys, nw, rfl, F9, hC9, N17, off8, rfl, rfl, ?_, ?_⟩
        · rw [List.length_append, List.length_append, List.length_singleton, List.length_singleton]; omega
        · rw [List.map_append]
          exact intsAre_snoc hys
      · rintro m₂ ysN2 nwN2 h tk oC ⟨rfl, hyl, hys⟩ F8 hC8 N16 off8
        obtain ⟨x1, x2', x3, x4, rfl⟩ := intsAre_four hys
        refine ⟨rfl, h, tk, oC, m₂, _, _, rfl, F8, hC8, N16, fun p hp => (off8 p hp).2.1, fun h'' F'' N'' => ?_⟩
        rw [hnw1] at N''
        clear F8 N16 Nc1 Fc1 N25 N24 hI1 hlow1 hws1 hIC1 S1 hC1 hC8 off8 hys
        k_steps
        refine stop_out ?_
        have N30 := news_sub (l' := nw0) N'' (fun _ h => .tail _ (.tail _ h))
        clear N'' hyl n3 hnw1 e7 Tb2 q2 q3 F13 F12 n2 hCD1
        refine listComp_start (by assumption) (by with_unfolding_all rfl) (by decide) (by rfl) (by decide) ?_
        k_steps
        refine stop_out ?_
        rename News _ _ _ _ => N31
        refine lc_list (news := nw0) (ax := rl) (lo := W.listOf (rowVs as) nd) (vs := as.map fun p => .ref p.1) rfl (by assumption) N31 (n0 _ wrl) rfl rfl ?_
        intro I1 hI1 C1 D1 hh1 tkc1 oC1 m1 hCD1 hlow1 hws1 Fc1 hC1 Nc1 S1
        rw [List.map_map] at S1
        have hIC1 := hws1 I1 (.head _)
        refine comp_pre (C := C1) (D := D1) as (fun p : Addr × Row => .val (.ref p.1)) (fun pre m₂ ys nw => nw = nw0 ∧ ys = (selA 1 pre).map fun p => Value.ref p.1) S1
          (turn_last1 _ _ _ _ _ _ _ _ _) emL_ok emL_mono ?_ Fc1 hC1 Nc1 ?_ ⟨rfl, rfl⟩ ?_ ?_ ?_
        · intro b hb
          rw [List.mem_singleton.mp hb]
          exact ⟨Nat.ne_of_lt hIC1.1, Nat.ne_of_lt hIC1.2⟩
        · exact off_of (fun b hb p hp => by rw [List.mem_singleton.mp hb]; exact Nat.ne_of_lt (hI1 p hp)) hlow1
        · rintro r m₂ ys nw ⟨rfl, _⟩ p hp
          rw [List.mem_singleton.mp hp]; exact n0 _ wrl
        · rintro pre z suf m₂ ys nw v h tk its oC hxs ⟨rfl, hys⟩ hv hits F8 hC8 N16 off8
          subst hv
          obtain ⟨oI3, rfl, hoI3⟩ := objs_one hits
          obtain ⟨ta, tb, tc, nn, hrow0⟩ := wRows.2 z (by rw [hxs]; simp)
          have hrow := n0 _ hrow0
          clear hrow0
          refine cassign_name (its := [(I1, oI3)]) rfl rfl rfl F8 hC8 N16 ?_ ?_ ?_
          · intro b hb; rw [List.mem_singleton.mp hb]; exact Nat.ne_of_lt hIC1.1
          · intro p hp
            rcases List.mem_cons.mp hp with rfl | hp
            · exact hCD1.symm
            · exact (off8 p hp).2.1
          intro h9 tk9 oC9 m9 e9 r9 F9 hC9 N17
          simp only [List.cons_append, List.nil_append] at N17
          refine wpAny_tests_one ?_
          have hlx := congrArg List.length hxs
          simp only [List.length_append, List.length_cons] at hlx
          have hyl9 : ys.length ≤ 16777216 := by
            rw [hys, List.length_map]
            have := selA_len 1 pre
            omega
          clear F8 N16 hlx
          k_steps
          · refine cemit (ys := ys) hCD1 ?_ (line_of hyl9) ?_
            · intro b hb
              rw [List.mem_singleton.mp hb]
              exact ⟨Nat.ne_of_lt hIC1.1, Nat.ne_of_lt hIC1.2⟩
            k_steps
            rename (z.2.1 = 1) => hz1
            refine ⟨_, _, oC9, m9, ys, nw, rfl, F9, hC9, N17, off8, rfl, rfl, ?_⟩
            rw [selA_snoc, if_pos hz1, List.map_append, hys]; rfl
          · rename (z.2.1 ≠ 1) => hz1
            refine ⟨_, _, oC9, m9, ys, nw, rfl, F9, hC9, N17, off8, rfl, ?_⟩
            rw [selA_snoc, if_neg hz1, List.append_nil, hys]
        · rintro m₂ ysA nwA h tk oC ⟨rfl, hysA⟩ F8 hC8 N16 off8
          subst hysA
          refine ⟨rfl, h, tk, oC, m₂, _, _, rfl, F8, hC8, N16, fun p hp => (off8 p hp).2.1, fun h'' F'' N'' => ?_⟩
          clear F8 N16 Nc1 Fc1 N31 hI1 hlow1 hws1 hIC1 S1 hC1 hC8 off8 hCD1
          k_steps
          refine stop_out ?_
          refine listComp_start (by assumption) (by with_unfolding_all rfl) (by decide) (by rfl) (by decide) ?_
          k_steps
          refine stop_out ?_
          rename News _ _ _ _ => N32
          obtain ⟨nw1, hnw1, N33⟩ := news_ex N32
          have n3 : ∀ p ∈ W0, p ∈ nw1 := fun p hp => by rw [hnw1]; exact .tail _ (n0 _ hp)
          refine lc_list (news := nw1) (ax := rl) (lo := W.listOf (rowVs as) nd) (vs := as.map fun p => .ref p.1) rfl (by assumption) N33 (n3 _ wrl) rfl rfl ?_
          intro I1 hI1 C1 D2 hh1 tkc1 oC1 m1 hCD1 hlow1 hws1 Fc1 hC1 Nc1 S1
          rw [List.map_map] at S1
          have hIC1 := hws1 I1 (.head _)
          refine comp_pre (C := C1) (D := D2) as (fun p : Addr × Row => .val (.ref p.1)) (fun pre m₂ ys nw => nw = nw1 ∧ ys = (selA 0 pre).map fun p => Value.ref p.1) S1
            (turn_last1 _ _ _ _ _ _ _ _ _) emL_ok emL_mono ?_ Fc1 hC1 Nc1 ?_ ⟨rfl, rfl⟩ ?_ ?_ ?_
          · intro b hb
            rw [List.mem_singleton.mp hb]
            exact ⟨Nat.ne_of_lt hIC1.1, Nat.ne_of_lt hIC1.2⟩
          · exact off_of (fun b hb p hp => by rw [List.mem_singleton.mp hb]; exact Nat.ne_of_lt (hI1 p hp)) hlow1
          · rintro r m₂ ys nw ⟨rfl, _⟩ p hp
            rw [List.mem_singleton.mp hp]; exact n3 _ wrl
          · rintro pre z suf m₂ ys nw v h tk its oC hxs ⟨rfl, hys⟩ hv hits F8 hC8 N16 off8
            subst hv
            obtain ⟨oI3, rfl, hoI3⟩ := objs_one hits
            obtain ⟨ta, tb, tc, nn, hrow0⟩ := wRows.2 z (by rw [hxs]; simp)
            have hrow := n3 _ hrow0
            clear hrow0
            refine cassign_name (its := [(I1, oI3)]) rfl rfl rfl F8 hC8 N16 ?_ ?_ ?_
            · intro b hb; rw [List.mem_singleton.mp hb]; exact Nat.ne_of_lt hIC1.1
            · intro p hp
              rcases List.mem_cons.mp hp with rfl | hp
              · exact hCD1.symm
              · exact (off8 p hp).2.1
            intro h9 tk9 oC9 m9 e9 r9 F9 hC9 N17
            simp only [List.cons_append, List.nil_append] at N17
            refine wpAny_tests_one ?_
            have hlx := congrArg List.length hxs
            simp only [List.length_append, List.length_cons] at hlx
            have hyl9 : ys.length ≤ 16777216 := by
              rw [hys, List.length_map]
              have := selA_len 0 pre
              omega
            clear F8 N16 hlx
            k_steps
            · refine cemit (ys := ys) hCD1 ?_ (line_of hyl9) ?_
              · intro b hb
                rw [List.mem_singleton.mp hb]
                exact ⟨Nat.ne_of_lt hIC1.1, Nat.ne_of_lt hIC1.2⟩
              k_steps
              rename (z.2.1 = 0) => hz1
              refine ⟨_, _, oC9, m9, ys, nw, rfl, F9, hC9, N17, off8, rfl, rfl, ?_⟩
              rw [selA_snoc, if_pos hz1, List.map_append, hys]; rfl
            · rename (z.2.1 ≠ 0) => hz1
              refine ⟨_, _, oC9, m9, ys, nw, rfl, F9, hC9, N17, off8, rfl, ?_⟩
              rw [selA_snoc, if_neg hz1, List.append_nil, hys]
          · rintro m₂ ysB nwB h tk oC ⟨rfl, hysB⟩ F8 hC8 N16 off8
            subst hysB
            refine ⟨rfl, h, tk, oC, m₂, _, _, rfl, F8, hC8, N16, fun p hp => (off8 p hp).2.1, fun h'' F'' N'' => ?_⟩
            rw [hnw1] at N''
            clear F8 N16 Nc1 Fc1 N33 N32 hI1 hlow1 hws1 hIC1 S1 hC1 hC8 off8 hCD1
            k_steps
            refine stop_out ?_
            have hs1 := selA_len 1 as
            have hs0 := selA_len 0 as
            refine add_objs F'' N'' (.tail _ (.head _)) (.head _) (by rw [List.length_map, List.length_map]; omega) ?_
            intro DA hA lA FA NA
            have NB := news_sub (l' := (DA, W.listOf ((selA 1 as).map (fun p => Value.ref p.1) ++ (selA 0 as).map fun p => Value.ref p.1).toArray 0) :: nwA) NA (by
              intro p hp
              rcases List.mem_cons.mp hp with h | h
              · subst h; exact .head _
              · exact .tail _ (.tail _ (.tail _ h)))
            clear NA N'' lA hnw1 n3
            rw [← List.map_append] at NB
            k_steps
            refine stop_out ?_
            rename News _ _ _ _ => N34
            have aRows : RowsIn ((DA, W.listOf ((selA 1 as ++ selA 0 as).map fun p => Value.ref p.1).toArray 0) :: nwA) DA (selA 1 as ++ selA 0 as) := ⟨⟨0, .head _⟩, fun p hp => (wRows.2 p (by
              rcases List.mem_append.mp hp with h | h
              · exact selA_mem h
              · exact selA_mem h)).sub fun _ h => .tail _ (n0 _ h)⟩
            have aok : ∀ p ∈ selA 1 as ++ selA 0 as, RowOk p.2 := fun p hp => hok1 p (by
              rcases List.mem_append.mp hp with h | h
              · exact selA_mem h
              · exact selA_mem h)
            refine filled_c (as := selA 1 as ++ selA 0 as) (by assumption) (by assumption) (by assumption) N34 (by assumption) (by rfl) hlim aRows aok (by rw [List.length_append]; omega) (by ktr_room) (by ktr_units) ?_
            intro x2 d2 sc2 o2 u1 u2 h12 tk12 F12 N20 q1 q2 q3 Tb2
            clear aRows aok
            k_steps
            refine stop_out ?_
            rename News _ _ _ _ => N21
            refine scores_c (sc := sc2) (d := d2) (lim := lim) (by assumption) (by assumption) (by assumption) N21 (by assumption) (by rfl) ⟨u1, u2, tk1, .tail _ (.head _), .tail _ (.tail _ (.head _))⟩ (.head _) Tb2 (by ktr_room) (by ktr_units) ?_
            intro D2 z1 z2 z3 z4 h13 tk13 F13 N22 lD2
            rw [apart_law (.inl rfl) (by decide) as hok2, apart_law (.inl rfl) (by decide) as hok2, apart_law (.inr rfl) (by decide) as hok2, apart_law (.inr rfl) (by decide) as hok2, ← h05, ← h06, ← h15, ← h16] at N22
            have N23 := news_sub (l' := (D2, lst [.int v05 z1, .int v06 z2, .int v15 z3, .int v16 z4]) :: (DS, oS) :: W0) N22 (by
              intro p hp
              rcases List.mem_cons.mp hp with h | h
              · subst h; exact .head _
              · exact .tail _ (.tail _ (.tail _ (.tail _ (.tail _ (by rw [hnw0]; exact h))))))
            rw [hoS] at N23
            clear N22 N21 q1 q2 q3 Tb2 lD2
            k_steps
            refine stop_out ?_
            have N24 := news_sub (l' := W0) N23 (fun _ h => .tail _ (.tail _ h))
            clear N23
            refine steps_c (as := as) (by assumption) (by assumption) (by assumption) N24 (by assumption) (by rfl) hlim wRows hok1 (by omega) (by ktr_room) (by ktr_units) ?_
            intro h14 tk14 F14 N25
            clear N24
            k_steps
            refine stop_out ?_
            rename News _ _ _ _ => N26
            obtain ⟨V0, hV0⟩ : ∃ V0, V0 = (sc, o) :: (x, instObj 105 d) :: (pa, opan) :: R1 := ⟨_, rfl⟩
            have N27 := news_sub (l' := (d, histD wld t1 t2 tk1 lim sc) :: V0) N26 (by
              intro p hp
              rw [hW0]
              rw [hV0] at hp
              simp only [List.mem_cons] at hp ⊢
              rcases hp with h | h | h | h | h <;> simp [h])
            have vx : (x, instObj 105 d) ∈ V0 := by rw [hV0]; exact .tail _ (.head _)
            have vsc : (sc, o) ∈ V0 := by rw [hV0]; exact .head _
            have voff : ∀ p ∈ V0, p.1 ≠ d := by
              intro p hp
              rw [hV0] at hp
              rcases List.mem_cons.mp hp with h | h
              · subst h; exact Nat.ne_of_gt (Nat.lt_trans l2 l3)
              rcases List.mem_cons.mp h with h | h
              · subst h; exact Nat.ne_of_gt l2
              · exact Nat.ne_of_lt (l1 p h)
            have hlc : (fillC lim [] (as.map (·.2))).length ≤ 1000 := by
              have := fillC_len lim (as.map (·.2)) []
              rw [List.length_map] at this
              simp at this
              omega
            clear N26
            refine aged_c (by assumption) (by assumption) (by assumption) N27 (by assumption) (by rfl) vx vsc Tb hlim (TabOk.fill hlim.1 _ _ (tabOk_nil hlim.1)) hlc voff (by ktr_room) (by ktr_units) ?_
            intro h15 tk15 F15 N28
            clear N27
            k_steps
            refine stop_out ?_
            rename News _ _ _ _ => N29
            have N35 := news_sub (l' := (pa, opan) :: R1) N29 (by rw [hV0]; intro p hp; exact .tail _ (.tail _ hp))
            clear N29 vx vsc voff hlc hV0
            rw [hopan] at N35
            rw [List.length_range] at N35
            refine draw_c (rest := R1) (zs := script.take 50) (by assumption) (by assumption) (by assumption) N35 (by assumption) (by rfl) rDl hI50 (by omega) (by omega) (by decide) rOff (by ktr_room) (by ktr_units) ?_
            intro q6 tq6 tn6 np6 h16 tk16 hq6 F16 N36
            have N37 := news_sub (l' := R1) N36 (fun _ h => .tail _ h)
            clear N36 N35
            k_steps
            refine stop_out ?_
            refine listComp_start (by assumption) (by with_unfolding_all rfl) (by decide) (by rfl) (by decide) ?_
            k_steps
            rename News _ _ _ _ => N38
            refine lc_enum (news := R1) (l := rl) (lo := W.listOf (rowVs as) nd) (vs := as.map fun p => .ref p.1) rfl (by assumption) N38 rRl rfl rfl ?_
            intro I hI C D h3 tk3 oC m₂ hCD hlow hws F3 hC N3 S
            rw [enumAs_items] at S
            have hIC := hws I (.tail _ (.head _))
            have hEC := hws (I + 1) (.head _)
            have hii : ∀ b ∈ [I + 1, I], b ≠ C ∧ b ≠ D := by
              intro b hb
              rcases List.mem_cons.mp hb with h | h
              · subst h; exact ⟨Nat.ne_of_lt hEC.1, Nat.ne_of_lt hEC.2⟩
              · rw [List.mem_singleton.mp h]; exact ⟨Nat.ne_of_lt hIC.1, Nat.ne_of_lt hIC.2⟩
            refine comp_pre (enumAs 0 as) (fun q : Nat × (Addr × Row) => Itm.pair (fun t => .int (q.1 : Int) t) (.ref q.2.1)) (fun pre m₂ ys nw => (∀ p ∈ R1, p ∈ nw) ∧ ∃ ps : List (Addr × Ply), ys = ps.map (fun p => Value.ref p.1) ∧ ps.length = 2 * pre.length ∧ PlysAt nw ps) S
              (turn_nest _ _ _ _ _ _ _ _ _ _ _ _) (emN_ok rfl) emN_mono ?_ F3 hC N3 ?_ ⟨fun _ h => h, [], rfl, rfl, fun _ h => nomatch h⟩ ?_ ?_ ?_
            · exact hii
            · refine off_of (fun b hb p hp => ?_) hlow
              rcases List.mem_cons.mp hb with h | h
              · subst h; exact Nat.ne_of_lt (Nat.lt_succ_of_lt (hI p hp))
              · rw [List.mem_singleton.mp h]; exact Nat.ne_of_lt (hI p hp)
            · rintro r m₂ ys nw ⟨hsub, _⟩ p hp
              rw [List.mem_singleton.mp hp]; exact hsub _ rRl
            · rintro pre z suf m₂ ys nw v h tk its oC hxs ⟨hsub, ps, hps1, hps2, hps3⟩ hv hits F4 hC4 N4 off4
              obtain ⟨T9, tt, rfl, hT⟩ := hv
              obtain ⟨oE, oI, rfl, hoE, hoI⟩ := objs_two hits
              have hzin : z.2 ∈ as := enumAs_mem as 0 (by rw [hxs]; simp)
              have hz2 := hok2 _ hzin
              obtain ⟨ta, tb, tc, nn, hrow0⟩ := rRows.2 z.2 hzin
              have hrow := hsub _ hrow0
              have hlx := congrArg List.length hxs
              rw [enumAs_len, List.length_append, List.length_cons] at hlx
              refine cassign2 (its := [(I + 1, oE), (I, oI)]) rfl rfl rfl (by decide) rfl rfl F4 hC4 N4 ?_ ?_ hT ?_
              · intro b hb; exact (hii b hb).1
              · intro p hp
                rcases List.mem_cons.mp hp with rfl | hp
                · exact hCD.symm
                · exact (off4 p hp).2.1
              intro h5 tk5 oC5 m5 e5 e5' r5 F5 hC5 N5
              simp only [List.cons_append, List.nil_append] at N5
              refine wpAny_tests_nil ?_
              rw [if_pos rfl]
              unfold EmN
              clear F4 N4 hT hrow0
              k_steps
              refine stop_out ?_
              dsimp only at e5
              rename News _ _ _ _ => N6
              rename_i D5 hh5 F6 l11
              obtain ⟨u0, u1, N6⟩ : ∃ u0 u1, News _ _ _ ((D5, tupObj #[.int 0 u0, .int 2 u1] 0) :: (I + 1, oE) :: (I, oI) :: (C, oC5) :: (D, lst ys) :: nw) := ⟨_, _, N6⟩
              have l11C : @LT.lt Nat _ C D5 := l11.2.2.1
              have l11D : @LT.lt Nat _ D D5 := l11.2.2.2.1
              refine ns_tuple (vs := [.int 0 u0, .int 2 u1]) rfl (by assumption) N6 (.head _) rfl rfl ?_
              intro I2 h7 hI2 F7 N7 S7
              have hI2C : @LT.lt Nat _ C I2 := hI2 (C, oC5) (.tail _ (.tail _ (.tail _ (.head _))))
              have hI2D : @LT.lt Nat _ D I2 := hI2 (D, lst ys) (.tail _ (.tail _ (.tail _ (.tail _ (.head _)))))
              have hI25 : @LT.lt Nat _ D5 I2 := hI2 (D5, tupObj #[.int 0 u0, .int 2 u1] 0) (.head _)
              have hyl : ys.length ≤ 24 := by rw [hps1, List.length_map]; omega
              refine comp_pre (C := C) (D := D) (news := (D5, tupObj #[.int 0 u0, .int 2 u1] 0) :: (I + 1, oE) :: (I, oI) :: nw) [(0, u0), (2, u1)] (fun p : Int × Tok => .val (.int p.1 p.2)) (fun pre2 m₂ ys' nw' => ∃ nx, nw' = (D5, tupObj #[.int 0 u0, .int 2 u1] 0) :: (I + 1, oE) :: (I, oI) :: nx ∧ (∀ p ∈ nw, p ∈ nx) ∧ OffC [I + 1, I] C D nx ∧ m₂ (Str.ofString "at") = some (.int (z.1 : Int) tt) ∧ m₂ (Str.ofString "row") = some (.ref z.2.1) ∧
                  ∃ ps2 : List (Addr × Ply), ys' = ys ++ ps2.map (fun p => Value.ref p.1) ∧ ps2.length = pre2.length ∧ PlysAt nx ps2) S7
                (turn_last2 _ _ _ _ _ _ _ _ _ _) emL_ok emL_mono ?_ F7 hC5 (news_sub N7 ?_) ?_ ⟨nw, rfl, fun _ h => h, off4, e5, e5', [], (List.append_nil ys).symm, rfl, fun _ h => nomatch h⟩ ?_ ?_ ?_
              · intro b hb
                rw [List.mem_singleton.mp hb]
                exact ⟨Nat.ne_of_gt hI2C, Nat.ne_of_gt hI2D⟩
              · k_ownname
              · refine off_cons ⟨fun hb => ?_, ?_, ?_⟩ (off_cons ⟨fun hb => ?_, ?_, ?_⟩ (off_cons ⟨fun hb => ?_, ?_, ?_⟩ (fun p hp => ⟨fun hb => ?_, (off4 p hp).2⟩)))
                · exact Nat.ne_of_lt hI25 (List.mem_singleton.mp hb)
                · exact Nat.ne_of_gt l11C
                · exact Nat.ne_of_gt l11D
                · exact Nat.ne_of_lt (hI2 (I + 1, oE) (.tail _ (.head _))) (List.mem_singleton.mp hb)
                · exact Nat.ne_of_lt hEC.1
                · exact Nat.ne_of_lt hEC.2
                · exact Nat.ne_of_lt (hI2 (I, oI) (.tail _ (.tail _ (.head _)))) (List.mem_singleton.mp hb)
                · exact Nat.ne_of_lt hIC.1
                · exact Nat.ne_of_lt hIC.2
                · exact Nat.ne_of_lt (hI2 p (.tail _ (.tail _ (.tail _ (.tail _ (.tail _ hp)))))) (List.mem_singleton.mp hb)
              · rintro r m₂ ys nw ⟨nx, rfl, _⟩ p hp
                rw [List.mem_singleton.mp hp]; exact .head _
              · rintro pre2 y suf2 m₂ ys' nw' v h tk its oC hxs2 ⟨nx, rfl, hnx, offx, eat, erow, ps2, rfl, hpl2, hps2⟩ hv hits F8 hC8 N8 off8
                subst hv
                obtain ⟨oI2, rfl, hoI2⟩ := objs_one hits
                refine cassign_name (its := [(I2, oI2)]) rfl rfl rfl F8 hC8 N8 ?_ ?_ ?_
                · intro b hb; rw [List.mem_singleton.mp hb]; exact Nat.ne_of_gt hI2C
                · intro p hp
                  rcases List.mem_cons.mp hp with rfl | hp
                  · exact hCD.symm
                  · exact (off8 p hp).2.1
                intro h9 tk9 oC9 m9 e9 r9 F9 hC9 N9
                simp only [List.cons_append, List.nil_append] at N9
                refine wpAny_tests_nil ?_
                rw [if_pos rfl]
                have hlx2 := congrArg List.length hxs2
                simp only [List.length_append, List.length_cons, List.length_nil] at hlx2
                have hl9 : (ys ++ ps2.map fun p => Value.ref p.1).length ≤ 16777216 := by rw [List.length_append, List.length_map]; omega
                refine cemit hCD ?_ (line_of hl9) ?_
                · intro b hb
                  rw [List.mem_singleton.mp hb]
                  exact ⟨Nat.ne_of_gt hI2C, Nat.ne_of_gt hI2D⟩
                have eat9 := (r9 (Str.ofString "at") (by decide)).trans eat
                have erow9 := (r9 (Str.ofString "row") (by decide)).trans erow
                have hrow2 := hnx _ hrow
                have hy : y.1 = 0 ∨ y.1 = 2 := by
                  have : y ∈ [((0 : Int), u0), (2, u1)] := by rw [hxs2]; simp
                  simp only [List.mem_cons, List.not_mem_nil, or_false] at this
                  rcases this with h | h <;> subst h <;> simp
                clear F8 N8 hl9 eat erow
                k_steps
                rename News _ _ _ _ => N10
                rename_i D9 h10 F10 l10
                have g1 : @LT.lt Nat _ I2 D9 := l10.1
                have g2 : @LT.lt Nat _ C D9 := l10.2.1
                have g3 : @LT.lt Nat _ D D9 := l10.2.2.1
                have g5 : @LT.lt Nat _ (I + 1) D9 := l10.2.2.2.2.1
                have g6 : @LT.lt Nat _ I D9 := l10.2.2.2.2.2.1
                clear l10
                obtain ⟨ka, kb, N10⟩ : ∃ ka kb, News _ _ _ ((D9, tupObj #[.int (y.1 + z.2.2.1) ka, .int (5 + (z.1 : Int).fmod 3) kb] 0) :: _) := ⟨_, _, N10⟩
                have hf := fmod_bd (z.1 : Int) (b := 3) (by decide)
                have hpok : PlyOk (y.1 + z.2.2.1, 5 + (z.1 : Int).fmod 3) := plyOk_of hz2 hy hf
                refine ⟨h10, _, oC9, m9, ys ++ ps2.map (fun p => Value.ref p.1), (D5, tupObj #[.int 0 u0, .int 2 u1] 0) :: (I + 1, oE) :: (I, oI) :: (D9, tupObj #[.int (y.1 + z.2.2.1) ka, .int (5 + (z.1 : Int).fmod 3) kb] 0) :: nx, rfl, F10, hC9, news_sub N10 ?_, ?_, rfl, (D9, tupObj #[.int (y.1 + z.2.2.1) ka, .int (5 + (z.1 : Int).fmod 3) kb] 0) :: nx, rfl, fun p hp => .tail _ (hnx p hp), ?_, eat9, erow9, ps2 ++ [(D9, (y.1 + z.2.2.1, 5 + (z.1 : Int).fmod 3))], ?_, ?_, ?_⟩
                · intro p hp
                  simp only [List.mem_cons, List.cons_append, List.nil_append] at hp ⊢
                  rcases hp with h | h | h | h | h | h | h | h
                  · exact .inr (.inl h)
                  · exact .inr (.inr (.inl h))
                  · exact .inr (.inr (.inr (.inl h)))
                  · exact .inr (.inr (.inr (.inr (.inl h))))
                  · exact .inr (.inr (.inr (.inr (.inr (.inl h)))))
                  · exact .inr (.inr (.inr (.inr (.inr (.inr (.inl h))))))
                  · exact .inl h
                  · exact .inr (.inr (.inr (.inr (.inr (.inr (.inr h))))))
                · intro p hp
                  simp only [List.mem_cons] at hp
                  rcases hp with h | h | h | h | h
                  · exact off8 p (by rw [h]; exact .head _)
                  · exact off8 p (by rw [h]; exact .tail _ (.head _))
                  · exact off8 p (by rw [h]; exact .tail _ (.tail _ (.head _)))
                  · subst h
                    exact ⟨fun hb => Nat.ne_of_gt g1 (List.mem_singleton.mp hb), Nat.ne_of_gt g2, Nat.ne_of_gt g3⟩
                  · exact off8 p (.tail _ (.tail _ (.tail _ h)))
                · refine off_cons ⟨fun hb => ?_, Nat.ne_of_gt g2, Nat.ne_of_gt g3⟩ offx
                  rcases List.mem_cons.mp hb with h | h
                  · exact Nat.ne_of_gt g5 h
                  · exact Nat.ne_of_gt g6 (List.mem_singleton.mp h)
                · rw [List.map_append, List.append_assoc]; rfl
                · rw [List.length_append, List.length_append, hpl2]; rfl
                · intro p hp
                  rcases List.mem_append.mp hp with hp | hp
                  · exact ⟨(hps2 p hp).1.sub fun _ h => .tail _ h, (hps2 p hp).2⟩
                  · rw [List.mem_singleton.mp hp]; exact ⟨⟨_, _, _, .head _⟩, hpok⟩
              · rintro m₂ ys' nw' h tk oC ⟨nx, rfl, hnx, offx, eat, erow, ps2, rfl, hpl2, hpq2⟩ F8 hC8 N8 off8
                refine ⟨rfl, h, tk, oC, m₂, ys ++ ps2.map (fun p => Value.ref p.1), nx, rfl, F8, hC8, news_sub N8 ?_, offx, fun p hp => hnx _ (hsub p hp), ps ++ ps2, ?_, ?_, ?_⟩
                · k_ownname
                · rw [hps1, List.map_append]
                · rw [List.length_append, List.length_append, hps2, hpl2]
                  simp only [List.length_cons, List.length_nil]
                  omega
                · intro p hp
                  rcases List.mem_append.mp hp with hp | hp
                  · exact ⟨(hps3 p hp).1.sub hnx, (hps3 p hp).2⟩
                  · exact hpq2 p hp
            · rintro m₂ ysP nwP h tk oC ⟨hsub, ps, hps1, hps2, hps3⟩ F8 hC8 N16 off8
              subst hps1
              rw [enumAs_len] at hps2
              refine ⟨rfl, h, tk, oC, m₂, _, _, rfl, F8, hC8, N16, fun p hp => (off8 p hp).2.1, fun h'' F'' N'' => ?_⟩
              clear F8 N16 N3 F3 N38 hI hlow hws hIC hEC hii S hC hC8 off8 hCD
              k_steps
              refine stop_out ?_
              rename News _ _ _ _ => N39
              have pPl : PliesIn ((D, lst (ps.map fun p => Value.ref p.1)) :: nwP) D ps := ⟨⟨(ps.map fun p => Value.ref p.1).length, .head _⟩, fun p hp => (hps3 p hp).1.sub fun _ h => .tail _ h⟩
              refine cuts_c (by assumption) (by assumption) (by assumption) N39 (by assumption) (by rfl) pPl (fun p hp => (hps3 p hp).2) (by omega) hlim (by omega) (by ktr_room) (by ktr_units) ?_
              intro h17 tk17 F17 N40
              clear N39 pPl
              have N41 := news_sub (l' := R1) N40 (fun p hp => .tail _ (hsub p hp))
              clear N40
              k_steps
              refine stop_out ?_
              refine cnt_c (by assumption) (by assumption) (by assumption) N41 (by assumption) (by rfl) (by ktr_room) (by ktr_units) ?_
              intro xa da rp oa ta1 h18 tk18 F18 N42 la1 la2 la3 Tba
              clear N41
              k_steps
              refine stop_out ?_
              refine For_turns (by assumption) ?_
              k_steps
              refine stop_out ?_
              rename News _ _ _ _ => N43
              obtain ⟨R5, hR5⟩ : ∃ R5, R5 = (xa, instObj 182 da) :: (da, cntD wld ta1 rp) :: R1 := ⟨_, rfl⟩
              rw [← hR5] at N43
              have aI : (xa, instObj 182 da) ∈ R5 := by rw [hR5]; exact .head _
              have aD : (da, cntD wld ta1 rp) ∈ R5 := by rw [hR5]; exact .tail _ (.head _)
              have aH : CntIn wld R5 xa da rp := ⟨ta1, aI, aD⟩
              have aSub : ∀ p ∈ R1, p ∈ R5 := fun p hp => by rw [hR5]; exact .tail _ (.tail _ hp)
              have aOff : ∀ p ∈ R5, p.1 ≠ rp := by
                intro p hp
                rw [hR5] at hp
                rcases List.mem_cons.mp hp with h | h
                · subst h; exact Nat.ne_of_lt la3
                rcases List.mem_cons.mp h with h | h
                · subst h; exact Nat.ne_of_lt (Nat.lt_trans la2 la3)
                · exact Nat.ne_of_lt (Nat.lt_trans (la1 p h) (Nat.lt_trans la2 la3))
              clear hR5
              refine list_loop (ax := rl) (lo := W.listOf (rowVs as) nd) (vs := as.map fun p => Value.ref p.1) (fun p : Addr × Row => Value.ref p.1) as rfl
                (fun I r m nw => ∃ pre o c, as = pre ++ r ∧ m (Str.ofString "answers") = some (.ref xa) ∧ nw = (rp, o) :: R5 ∧ Tab wld rp o c ∧ c.length ≤ pre.length ∧ CleanC c ∧ (∀ p ∈ nw, @LT.lt Nat _ p.1 I))
                rfl (by assumption) N43 (.tail _ (aSub _ rRl)) rfl rfl (fun I hI => ⟨[], oa, [], rfl, rfl, rfl, Tba, Nat.le_refl _, fun _ _ => ⟨look_nil _, look_nil _⟩, hI⟩) ?_ ?_ ?_
              · rintro I r m nw ⟨pre, o, c, _, _, rfl, _⟩
                exact .tail _ (aSub _ rRl)
              · rintro I m nw h19 tk19 ⟨pre, o, c, has, e1, rfl, Tb5, hcl, hcc, _⟩ F19 N44
                rw [List.append_nil] at has
                subst has
                have F20 := fr_puts [(Str.ofString "answers", .ref xa)] F19 (by simp [e1])
                clear F19 e1
                k_steps
                refine stop_out ?_
                rename News _ _ _ _ => N45
                refine reward_counter_c (by assumption) (by assumption) (by assumption) N45 (by assumption) (by rfl) aH (by omega) (by omega) (by omega) Tb5 (by omega) aOff (by ktr_room) (by ktr_units) ?_
                intro o2 h20 tk20 F21 N46 Tb6
                rw [if_pos rfl] at Tb6
                k_steps
                refine stop_out ?_
                rename News _ _ _ _ => N47
                refine cget_c (o := o2) (c := c) (by assumption) (by assumption) (by assumption) N47 (by assumption) (by rfl) (.head _) ⟨ta1, .tail _ aI, .tail _ aD⟩ (by omega) (by omega) Tb6 (by ktr_room) (by ktr_units) ?_
                intro t9 h21 tk21 F22 N48
                rw [(hcc 0 (.inl rfl)).2]
                k_steps
              · rintro I y r m nw oI h19 tk19 ⟨pre, o, c, has, e1, rfl, Tb5, hcl, hcc, hI5⟩ hoI F19 N44
                have F20 := fr_puts [(Str.ofString "answers", .ref xa)] F19 (by simp [e1])
                clear F19 e1
                have hyin : y ∈ as := by rw [has]; simp
                have hy2 := hok2 _ hyin
                obtain ⟨ta, tb, tc, nn, hrow0⟩ := rRows.2 y hyin
                have hT := News.isTup N44 (.tail _ (.tail _ (aSub _ hrow0)))
                have hpl5 : pre.length ≤ 12 := by
                  have := congrArg List.length has
                  rw [List.length_append] at this
                  omega
                k_steps
                refine stop_out ?_
                rename News _ _ _ _ => N45
                have hbb : 0 ≤ (if y.2.2.2 < 0 then -y.2.2.2 else y.2.2.2) + 1 ∧ (if y.2.2.2 < 0 then -y.2.2.2 else y.2.2.2) + 1 ≤ 1000 := by
                  have := hy2.2.2
                  split <;> omega
                have N46 := news_sub (l' := (rp, o) :: (I, oI) :: R5) N45 (by
                  intro p hp
                  simp only [List.mem_cons] at hp ⊢
                  rcases hp with h | h | h
                  · exact .inr (.inl h)
                  · exact .inl h
                  · exact .inr (.inr h))
                clear N45
                have hI6 : rp ≠ I := Nat.ne_of_lt (hI5 _ (.head _))
                have aOff2 : ∀ p ∈ (I, oI) :: R5, p.1 ≠ rp := by
                  intro p hp
                  rcases List.mem_cons.mp hp with h | h
                  · subst h; exact hI6.symm
                  · exact aOff p h
                have aI2 : (xa, instObj 182 da) ∈ (I, oI) :: R5 := .tail _ aI
                have aD2 : (da, cntD wld ta1 rp) ∈ (I, oI) :: R5 := .tail _ aD
                have hm56 := hy2.2.1
                refine reward_counter_c (by assumption) (by assumption) (by assumption) N46 (by assumption) (by rfl) ⟨ta1, aI2, aD2⟩ hy2.1 (by omega) hbb Tb5 (by omega) aOff2 (by ktr_room) (by ktr_units) ?_
                intro o2 h20 tk20 F21 N48 Tb6
                rw [if_neg (by omega)] at Tb6
                have hcc2 := hcc.put (v := (if y.2.2.2 < 0 then -y.2.2.2 else y.2.2.2) + 1) hy2.1 hm56
                k_steps
                refine stop_out ?_
                rename News _ _ _ _ => N47
                refine cget_c (o := o2) (by assumption) (by assumption) (by assumption) N47 (by assumption) (by rfl) (.head _) ⟨ta1, .tail _ aI2, .tail _ aD2⟩ hy2.1 (by omega) Tb6 (by ktr_room) (by ktr_units) ?_
                intro t9 h21 tk21 F22 N49
                rw [kdfLook_put, if_pos rfl]
                k_steps
                refine stop_out ?_
                rename News _ _ _ _ => N50
                refine cget_c (o := o2) (by assumption) (by assumption) (by assumption) N50 (by assumption) (by rfl) (.head _) ⟨ta1, .tail _ aI2, .tail _ aD2⟩ hy2.1 (by omega) Tb6 (by ktr_room) (by ktr_units) ?_
                intro t10 h22 tk22 F23 N51
                rw [(hcc2 y.2.1 (by have := hy2.1; omega)).1]
                k_steps
                rename News _ _ _ _ => N52
                refine ⟨_, _, _, (rp, o2) :: R5, rfl, F23, news_sub N52 ?_, ?_, pre ++ [y], o2, _, by rw [has]; simp, rfl, rfl, Tb6, ?_, hcc2, ?_⟩
                · intro p hp
                  simp only [List.mem_cons, List.cons_append, List.nil_append] at hp ⊢
                  rcases hp with h | h | h
                  · exact .inr (.inl h)
                  · exact .inl h
                  · exact .inr (.inr h)
                · intro p hp q hq
                  rw [List.mem_singleton.mp hq]
                  rcases List.mem_cons.mp hp with h | h
                  · subst h; exact hI6
                  · exact Nat.ne_of_lt (hI5 p (.tail _ h))
                · have := kdfPut_len c (hkey y.2.1 y.2.2.1) ((if y.2.2.2 < 0 then -y.2.2.2 else y.2.2.2) + 1)
                  rw [List.length_append, List.length_singleton]
                  omega
                · intro p hp
                  rcases List.mem_cons.mp hp with h | h
                  · subst h; exact hI5 (rp, o) (.head _)
                  · exact hI5 p (.tail _ h)
  · rintro I pre y suf m nw oI t0 h3 tk3 hpre ⟨as, tn3, np3, nd, rs, e1, e2, e3, rfl, hall, hlen, hrs, hI⟩ hoI F4 N6
    have F5 := fr_puts [(Str.ofString "pan", .ref pa), (Str.ofString "limit", .int (1 + r0) tk1), (Str.ofString "rows", .ref rl)] F4 (by simp [e1, e2, e3])
    clear F4 e1 e2 e3 N5 hr F4b
    have hpl : pre.length ≤ 12 := by
      have := congrArg List.length hpre
      simp at this
      omega
    have hpaI : @LT.lt Nat _ pa I := by omega
    have hoff : ∀ p ∈ rs, p.1 ≠ pa := fun p hp => Nat.ne_of_gt (Nat.lt_trans hpaI (hrs p hp))
    have hoffI : ∀ p ∈ rs, p.1 ≠ I := fun p hp => Nat.ne_of_gt (hrs p hp)
    have hoffR : ∀ p ∈ rs, p.1 ≠ rl := fun p hp => Nat.ne_of_gt (Nat.lt_trans hI (hrs p hp))
    have hvl : (rowVs as).size ≤ sizeLine := by
      refine line_of ?_
      unfold rowVs
      rw [List.size_toArray, List.length_map]
      omega
    have hoffA : ∀ p ∈ (I, oI) :: (rl, W.listOf (rowVs as) nd) :: (Dl, W.listOf ws.toArray 0) :: rs, p.1 ≠ pa := by k_not
    k_steps
    refine stop_out ?_
    rename News _ _ _ _ => N7
    have N8 := news_sub (l' := (pa, W.listOf #[.ref Dl, .int (2 + 3 * (pre.length : Int)) tn3] np3) :: (I, oI) :: (rl, W.listOf (rowVs as) nd) :: (Dl, W.listOf ws.toArray 0) :: rs) N7 (by k_ownname)
    clear N7
    refine draw_c (rest := (I, oI) :: (rl, W.listOf (rowVs as) nd) :: (Dl, W.listOf ws.toArray 0) :: rs) (zs := script.take 50) (by assumption) (by assumption) (by assumption) N8 (by assumption) (by rfl) (.tail _ (.tail _ (.head _))) hI50 (by omega) (by omega) (by decide) hoffA (by ktr_room) (by ktr_units) ?_
    intro q0 tq0 tn4 np4 h4 tk4 hq0 F7 N9
    clear N8
    k_steps
    refine stop_out ?_
    refine draw_c (rest := (I, oI) :: (rl, W.listOf (rowVs as) nd) :: (Dl, W.listOf ws.toArray 0) :: rs) (zs := script.take 50) (by assumption) (by assumption) (by assumption) N9 (by assumption) (by rfl) (.tail _ (.tail _ (.head _))) hI50 (by omega) (by omega) (by decide) hoffA (by ktr_room) (by ktr_units) ?_
    intro q1 tq1 tn5 np5 h5 tk5 hq1 F8 N10
    clear N9
    k_steps
    refine stop_out ?_
    refine draw_c (rest := (I, oI) :: (rl, W.listOf (rowVs as) nd) :: (Dl, W.listOf ws.toArray 0) :: rs) (zs := script.take 50) (by assumption) (by assumption) (by assumption) N10 (by assumption) (by rfl) (.tail _ (.tail _ (.head _))) hI50 (by omega) (by omega) (by decide) hoffA (by ktr_room) (by ktr_units) ?_
    intro q2 tq2 tn6 np6 h6 tk6 hq2 F9 N11
    clear N10
    k_steps
    rename_i D9 h9 F9a N9a l9 h10 F10 N12
    have lD := ltN l9.2.2.1
    obtain ⟨tb, N13⟩ : ∃ tb, News _ _ _ ((D9, tupObj #[.int q0 tq0, .int (5 + q1) tk5, .int (q2 - 450) tb] 0) :: _) := ⟨_, N12⟩
    clear N12 N9a F9a
    have e9 : 2 + 3 * (pre.length : Int) + 1 + 1 + 1 = 2 + 3 * ((pre ++ [y]).length : Int) := by rw [List.length_append]; simp; omega
    have e10 : (rowVs as).push (.ref D9) = rowVs (as ++ [(D9, (q0, 5 + q1, q2 - 450))]) := by unfold rowVs; simp
    rw [e9] at N13
    rw [e10] at N13
    refine ⟨_, _, _, (pa, W.listOf #[.ref Dl, .int (2 + 3 * ((pre ++ [y]).length : Int)) tn6] np6) :: (rl, W.listOf (rowVs (as ++ [(D9, (q0, 5 + q1, q2 - 450))])) (nd + 1)) :: (Dl, W.listOf ws.toArray 0) :: (D9, tupObj #[.int q0 tq0, .int (5 + q1) tk5, .int (q2 - 450) tb] 0) :: rs, rfl, F10, news_sub N13 ?_, ?_, as ++ [(D9, (q0, 5 + q1, q2 - 450))], tn6, np6, nd + 1, (D9, tupObj #[.int q0 tq0, .int (5 + q1) tk5, .int (q2 - 450) tb] 0) :: rs, ?_, ?_, ?_, rfl, ?_, ?_, ?_, hI⟩
    · k_ownname
    · intro p hp q hq
      rw [List.mem_singleton.mp hq]
      simp only [List.mem_cons] at hp
      rcases hp with h | h | h | h | h
      · subst h; exact Nat.ne_of_lt hpaI
      · subst h; exact Nat.ne_of_lt hI
      · subst h; exact Nat.ne_of_lt (Nat.lt_trans lpa hpaI)
      · subst h; exact Nat.ne_of_gt lD
      · exact hoffI p h
    · rfl
    · rfl
    · rfl
    · intro p hp
      rcases List.mem_append.mp hp with hp | hp
      · exact ⟨let ⟨ta, tb, tc, n, a⟩ := (hall p hp).1; ⟨ta, tb, tc, n, .tail _ a⟩, (hall p hp).2⟩
      · rw [List.mem_singleton.mp hp]
        refine ⟨⟨_, _, _, _, .head _⟩, ⟨by show 0 ≤ q0; omega, by show q0 ≤ 1; omega⟩, ⟨by show 5 ≤ 5 + q1; omega, by show 5 + q1 ≤ 6; omega⟩, by show -450 ≤ q2 - 450; omega, by show q2 - 450 ≤ 450; omega⟩
    · rw [List.length_append, List.length_append, hlen]; rfl
    · intro p hp
      rcases List.mem_cons.mp hp with h | h
      · subst h; exact lD
      · exact hrs p h)
end
end Mine
theorem PySem.Challenge.cw_tg0010_01_holds : PySem.Challenge.rw_tg0010_01.Holds := by
  exact Mine.whole
