import PyProof.Rows.All
import Wide.All
import OpenK.AllK
import Wide.FinOn
import Lean
import PySem.Challenge.RW_og0123_01
set_option Elab.async false
section OgHead
open PySem PySem.W PyProof.Rows
namespace Mine
set_option maxRecDepth 100000
set_option maxHeartbeats 8000000
open_top hd for PySem.Challenge.rw_og0123_01
end Mine

namespace Mine
/-- the head leaves the walker in the top's way of walking: back to the plain one -/
theorem walk_plain : True := by
  w_top off
  trivial
end Mine
end OgHead

section OgBase
open PySem PySem.W PySem.Spec PySem.Calls PyProof.Rows
namespace Mine
noncomputable abbrev PR : Program := (OpenLaw.row PySem.Challenge.rw_og0123_01).prog
noncomputable abbrev LO : List Str := looseW hd.view_39 [Str.ofString "PaperError", Str.ofString "name_text"]

/-- a call of the def at f upon vs: what it is made under (the frames below, the caller's frame, the text's objects, the ledger, the top), and what it hands back -/
abbrev Told1 (w : World) (mean : ExcName → Option Value) (mg mb : Str → Option Value) (f : Addr) (D U : Nat) (news : List (Addr × Obj)) (vs : List Value)
    (Ret : Heap → Addr → (Str → Option Value) → Shared → (Value → Shared → Prop) → Prop) : Prop :=
  ∀ (dp un : Nat) (gd : Option (List Code)) (cn : Str) (cs : Scope) (a : Addr) (ccd : Value) (cl : List (Str × Addr)) (outer : List Env) (A₀ : Around) (base h₀ : Heap) (L : Addr) (m : Str → Option Value) (s : Shared) (Q E : Value → Shared → Prop),
    Below A₀ base outer h₀ → Fr h₀ L s.heap m → (hd.heap_39 w.params).In h₀ → News h₀ L s.heap news → Top hd.view_39 LO mean mg mb h₀ → cs.kind = .function →
    dp + D < recursionLimit → un + U < cLine → Ret h₀ L m s Q →
    wpAny (model PR w) (ktrTop dp un gd cn cs L a ccd cl outer) (PySem.call (.ref f) vs) Q E s
/-- the ledger stands as it stood; a value comes back -/
abbrev Gives (news : List (Addr × Obj)) (R : Tok → Value) (h₀ : Heap) (L : Addr) (m : Str → Option Value) (s : Shared) (Q : Value → Shared → Prop) : Prop :=
  ∀ (t : Tok) (h' : Heap) (tk' : Nat), Fr h₀ L h' m → News h₀ L h' news → Q (R t) { s with heap := h', toks := tk' }

def hexWorth (c : Int) : Int := if 48 ≤ c ∧ c ≤ 57 then c - 48 else if 65 ≤ c ∧ c ≤ 70 then c - 55 else if 97 ≤ c ∧ c ≤ 102 then c - 87 else -1
def isRegular (c : Int) : Bool := decide (0 ≤ c) && (!([0, 9, 10, 12, 13, 32].any fun x : Int => x == c) && !([40, 41, 60, 62, 91, 93, 123, 125, 47, 37].any fun x : Int => x == c))
/-- the figure for 0 .. 15 -/
def hexFig (k : Int) : Int := if k < 10 then 48 + k else 55 + k
/-- what a sign's code is written as in a name; a text's codes; a name's codes -/
def nameSign (c : Int) : List Int := if c < 33 ∨ 126 < c ∨ c = 35 ∨ isRegular c = false then [35, hexFig (c / 16), hexFig (c % 16)] else [c]
def nameBody (cs : List Int) : List Int := cs.flatMap nameSign
/-- a sign that stands by itself in a name, by the law's own words -/
def plainSign (c : Int) : Bool := decide (33 ≤ c) && (decide (c ≤ 126) && !([35, 40, 41, 60, 62, 91, 93, 123, 125, 47, 37].any fun x : Int => x == c))
def Named (cs : List Int) : Prop := ∀ c ∈ cs, 1 ≤ c ∧ c ≤ 255
theorem nameSign_len (c : Int) : (nameSign c).length ≤ 3 := by unfold nameSign; split <;> simp
theorem nameBody_nil : nameBody [] = [] := rfl
theorem nameBody_cons (c : Int) (r : List Int) : nameBody (c :: r) = nameSign c ++ nameBody r := by simp [nameBody]
theorem nameBody_snoc (c : Int) (r : List Int) : nameBody (r ++ [c]) = nameBody r ++ nameSign c := by simp [nameBody]
theorem nameBody_len (cs : List Int) : (nameBody cs).length ≤ 3 * cs.length := by
  induction cs with
  | nil => simp [nameBody]
  | cons c r ih => rw [nameBody_cons, List.length_append, List.length_cons]; have := nameSign_len c; omega
theorem Named.snoc {cs : List Int} {c : Int} (h : Named cs) (h0 : 1 ≤ c) (h1 : c ≤ 255) : Named (cs ++ [c]) := fun x hx => by
  rcases List.mem_append.mp hx with hx | hx
  · exact h x hx
  · rw [List.mem_singleton.mp hx]; exact ⟨h0, h1⟩
theorem hexFig_in {k : Int} (h0 : 0 ≤ k) (h1 : k < 16) : 48 ≤ hexFig k ∧ hexFig k ≤ 70 := by unfold hexFig; split <;> omega
theorem nameSign_in {c : Int} (h0 : 0 ≤ c) (h1 : c ≤ 255) : ∀ n ∈ nameSign c, 0 ≤ n ∧ n < 256 := by
  intro n hn
  have q1 := hexFig_in (k := c / 16) (by omega) (by omega)
  have q2 := hexFig_in (k := c % 16) (by omega) (by omega)
  unfold nameSign at hn
  split at hn
  · simp only [List.mem_cons, List.not_mem_nil, or_false] at hn; omega
  · simp only [List.mem_cons, List.not_mem_nil, or_false] at hn; omega
theorem nameBody_in {cs : List Int} (h : Named cs) : ∀ n ∈ nameBody cs, 0 ≤ n ∧ n < 256 := by
  intro n hn
  obtain ⟨c, hc, hn⟩ := List.mem_flatMap.mp hn
  exact nameSign_in (by have := h c hc; omega) (h c hc).2 n hn
/-- a mark at which the walk stands still -/
def StopHere (P : Prop) : Prop := P
theorem StopHere.out {P : Prop} (h : StopHere P) : P := h
theorem nameBody_append (a b : List Int) : nameBody (a ++ b) = nameBody a ++ nameBody b := by simp [nameBody]
theorem nameBody_split {cs : List Int} {i : Nat} {n : Int} (hi : cs[i]? = some n) : nameBody cs = nameBody (cs.take i) ++ (nameSign n ++ nameBody (cs.drop (i + 1))) := by
  have e : cs = cs.take i ++ n :: cs.drop (i + 1) := by
    have h := List.take_append_drop i cs
    have hlt : i < cs.length := by
      cases Nat.lt_or_ge i cs.length with
      | inl h => exact h
      | inr h => rw [List.getElem?_eq_none h] at hi; cases hi
    rw [List.drop_eq_getElem_cons hlt] at h
    rw [List.getElem?_eq_getElem hlt] at hi
    cases hi
    exact h.symm
  conv => lhs; rw [e]
  rw [nameBody_append, nameBody_cons]
theorem nameBody_take {cs : List Int} {i : Nat} {n : Int} (hi : cs[i]? = some n) : nameBody (cs.take (i + 1)) = nameBody (cs.take i) ++ nameSign n := by
  rw [List.take_add_one, hi]
  exact nameBody_snoc _ _
/-- a list of ints that begins with so many signs' octets: what is read at a place of it -/
theorem read_at {cs pre : List Int} {i : Nat} {n : Int} (hi : cs[i]? = some n) {ks : List Int} (hks : ks = pre ++ nameBody cs) {p : Nat} (hp : p = pre.length + (nameBody (cs.take i)).length) :
    p + (nameSign n).length ≤ ks.length ∧ ∀ j, j < (nameSign n).length → ks.getD (p + j) 0 = (nameSign n).getD j 0 := by
  subst hks hp
  rw [nameBody_split hi]
  refine ⟨by simp only [List.length_append]; omega, fun j hj => ?_⟩
  rw [List.getD_eq_getElem?_getD, List.getD_eq_getElem?_getD, List.getElem?_append_right (by omega), List.getElem?_append_right (by omega), List.getElem?_append_left (by omega)]
  congr 2
  omega
theorem nameSign_plain {n : Int} (h : ¬(n < 33 ∨ 126 < n ∨ n = 35 ∨ isRegular n = false)) : nameSign n = [n] := if_neg h
theorem nameSign_escaped {n : Int} (h : n < 33 ∨ 126 < n ∨ n = 35 ∨ isRegular n = false) : nameSign n = [35, hexFig (n / 16), hexFig (n % 16)] := if_pos h
end Mine
end OgBase

section OgA
open PySem PySem.W PySem.Spec PySem.Calls PyProof.Rows
namespace Mine
set_option maxRecDepth 100000
set_option maxHeartbeats 8000000
section
variable {w : World} {mean : ExcName → Option Value} {mg mb : Str → Option Value}
theorem t_hex_worth (news : List (Addr × Obj)) (c : Int) (t : Tok) : Told1 w mean mg mb 96 1 8 news [.int c t] (Gives news (.int (hexWorth c))) := by
  dsimp only [Told1, Gives, PR]
  k_fill
  intro dp un gd cn cs a ccd cl outer A₀ base h₀ L m s Q E B F X N T hk hd' hu hret
  refine wpAny_call ?_
  k_dflt cell_enter
  k_steps
  all_goals (refine cb_retI hret ?_ (by k_asm) (by k_asm); unfold hexWorth; repeat' (first | rfl | omega | split))

theorem notin_topInts {prog : Program} {A : Around} {E : Value → Shared → Prop} {s : Shared} {K : Frag} {h₀ : Heap} {L a : Addr} {m : Str → Option Value} {l : List Value} {ns : List Int} {n : Nat} {dd : Option Addr} {sl : Array (Option Value)} {c : Int} {t : Tok} {Q : Value → Shared → Prop}
    (F : Fr h₀ L s.heap m) (X₀ : K.In h₀) (hl : K.lookup a = some ⟨.type "tuple", dd, .seq l.toArray n, sl⟩) (hi : IntsAre l ns) (h : Q (.bool (!(ns.any (· == c)))) s) :
    wpAny (model prog w) A (compareOp .NotIn (.int c t) (.ref a)) Q E s :=
  SeqAt.notIn_tupleAt (isInt c) (tupK (X₀.keeps F.keep) hl) (fun y hy => (eq_isInt c t hi y (by simpa using hy)).at _ _) (by rw [← Array.any_toList, show l.toArray.toList = l from rfl, any_isInt c hi]; exact h)
local macro_rules | `(tactic| walk_at "compareOp NotIn int ref") => `(tactic| (k_here; k_dflt (refine' notin_topInts ?k1 ?k2 ?k3 ?k4 ?_; (case k1 => k_asm); (case k2 => k_asm); (case k3 => k_is); (case k4 => l_intsW); k_whole)))

theorem t_is_regular (news : List (Addr × Obj)) (c : Int) (t : Tok) : Told1 w mean mg mb 30 1 8 news [.int c t] (Gives news fun _ => .bool (isRegular c)) := by
  dsimp only [Told1, Gives, PR]
  k_fill
  intro dp un gd cn cs a ccd cl outer A₀ base h₀ L m s Q E B F X N T hk hd' hu hret
  refine wpAny_call ?_
  k_dflt cell_enter
  k_steps
  all_goals (refine cb_retB hret ?_ (by k_asm) (by k_asm); simp_all only [isRegular, decide_true, decide_false, Bool.true_and, Bool.false_and, Bool.not_true, Bool.not_false])

theorem hexFig_get {k : Int} (h0 : 0 ≤ k) (h1 : k < 16) : ((([48, 49, 50, 51, 52, 53, 54, 55, 56, 57, 65, 66, 67, 68, 69, 70] : List UInt8).getD k.toNat 0).toNat : Int) = hexFig k := by
  have all : ∀ n : Fin 16, ((([48, 49, 50, 51, 52, 53, 54, 55, 56, 57, 65, 66, 67, 68, 69, 70] : List UInt8).getD n.val 0).toNat : Int) = hexFig (n.val : Int) := by decide
  obtain ⟨n, rfl⟩ := Int.eq_ofNat_of_zero_le h0
  exact all ⟨n, by omega⟩
theorem t_hex_pair (news : List (Addr × Obj)) (c : Int) (t : Tok) (h0 : 0 ≤ c) (h1 : c ≤ 255) : Told1 w mean mg mb 82 1 8 news [.int c t]
    fun h₀ L m s Q => ∀ D n t1 t2 h' tk', Fr h₀ L h' m → News h₀ L h' ((D, listOf #[.int (hexFig (c / 16)) t1, .int (hexFig (c % 16)) t2] n) :: news) → (∀ q ∈ news, q.1 < D) → Q (.ref D) { s with heap := h', toks := tk' } := by
  dsimp only [Told1, Gives, PR]
  k_fill
  intro dp un gd cn cs a ccd cl outer A₀ base h₀ L m s Q E B F X N T hk hd' hu hret
  refine wpAny_call ?_
  k_dflt cell_enter
  k_steps
  all_goals (
    have e1 : c.fdiv 16 = c / 16 := Int.fdiv_eq_ediv_of_nonneg _ (by decide)
    have e2 : c.fmod 16 = c % 16 := Int.fmod_eq_emod_of_nonneg _ (by decide)
    rename News _ _ _ _ => kN
    rw [e1, e2, hexFig_get (by omega) (by omega), hexFig_get (by omega) (by omega)] at kN
    exact hret _ _ _ _ _ _ (by k_asm) (by k_asm) (by k_asm))
end
end Mine
end OgA

section OgE
open PySem PySem.W PySem.Spec PySem.Calls PyProof.Rows Builtin.ObjectAttr
namespace Mine
set_option maxRecDepth 100000
set_option maxHeartbeats 4000000

/-- a PaperError, as it stands behind its making: its args' tuple, its dict -/
abbrev ExcRow (t : Addr) (dd : Option Addr) : Obj := { cls := .ref 55, dict := dd, data := .fields #[.ref t, .none, .none, .none, .bool false, .none] }
/-- the class -/
abbrev PaperCls : Obj := excClassObj (Str.ofString "PaperError") (Str.ofString "PaperError") 55 54 [.type "Exception"] [.type "Exception", .type "BaseException", .type "object"] true [] [.ref 68] false none none
  (some (.ref 31)) none (some (.str (Str.ofString "PaperError") 223)) (some (.str (Str.ofString "PaperError") 231)) (some (.bool true)) "Exception.__new__"

section
variable {prog : Program} {w : World} {A : Around} {E : Value → Shared → Prop} {h : Heap} {g : Array GenState} {d : Drawn} {t : Nat} {os : OsState} {x N : Addr} {mN mA : Str → Option Value} {name : Str} {v : Value} {tp : Addr} {fs : Array Value}
  {nm q : Str} {C : Addr} {bs bm : List Value} {sn : List Str} {sub : List Value} {ab : Bool} {col : Option Bool} {dd : Option Addr} {k0 k1 k2 k3 k5 : Option Value} {B newId sa owner : String}

/-- the first attribute that is stored on such an object: its dict is made -/
theorem exc_set0 {o : Obj} {Q : Unit → Shared → Prop} (SF : StoreFacts B bm sa owner) (hC : h.get? C = some (excClassObj nm q C N bs bm true sn sub ab col dd k0 k1 k2 k3 k5 newId)) (hn : h.Ns N mN) (hns : mN "__setattr__" = none) (hna : mN name = none)
    (hB : typeLookup (.type B) name = pure none) (hx : h.get? x = some o) (hc : o.cls = .ref C) (hdn : o.dict = none) (hod : o.data = .fields fs)
    (hq : ∀ h' tk', h'.Ns1 h.objs.size (fun y => if y = name then some v else none) → h'.get? x = some { o with dict := some h.objs.size } → (∀ b o, b ≠ x → h.get? b = some o → h'.get? b = some o) → Q () ⟨h', g, d, tk', os⟩) :
    wpAny (model prog w) A (setAttr (.ref x) name v) Q E ⟨h, g, d, t, os⟩ := by
  have f3 := SF.slot.bind (.ref x)
  have hpass := SF.passes (.ref x)
  unfold setAttr callSpecial? specialOf
  repeat (any_goals (first | assumption | (with_reducible refine wpAny_loadPart_at hx ?_; rw [hc]) | (with_reducible refine wpAny_typeLookup_exc hC hn SF.mro SF.slot.lookup ?_; rw [hns]) | wp_step))
  refine codeAny_call_builtin SF.slot.plain SF.entry (wpAny_check_sa SF hC hx hc ?_)
  unfold Builtin.«object.__setattr__»
  repeat (first | rw [refuse_eq] | (rw [refuseLoop_ref, hpass]) | (with_reducible refine wpAny_loadPart_at hx ?_; rw [hc]) | with_reducible refine wpAny_mroOf_exc hC ?_ | (with_reducible refine wpAny_typeLookup_exc hC hn SF.mro hB ?_; rw [hna]) | wp_step)
  rw [hdn, if_neg (by simp [typeHasDict]), hod]
  have hx₁ : (h.push { cls := .type "dict", data := .dict #[] }).get? x = some o := Heap.get?_push_of_some _ hx
  have hxs : x ≠ h.objs.size := Nat.ne_of_lt (Heap.lt_size hx)
  have hfr : o.isFreed = false := by
    obtain ⟨_, _, odt, _⟩ := o
    cases hod; rfl
  let h₂ : Heap := (h.push { cls := .type "dict", data := .dict #[] }).update x fun o => { cls := o.cls, dict := some h.objs.size, data := o.data, slots := o.slots }
  have hd₂ : h₂.get? h.objs.size = some { cls := .type "dict", data := .dict #[] } := (Heap.get?_update_ne _ _ _ _ hxs.symm).trans (Heap.get?_push_at rfl rfl)
  have hN₂ : h₂.Ns h.objs.size (fun _ => none) := ⟨_, #[], _, hd₂, rfl, fun e he => absurd he (by simp), fun _ => rfl⟩
  have hx₂ : h₂.get? x = some { o with dict := some h.objs.size } := Heap.get?_update_self _ hx₁ (by
    obtain ⟨_, _, odt, _⟩ := o
    cases hod; rfl)
  refine wpAny_bind (wpAny_alloc' (wpAny_bind (wpAny_update' hx₁ (wpAny_pure ?_))))
  show wpAny _ _ (storeInDict h.objs.size (.str name _) name v) _ _ _
  unfold storeInDict newKeyGuard
  refine wpAny_bind (wpAny_pure (wpAny_bind (wpAny_nsSet1 (Heap.Ns1.of_empty hN₂) fun h' hn' hs => ?_)))
  obtain ⟨oD, esD, epD, hoD, hdD, hcD⟩ := hn'.count (Within.cons name v Within.nil)
  refine wpAny_bind (wpAny_lookBehind hoD (by rw [hdD]; exact pastItsLine_dict (Nat.le_trans hcD (by rw [List.length_cons, List.length_nil, sizeLine_eq]; omega))) ?_)
  wp_walk
  exact hq h' _ hn' ((hs.2 x hxs).trans hx₂) fun b ob hb e => (hs.2 b (Nat.ne_of_lt (Heap.lt_size e))).trans ((Heap.get?_update_ne _ _ _ _ hb).trans (Heap.get?_push_of_some _ e))

/-- a further attribute, its dict being there -/
theorem exc_set1 {o : Obj} {dx : Addr} {ns : List Str} {Q : Unit → Shared → Prop} (SF : StoreFacts B bm sa owner) (hC : h.get? C = some (excClassObj nm q C N bs bm true sn sub ab col dd k0 k1 k2 k3 k5 newId)) (hn : h.Ns N mN) (hns : mN "__setattr__" = none) (hna : mN name = none)
    (hB : typeLookup (.type B) name = pure none) (hx : h.get? x = some o) (hc : o.cls = .ref C) (hdx : o.dict = some dx) (hod : o.data = .fields fs) (hxC : x ≠ C) (hne : dx ≠ x) (hD : h.Ns1 dx mA) (hw : Within mA ns) (hsz : ns.length ≤ 1000)
    (hq : ∀ h' tk', h'.get? x = some o → (∀ b o, b ≠ dx → h.get? b = some o → h'.get? b = some o) → Q () ⟨h', g, d, tk', os⟩) :
    wpAny (model prog w) A (setAttr (.ref x) name v) Q E ⟨h, g, d, t, os⟩ :=
  store_attr SF hC hn hns hna hB hxC ⟨o, hx, hc, (fun c e => by rw [hod] at e; cases e), .inr ⟨dx, hdx, hne, hD⟩⟩ (fun h' tk' I' hk hsame => by
    obtain ⟨o₁, h1, h2, h3, h4, h5⟩ := hsame o hx
    have e : o₁ = o := by
      obtain ⟨a1, a2, a3, a4⟩ := o
      obtain ⟨b1, b2, b3, b4⟩ := o₁
      simp only at h2 h3 h4 hdx
      have := h5 dx hdx
      simp only at this
      rw [h2, h3, h4, this, hdx]
    subst e
    refine hq h' tk' h1 fun b ob hb e => ?_
    by_cases hbx : b = x
    · subst hbx; rw [hx] at e; rw [← e]; exact h1
    · exact hk b ob hbx (fun o₀ dx' e₀ e₁ => by rw [hx] at e₀; cases e₀; rw [hdx] at e₁; cases e₁; exact hb) e) hw (Nat.le_trans hsz (by rw [sizeLine_eq]; omega))

/-- the base's __init__ on such an object: a new tuple of its args -/
theorem exc_init_call {newId initId : String} {hdct : Bool} {od : Option Addr} {t₀ : Addr} {rest : List Value} {Q : Value → Shared → Prop} (F : ExcBaseFacts B newId initId bm) (hC : h.get? C = some (excClassObj nm q C N bs bm hdct sn sub ab col dd k0 k1 k2 k3 k5 newId))
    (hx : h.get? x = some { cls := .ref C, dict := od, data := .fields #[.ref t₀, .none, .none, .none, .bool false, .none] }) (hrest : rest.length ≤ 1000)
    (hq : ∀ h' tt, h'.get? x = some { cls := .ref C, dict := od, data := .fields #[.ref tt, .none, .none, .none, .bool false, .none] } → (∀ b o, b ≠ x → h.get? b = some o → h'.get? b = some o) → Q .none ⟨h', g, d, t, os⟩) :
    wpAny (model prog w) A (PySem.call (.builtin initId) (.ref x :: rest)) Q E ⟨h, g, d, t, os⟩ := by
  have hsz : rest.length ≤ sizeLine := Nat.le_trans hrest (by rw [sizeLine_eq]; omega)
  refine wpAny_call (codeAny_call_builtin F.init.plain F.initEntry (wpAny_check_init_sub F hC hx rfl ?_))
  unfold Builtin.«BaseException.__init__»
  dsimp only
  rw [if_neg (by simp)]
  unfold newTuple Builtin.BaseException.bexcPut
  have hx₁ := Heap.get?_push_of_some (h := h) { cls := .type "tuple", data := .seq rest.toArray } hx
  refine wpAny_bind (wpAny_newObj_type (wpAny_bind (wpAny_bind (wpAny_field hx₁ rfl rfl (wpAny_bind (wpAny_setField hx₁ rfl (Nat.zero_lt_succ _) ?_))))) (by show rest.toArray.size ≤ sizeLine; rw [List.size_toArray]; exact hsz))
  refine wpAny_letGo (wpAny_pure (hq _ h.objs.size ?_ fun b o hb e => ?_))
  · rw [Heap.get?_update_self _ hx₁ rfl]; rfl
  · exact (Heap.get?_update_ne _ _ _ _ hb).trans (Heap.get?_push_of_some _ e)

/-- raise of an object that is made, its class an own one -/
theorem raise_made {s : Shared} {M : Model} {env : Env} {hdct : Bool} {y : Sem Value} {Q : Flow → Shared → Prop} (hbase : bm.contains (.type "BaseException") = true) (hh : A.handled = none)
    (hy : wpAny M A y (fun v s₁ => ∃ e t od, v = .ref e ∧ s₁.heap.get? C = some (excClassObj nm q C N bs bm hdct sn sub ab col dd k0 k1 k2 k3 k5 newId) ∧
      s₁.heap.get? e = some { cls := .ref C, dict := od, data := .fields #[.ref t, .none, .none, .none, .bool false, .none] } ∧ E (.ref e) s₁) E s) :
    wpAny M A (raiseStmt env (some y) none) Q E s := by
  have hcB : (Value.ref C :: bm).contains (.type "BaseException") = true := by rw [List.contains_cons, hbase, Bool.or_true]
  unfold raiseStmt
  refine wpAny_bind (wpAny_mono hy (fun v s₁ h₁ => ?_) fun _ _ x => x)
  obtain ⟨e, t, od, rfl, hC, he, hE⟩ := h₁
  obtain ⟨hp, g, d, tk, os⟩ := s₁
  repeat (first | with_reducible refine wpAny_loadPart_at he ?_ | with_reducible refine wpAny_loadPart_at hC ?_ | (with_reducible refine wpAny_isSubtype_exc hC ?_; rw [hcB]) | wp_step)
  exact wpAny_raiseNew_none hh hE
end

/-- what a raise statement's value is to be: a PaperError as it was made -/
def RaisableP (E : Value → Shared → Prop) (v : Value) (s₁ : Shared) : Prop := ∃ e t od, v = .ref e ∧ s₁.heap.get? 55 = some PaperCls ∧ s₁.heap.get? e = some (ExcRow t od) ∧ E (.ref e) s₁
theorem raise_paper {prog : Program} {w : World} {A : Around} {E : Value → Shared → Prop} {s : Shared} {env : Env} {e : Expr} {pos : Pos} {Q : Flow → Shared → Prop} (hh : A.handled = none)
    (h : wpAny (model prog w) A (eval e env) (RaisableP E) E s) : wpAny (model prog w) A (exec (.Raise (some e) none pos) env) Q E s := by
  show wpAny _ A (do standAt pos; raiseStmt env (some (do let v ← eval e env; standAt pos; pure v)) none) Q E s
  refine wpAny_bind (wpAny_standAt (raise_made (C := 55) (bm := [.type "Exception", .type "BaseException", .type "object"]) (by decide +kernel) hh (wpAny_bind (wpAny_mono h (fun v s₁ h₁ => wpAny_bind (wpAny_standAt (wpAny_pure h₁))) fun _ _ x => x))))

/-- such an exception leaves the frame that raised it -/
theorem leave_paper {M : Model} {A : Around} {E : Value → Shared → Prop} {s' : Shared} {base g : Heap} {outer : List Env} {L a e t : Addr} {od : Option Addr} {m : Str → Option Value} {name : Str} {scope : Scope} {cd : Value} {Q : Unit → Shared → Prop} {news : List (Addr × Obj)}
    (K : Below A base outer g) (F : Fr g L s'.heap m) (N : News g L s'.heap ((e, ExcRow t od) :: news)) (hne : ∀ p ∈ news, p.1 ≠ e)
    (hQ : ∀ h', RaisedSN base g outer e (.ref 55) news h' → RaisedN base outer e (.ref 55) news h' → g.UpToSlots h' → Q () { s' with heap := h' }) (hk : scope.kind = .function := by rfl) :
    wpAny M (A.deeper (envOf name scope L a cd)) (leaving (envOf name scope L a cd) (.ref e)) Q E s' := by
  obtain ⟨he, heL, heg⟩ := N (e, ExcRow t od) (.head _)
  dsimp only at he heL heg
  -- the heap without it
  let fr := (envOf name scope L a cd :: outer).filterMap (·.frame)
  have K' := K.push (name := name) (a := a) (cd := cd) F hk
  have hin : ∀ env ∈ (envOf name scope L a cd :: outer), ∀ b, env.frame = some b → b ∈ fr := fun env he b hb => List.mem_filterMap.mpr ⟨env, he, hb⟩
  have hB : ∀ b o, (hideAll s'.heap (e :: fr)).get? b = some o → s'.heap.get? b = some o := fun b o q => of_hideAll _ q
  have ofr : ∀ b ∈ fr, b = L ∨ (b ∈ outer.filterMap (·.frame)) := fun b hb => kts_mem hb
  have efr : e ∉ fr := fun hm => by
    rcases ofr e hm with z | z
    · exact heL z
    · obtain ⟨o, ho, _⟩ := (K.frames.mem z).2
      rw [heg] at ho; cases ho
  have put : ∀ b o, s'.heap.get? b = some o → b ≠ e → b ∉ fr → (hideAll s'.heap (e :: fr)).get? b = some o := fun b o q h1 h2 => hideAll_get _ q fun hm => (List.mem_cons.mp hm).elim h1 h2
  have sg : ∀ b o, g.get? b = some o → b ∉ outer.filterMap (·.frame) → (hideAll s'.heap (e :: fr)).get? b = some o := fun b o q nm => put b o (F.keep b o q) (fun z => by rw [z, heg] at q; cases q) fun hm => by
    rcases ofr b hm with z | z
    · rw [z, kts_self F] at q; cases q
    · exact nm z
  have st : base.StaysIn (hideAll s'.heap (e :: fr)) := fun b o q => sg b o (K.stays b o q) fun hm => by
    rw [(K.frames.mem hm).1] at q; cases q
  have hl : ∀ q ∈ news, (hideAll s'.heap (e :: fr)).get? q.1 = some q.2 ∧ g.get? q.1 = none ∧ base.get? q.1 = none := fun q hq => by
    have hN := N q (.tail _ hq)
    refine ⟨put _ _ hN.1 (hne q hq) fun hm => ?_, hN.2.2, fresh_of_stays K.stays hN.2.2⟩
    rcases ofr _ hm with z | z
    · exact hN.2.1 z
    · obtain ⟨o, ho, _⟩ := (K.frames.mem z).2
      rw [hN.2.2] at ho; cases ho
  have hen : (hideAll s'.heap (e :: fr)).get? e = none := hideAll_none _ (.head _)
  refine wpAny_leaving_firstW (a0 := .ref t) (base := hideAll s'.heap (e :: fr)) K'.stack (funFrames_hide K'.frames fun env he b hb => .tail _ (hin env he b hb)) rfl he hB hen rfl rfl rfl fun h' hL => ?_
  obtain ⟨k1, ⟨_, _, k2⟩, k3, k4⟩ := hL
  have R : RaisedSN base g outer e (.ref 55) news h' := ⟨_, .ref t, st, sg, hl, k1, hen, k2, k3⟩
  exact hQ h' R R.toN ((Heap.UpToSlots.of_keeps F.keep).trans k4)
end Mine
end OgE

section OgF
open PySem PySem.W PySem.Spec PySem.Calls PyProof.Rows Builtin.ObjectAttr
local macro_rules | `(tactic| walk_at "pad9") => `(tactic| skip)
local macro_rules | `(tactic| walk_at "pad9") => `(tactic| skip)
local macro_rules | `(tactic| walk_at "pad9") => `(tactic| skip)
local macro_rules | `(tactic| walk_at "pad9") => `(tactic| skip)
local macro_rules | `(tactic| walk_at "pad9") => `(tactic| skip)
local macro_rules | `(tactic| walk_at "pad9") => `(tactic| skip)
local macro_rules | `(tactic| walk_at "pad9") => `(tactic| skip)
local macro_rules | `(tactic| walk_at "pad9") => `(tactic| skip)
local macro_rules | `(tactic| walk_at "pad9") => `(tactic| skip)
local macro_rules | `(tactic| walk_at "pad9") => `(tactic| skip)
local macro_rules | `(tactic| walk_at "pad9") => `(tactic| skip)
local macro_rules | `(tactic| walk_at "pad9") => `(tactic| skip)
local macro_rules | `(tactic| walk_at "pad9") => `(tactic| skip)
local macro_rules | `(tactic| walk_at "pad9") => `(tactic| skip)
local macro_rules | `(tactic| walk_at "pad9") => `(tactic| skip)
local macro_rules | `(tactic| walk_at "pad9") => `(tactic| skip)
local macro_rules | `(tactic| walk_at "pad9") => `(tactic| skip)
local macro_rules | `(tactic| walk_at "pad9") => `(tactic| skip)
local macro_rules | `(tactic| walk_at "pad9") => `(tactic| skip)
local macro_rules | `(tactic| walk_at "pad9") => `(tactic| skip)
local macro_rules | `(tactic| walk_at "pad9") => `(tactic| skip)
local macro_rules | `(tactic| walk_at "pad9") => `(tactic| skip)
local macro_rules | `(tactic| walk_at "pad9") => `(tactic| skip)
local macro_rules | `(tactic| walk_at "pad9") => `(tactic| skip)
local macro_rules | `(tactic| walk_at "pad9") => `(tactic| skip)
namespace Mine
set_option maxRecDepth 100000
set_option maxHeartbeats 4000000
theorem ns_some_of {K : Frag} {h : Heap} {N : Addr} {mN : Str → Option Value} {n : Str} {v : Value} (X : K.In h) (G : h.Ns N mN) (e : nsIn K N n = some (some v)) : mN n = some v := by
  obtain ⟨o, es, ep, ho, hd, _, hf⟩ := G
  unfold nsIn at e
  split at e
  · rename_i c d es' n' sl q
    have := X _ _ q
    rw [ho] at this
    cases this
    cases hd
    split at e
    · rename_i en he
      cases e
      rw [← hf]
      unfold nsFind findBy
      rw [← Array.find?_toList, he]
      rfl
    · split at e <;> cases e
  · cases e
theorem fr_but {h₀ h h' : Heap} {L x : Addr} {m : Str → Option Value} (F : Fr h₀ L h m) (hk : ∀ b o, b ≠ x → h.get? b = some o → h'.get? b = some o) (hL : x ≠ L) (hx : h₀.get? x = none) : Fr h₀ L h' m := by
  obtain ⟨oL, es, ep, hoL, r⟩ := F.ns
  exact ⟨⟨oL, es, ep, hk L _ hL.symm hoL, r⟩, fun b o e => hk b o (fun z => by rw [z, hx] at e; cases e) (F.keep b o e), F.above⟩
theorem news_but {h₀ h h' : Heap} {L x : Addr} {o o' : Obj} {news : List (Addr × Obj)} (N : News h₀ L h ((x, o) :: news)) (hne : ∀ p ∈ news, p.1 ≠ x) (hk : ∀ b o, b ≠ x → h.get? b = some o → h'.get? b = some o) (hx : h'.get? x = some o') : News h₀ L h' ((x, o') :: news) := fun p hp => by
  rcases List.mem_cons.mp hp with rfl | hp
  · exact ⟨hx, (N _ (.head _)).2⟩
  · have := N p (.tail _ hp)
    exact ⟨hk _ _ (hne p hp) this.1, this.2⟩

section
variable {prog : Program} {w : World} {A : Around} {E : Value → Shared → Prop} {s : Shared} {h₀ : Heap} {L x t₀ : Addr} {od : Option Addr} {m : Str → Option Value} {news : List (Addr × Obj)} {K : Frag} {name : Str} {v : Value}
theorem init_K {Q : Value → Shared → Prop} (F : Fr h₀ L s.heap m) (X₀ : K.In h₀) (N : News h₀ L s.heap ((x, ExcRow t₀ od) :: news)) (hne : ∀ p ∈ news, p.1 ≠ x) (hC : K.lookup 55 = some PaperCls)
    (h : ∀ tt h', Fr h₀ L h' m → News h₀ L h' ((x, ExcRow tt od) :: news) → Q .none { s with heap := h' }) : wpAny (model prog w) A (PySem.call (.builtin "Exception.__init__") [.ref x, v]) Q E s := by
  obtain ⟨hp, g, d, t, os⟩ := s
  obtain ⟨hx, hxL, hx0⟩ := N (x, ExcRow t₀ od) (.head _)
  exact exc_init_call PySem.F.excBase_Exception (F.keep _ _ (X₀ _ _ hC)) hx (Nat.le_of_ble_eq_true rfl) fun h' tt h1 h2 => h tt h' (fr_but F h2 hxL hx0) (news_but N hne h2 h1)

theorem set0_K {Q : Unit → Shared → Prop} (F : Fr h₀ L s.heap m) (X₀ : K.In h₀) (N : News h₀ L s.heap ((x, ExcRow t₀ none) :: news)) (hne : ∀ p ∈ news, p.1 ≠ x) (hC : K.lookup 55 = some PaperCls) (hok : nsOkIn K 54 = true) (hs : nsIn K 54 "__setattr__" = some none) (hn : nsIn K 54 name = some none)
    (hB : typeLookup (.type "Exception") name = pure none)
    (h : ∀ dx h' tk', Fr h₀ L h' m → News h₀ L h' ((x, ExcRow t₀ (some dx)) :: news) → h'.Ns1 dx (fun y => if y = name then some v else none) → dx ≠ x → dx ≠ L → h₀.get? dx = none → (∀ p ∈ news, p.1 ≠ dx) → Q () { s with heap := h', toks := tk' }) :
    wpAny (model prog w) A (setAttr (.ref x) name v) Q E s := by
  have X := X₀.keeps F.keep
  have G := Heap.Ns.of_isNs (isNs_of_in X hok)
  obtain ⟨hx, hxL, hx0⟩ := N (x, ExcRow t₀ none) (.head _)
  obtain ⟨hp, g, d, t, os⟩ := s
  refine exc_set0 PySem.F.store_Exception (F.keep _ _ (X₀ _ _ hC)) G (ns_none_of X G hs) (ns_none_of X G hn) hB hx rfl rfl rfl fun h' tk' h1 h2 h3 => ?_
  refine h _ h' tk' (fr_but F h3 hxL hx0) (news_but N hne h3 h2) h1 (Nat.ne_of_gt (Heap.lt_size hx)) (Nat.ne_of_gt F.ns.lt) ?_ fun p hp => Nat.ne_of_lt (Heap.lt_size (N p (.tail _ hp)).1)
  exact none_at_size F

theorem set1_K {Q : Unit → Shared → Prop} {dx : Addr} {ns : List Str} {mA : Str → Option Value} (F : Fr h₀ L s.heap m) (X₀ : K.In h₀) (N : News h₀ L s.heap ((x, ExcRow t₀ (some dx)) :: news)) (hC : K.lookup 55 = some PaperCls) (hok : nsOkIn K 54 = true) (hs : nsIn K 54 "__setattr__" = some none) (hn : nsIn K 54 name = some none)
    (hB : typeLookup (.type "Exception") name = pure none) (hD : s.heap.Ns1 dx mA) (hw : Within mA ns) (hsz : ns.length ≤ 1000) (d1 : dx ≠ x) (d2 : dx ≠ L) (d3 : h₀.get? dx = none) (d4 : ∀ p ∈ news, p.1 ≠ dx)
    (h : ∀ h' tk', Fr h₀ L h' m → News h₀ L h' ((x, ExcRow t₀ (some dx)) :: news) → Q () { s with heap := h', toks := tk' }) :
    wpAny (model prog w) A (setAttr (.ref x) name v) Q E s := by
  have X := X₀.keeps F.keep
  have G := Heap.Ns.of_isNs (isNs_of_in X hok)
  obtain ⟨hx, hxL, hx0⟩ := N (x, ExcRow t₀ (some dx)) (.head _)
  have hx55 : x ≠ 55 := fun z => by rw [z, X₀ _ _ hC] at hx0; cases hx0
  obtain ⟨hp, g, d, t, os⟩ := s
  refine exc_set1 PySem.F.store_Exception (F.keep _ _ (X₀ _ _ hC)) G (ns_none_of X G hs) (ns_none_of X G hn) hB hx rfl rfl rfl hx55 d1 hD hw hsz fun h' tk' h1 h2 => ?_
  refine h h' tk' (fr_but F h2 d2 d3) fun p hp => ?_
  rcases List.mem_cons.mp hp with rfl | hp
  · exact ⟨h1, hxL, hx0⟩
  · have := N p (.tail _ hp)
    exact ⟨h2 _ _ (d4 p hp) this.1, this.2⟩
end
theorem lk_what : typeLookup (.type "Exception") "what" = pure none := by rw [typeLookup_type, builtinLookup_eq_fast]; kernel_rfl
theorem lk_at : typeLookup (.type "Exception") "at" = pure none := by rw [typeLookup_type, builtinLookup_eq_fast]; kernel_rfl
local macro_rules | `(tactic| walk_at "call builtin:Exception.__init__") => `(tactic| (k_here; (with_reducible show wpAny _ _ (PySem.call (Value.builtin _) [Value.ref _, _]) _ _ _); k_dflt (refine' init_K ?k1 ?k2 ?k3 ?k4 ?k5 ?_; (case k1 => k_asm); (case k2 => k_asm); (case k3 => k_asm); (case k4 => k_asm); (case k5 => k_is); k_whole); intro t9 h9 F9 N9))
local macro_rules | `(tactic| walk_at "getMethod type:Exception") => `(tactic| (k_here; refine' method_type ?F ?X ?m (by decide +kernel) ?e ?h ?_; (case F => k_asm); (case X => k_asm); (case m => kernel_rfl); (case e => k_dflt k_is); (case h => k_handed)))
local macro_rules | `(tactic| walk_at "setAttr ref") => `(tactic| (k_here; k_dflt (first
  | (refine' set0_K ?k1 ?k2 ?k3 ?k4 ?k5 ?k6 ?k7 ?k8 ?k9 ?_; (case k1 => k_asm); (case k2 => k_asm); (case k3 => k_asm); (case k4 => k_asm); (case k5 => k_is); (case k6 => kernel_rfl); (case k7 => k_is); (case k8 => k_is); (case k9 => first | exact lk_what | exact lk_at); k_whole; intro d9 h9 tk9 F9 N9 D9 d1 d2 d3 d4)
  | (refine' set1_K ?k1 ?k2 ?k3 ?k5 ?k6 ?k7 ?k8 ?k9 ?kD ?kw ?kz ?d1 ?d2 ?d3 ?d4 ?_; (case k1 => k_asm); (case k2 => k_asm); (case k3 => k_asm); (case k5 => k_is); (case k6 => kernel_rfl); (case k7 => k_is); (case k8 => k_is); (case k9 => first | exact lk_what | exact lk_at); (case kD => assumption); (case kw => exact Within.cons _ _ Within.nil); (case kz => exact Nat.le_of_ble_eq_true rfl); (case d1 => assumption); (case d2 => assumption); (case d3 => assumption); (case d4 => assumption); k_whole; intro h9 tk9 F9 N9))))

theorem t_paper {w : World} {mean : ExcName → Option Value} {mg mb : Str → Option Value} (news : List (Addr × Obj)) (x : Str) (t : Tok) : Told1 w mean mg mb 55 2 40 news [.str x t]
    fun h₀ L m s Q => ∀ e tt d h' tk', Fr h₀ L h' m → News h₀ L h' ((e, ExcRow tt (some d)) :: news) → (∀ p ∈ news, p.1 ≠ e) → Q (.ref e) { s with heap := h', toks := tk' } := by
  dsimp only [Told1, Gives, PR]
  k_fill
  intro dp un gd cn cs a ccd cl outer A₀ base h₀ L m s Q E B F X N T hk hd' hu hret
  have hC : (hd.heap_39 w.params).lookup 55 = some PaperCls := by k_is
  have hok : nsOkIn (hd.heap_39 w.params) 54 = true := by kernel_rfl
  have hi : nsIn (hd.heap_39 w.params) 54 "__init__" = some (some (.ref 45)) := by k_is
  have Xs := X.keeps F.keep
  have G := Heap.Ns.of_isNs (isNs_of_in Xs hok)
  obtain ⟨hp, g, d, tk, os⟩ := s
  refine wpAny_call_exc_init PySem.F.excBase_Exception (Xs _ _ hC) G (ns_some_of Xs G hi) (Xs _ _ (by k_is)) rfl (fun h' e hm => ?_) (by rw [sizeLine_eq]; exact Nat.le_of_ble_eq_true rfl)
  obtain ⟨tt, h1, h2, _⟩ := hm.there
  have hnew : h₀.get? e = none := by
    cases q : h₀.get? e with
    | none => rfl
    | some o => have := hm.new; rw [F.keep _ _ q] at this; cases this
  have hne : ∀ p ∈ news, p.1 ≠ e := fun p hp y => by have := (N p hp).1; rw [y, hm.new] at this; cases this
  have F1 : Fr h₀ L h' m := F.keeps hm.keeps
  have N1 : News h₀ L h' ((e, ExcRow tt none) :: news) := fun p hp => by
    rcases List.mem_cons.mp hp with rfl | hp
    · refine ⟨h1, fun z => ?_, hnew⟩
      obtain ⟨oL, _, _, hoL, _⟩ := F.ns
      have := hm.new
      dsimp only at this z
      rw [z, hoL] at this; cases this
    · exact ⟨hm.keeps _ _ (N p hp).1, (N p hp).2⟩
  clear hm hnew h1 h2 G Xs N F
  refine wpAny_call ?_
  k_dflt (refine' code_def ?k1 ?k2 ?k3 ?k4 ?k5 ?kA ?kF ?kK ?k6 ?k7 ?k8 ?k9 ?kB ?_ ?c2 ?c3 ?c4 ?c5; (case kA => exact rfl); (case kF => exact rfl); (case kK => assumption); (case k1 => k_asm); (case k2 => k_asm); (case k3 => k_asm); (case k4 => k_asm); (case k5 => k_asm); (case k6 => k_is); (case k7 => k_is); (case k8 => ktr_room); (case k9 => first | exact BindsTo.of_eq rfl | exact binds_K (by k_in) rfl (by k_is) rfl rfl rfl); (case c5 => decide); (case kB => exact locs rfl); (case c2 => exact rfl); (case c3 => exact rfl); (case c4 => exact rfl); k_whole; intro g' L' h' FG' F' N' B' X' T'; (try dsimp only); (try k_lift B'); (try k_fold))
  k_steps
  exact hret _ _ _ _ _ (by k_asm) (by k_asm) hne
end Mine
end OgF

section OgB
open PySem PySem.W PySem.Spec PySem.Calls PyProof.Rows
namespace Mine
set_option maxRecDepth 100000
set_option maxHeartbeats 400000
section
variable {w : World} {mean : ExcName → Option Value} {mg mb : Str → Option Value}
local macro_rules | `(tactic| walk_at "call ref") => `(tactic| (k_here; (with_reducible show wpAny _ _ (PySem.call (Value.ref _) [Value.int _ _]) _ _ _); k_dflt (refine' t_is_regular _ _ _ _ _ _ _ _ _ _ _ _ _ _ _ _ _ _ _ _ ?k1 ?k2 ?k3 ?k4 ?k5 ?kK ?kd ?ku ?_; (case k1 => k_asm); (case k2 => k_asm); (case k3 => k_asm); (case k4 => k_asm); (case k5 => k_asm); (case kK => first | exact rfl | assumption); (case kd => ktr_room); (case ku => ktr_units); k_whole); intro t9 h9 tk9 F9 N9; (try dsimp only); (try k_fold)))
local macro_rules | `(tactic| walk_at "call ref") => `(tactic| (k_here; (with_reducible show wpAny _ _ (PySem.call (Value.ref _) [Value.int _ _]) _ _ _); k_dflt (refine' t_hex_pair _ _ _ ?kx ?ky _ _ _ _ _ _ _ _ _ _ _ _ _ _ _ _ _ ?k1 ?k2 ?k3 ?k4 ?k5 ?kK ?kd ?ku ?_; (case k1 => k_asm); (case k2 => k_asm); (case k3 => k_asm); (case k4 => k_asm); (case k5 => k_asm); (case kx => first | assumption | omega); (case ky => first | assumption | omega); (case kK => first | exact rfl | assumption); (case kd => ktr_room); (case ku => ktr_units); k_whole); intro D9 n9 t8 t9 h9 tk9 F9 N9 l9; (have l8 := ltN (l9 _ (List.mem_cons_self ..))); (try dsimp only at l8); (try dsimp only); (try k_fold)))
local macro_rules | `(tactic| k_upd) => `(tactic| (refine' Upd.head ?a; (case a => with_reducible assumption)))

theorem ext_open {prog : Program} {A : Around} {E : Value → Shared → Prop} {s : Shared} {h₀ : Heap} {L D b : Addr} {m : Str → Option Value} {news news' : List (Addr × Obj)} {its its2 : Array Value} {n n2 : Nat} {Q : Value → Shared → Prop} (F : Fr h₀ L s.heap m) (N : News h₀ L s.heap news) (hb : (b, listOf its2 n2) ∈ news) (hne : its2.toList.length ≠ 0)
    (U : Upd D (listOf its n) (listOf (its.toList ++ its2.toList).toArray (n + 1)) news news') (hz : its.size + its2.size ≤ 16777216)
    (h : ∀ h', Fr h₀ L h' m → News h₀ L h' news' → Q .none { s with heap := h' }) : wpAny (model prog w) A (PySem.call (.builtin "list.extend") [.ref D, .ref b]) Q E s :=
  kl_extend F N hb rfl hne U (by
    have : Builtin.List.listTooLong (its.size + its2.size) = false := by unfold Builtin.List.listTooLong; rw [sizeLine_eq]; simpa using hz
    rw [this, Bool.and_false]; exact Bool.false_ne_true) (by rw [sizeLine_eq, Array.length_toList]; omega) (by rw [sizeLine_eq]; omega) h
local macro_rules | `(tactic| walk_at "call builtin:list.extend") => `(tactic| (k_here; (with_reducible show wpAny _ _ (PySem.call (Value.builtin _) [Value.ref _, Value.ref _]) _ _ _); k_dflt (refine' ext_open ?F ?N ?b ?ne ?U ?z ?_; (case F => k_asm); (case N => k_asm); (case b => k_mem); (case ne => exact Nat.succ_ne_zero _); (case U => k_upd); (case z => ((try simp only [Array.size_push, List.size_toArray, List.length_cons, List.length_nil] at *); omega)); k_whole); intro h' F' N'; (try dsimp only [List.nil_append, List.cons_append] at N')))

/-- a turn over a text with one list of ints grown: how it ends -/
def Turn1 (h₀ : Heap) (L : Addr) (l : Addr) (news own : List (Addr × Obj)) (x : Str) (stored : List Str) (m₀ : Str → Option Value) (P : List Int → Prop) (s : Shared) (Q : Flow → Shared → Prop) (f : Flow) (s₂ : Shared) : Prop :=
  match f with
  | .ret v => Q (.ret v) s₂
  | .brk => Q .next s₂
  | _ => ∃ h' tk' m' news' vs' ns' nn', s₂ = { s with heap := h', toks := tk' } ∧ Fr h₀ L h' m' ∧ News h₀ L h' news' ∧ (l, listOf (List.toArray vs') nn') ∈ news' ∧ (∀ p ∈ news, p ∈ news') ∧ (∀ p ∈ own, p ∈ news') ∧ IntsAre vs' ns' ∧
      (∀ z, z ≠ x → stored.contains z = false → m' z = m₀ z) ∧ P ns'

theorem turn1_next {h₀ : Heap} {L l : Addr} {news own news' : List (Addr × Obj)} {x : Str} {stored : List Str} {m₀ m' : Str → Option Value} {P : List Int → Prop} {s : Shared} {Q : Flow → Shared → Prop} {h' : Heap} {tk' : Nat} {its : Array Value} {ns' : List Int} {nn' : Nat}
    (F : Fr h₀ L h' m') (N : News h₀ L h' news') (hl : (l, listOf its nn') ∈ news') (hn : ∀ p ∈ news ++ own, p ∈ news') (hI : IntsAre its.toList ns') (hm : ∀ z, z ≠ x → stored.contains z = false → m' z = m₀ z) (hP : P ns') :
    Turn1 h₀ L l news own x stored m₀ P s Q .next { s with heap := h', toks := tk' } :=
  ⟨h', tk', m', news', its.toList, ns', nn', rfl, F, N, hl, fun p hp => hn p (List.mem_append_left _ hp), fun p hp => hn p (List.mem_append_right _ hp), hI, hm, hP⟩
theorem ints_push {vs : Array Value} {ns : List Int} (h : IntsAre vs.toList ns) (k : Int) (t : Tok) : IntsAre (vs.push (.int k t)).toList (ns ++ [k]) := by
  rw [Array.toList_push]; exact h.append (.cons _ _ .nil)
theorem ints_ext {vs : Array Value} {ws : List Value} {ns ms : List Int} (h : IntsAre vs.toList ns) (h' : IntsAre ws ms) : IntsAre (vs.toList ++ ws).toArray.toList (ns ++ ms) := h.append h'
theorem news_of_cons {h₀ h : Heap} {L : Addr} {p : Addr × Obj} {news : List (Addr × Obj)} (N : News h₀ L h (p :: news)) : News h₀ L h news := fun q hq => N q (.tail _ hq)
theorem text_loop1 {prog : Program} {A : Around} {E : Value → Shared → Prop} {s : Shared} {env : Env} {h₀ : Heap} {x : Str} {body : List Stmt} {Q : Flow → Shared → Prop} {xt : Str} {tx : Tok} {m₀ : Str → Option Value} {l : Addr} {vs₀ : List Value} {ns₀ : List Int} {n₀ : Nat} {news : List (Addr × Obj)}
    (P : List Int → List Int → Prop) (stored : List Str) (hh : A.handled = none) (F : Fr h₀ env.locals s.heap m₀) (N : News h₀ env.locals s.heap ((l, listOf (List.toArray vs₀) n₀) :: news)) (hlt : ∀ p ∈ news, p.1 < l) (hi : IntsAre vs₀ ns₀) (hp : P [] ns₀)
    (turn : ∀ (pre post : List Int) (n : Nat) (t : Tok) (u : Str → Option Value) (h : Heap) (tk : Nat) (own : List (Addr × Obj)) (vs : List Value) (ns : List Int) (nn : Nat), KStt.codes xt = pre ++ (n : Int) :: post → (∀ p ∈ news ++ own, p.1 ≠ l) → IntsAre vs ns → P pre ns →
      Fr h₀ env.locals h (fun y => if y = x then some (.str ⟨#[n]⟩ t) else if stored.contains y then u y else m₀ y) → News h₀ env.locals h ((l, listOf (List.toArray vs) nn) :: (news ++ own)) →
      wpAny (model prog w) A (execs body env) (Turn1 h₀ env.locals l news own x stored m₀ (P (pre ++ [(n : Int)])) { s with heap := h, toks := tk } Q) E { s with heap := h, toks := tk })
    (done : ∀ (u : Str → Option Value) (h : Heap) (tk : Nat) (vs : List Value) (ns : List Int) (nn : Nat), IntsAre vs ns → P (KStt.codes xt) ns → Fr h₀ env.locals h (fun y => if y = x then u y else if stored.contains y then u y else m₀ y) → News h₀ env.locals h ((l, listOf (List.toArray vs) nn) :: news) → Q .next { s with heap := h, toks := tk }) :
    wpAny (model prog w) A (pyIter (.str xt tx)) (fun it s₂ => LoopAtV prog w A h₀ env x body Q E it s₂) E s := by
  refine KStt.kst_text (σ := List Value × List Int × Nat) (fun c => (l, listOf (List.toArray c.1) c.2.2) :: news) (fun _ => []) (fun c => IntsAre c.1 c.2.1) stored (fun pre c => P pre c.2.1) (vs₀, ns₀, n₀) hh F N hi (fun _ h => nomatch h) hp ?_ ?_
  · rintro ⟨vs, ns, nn⟩ pre post n t u h tk own e hoff hI hP F₁ N₁
    refine wpAny_mono (turn pre post n t u h tk own vs ns nn e (fun p hp => (List.mem_append.mp hp).elim (fun h => Nat.ne_of_lt (hlt p h)) fun h => hoff p h _ (.head _)) hI hP F₁ N₁) (fun f s₂ hT => ?_) fun _ _ e => e
    have fin : (∃ h' tk' m' news' vs' ns' nn', s₂ = { s with heap := h', toks := tk' } ∧ Fr h₀ env.locals h' m' ∧ News h₀ env.locals h' news' ∧ (l, listOf (List.toArray vs') nn') ∈ news' ∧ (∀ p ∈ news, p ∈ news') ∧ (∀ p ∈ own, p ∈ news') ∧ IntsAre vs' ns' ∧
        (∀ z, z ≠ x → stored.contains z = false → m' z = m₀ z) ∧ P (pre ++ [(n : Int)]) ns') →
        InvEndN h₀ env.locals (KstS (fun c : List Value × List Int × Nat => (l, listOf (List.toArray c.1) c.2.2) :: news) (fun _ => []) (fun c => IntsAre c.1 c.2.1) x stored m₀ (fun pre c => P pre c.2.1) (pre ++ [(n : Int)])) own (l :: news.map (·.1)) { s with heap := h, toks := tk } s₂ := by
      rintro ⟨h', tk', m', news', vs', ns', nn', rfl, F', N', hl, hn, ho, hI', hm, hP'⟩
      exact kst_end (x := x) (stored := stored) (m₀ := m₀) (Led := fun c : List Value × List Int × Nat => (l, listOf (List.toArray c.1) c.2.2) :: news) (ps := fun _ => []) (Facts := fun c => IntsAre c.1 c.2.1) (P := fun pre c => P pre c.2.1)
        (s₁ := { s with heap := h, toks := tk }) (vs', ns', nn') F' N' (fun p hp => (List.mem_cons.mp hp).elim (fun e => e ▸ hl) (hn p)) ho rfl hI' (fun _ h => nomatch h) (fun z h1 _ h3 => hm z h1 h3) hP'
    cases f with
    | ret v => exact hT
    | brk => exact hT
    | next => exact fin hT
    | cont => exact fin hT
  · rintro ⟨vs, ns, nn⟩ u h tk hI hP F₁ N₁
    exact done u h tk vs ns nn hI hP F₁ N₁

local macro_rules | `(tactic| walk_at "exec Raise some none") => `(tactic| (k_here; (with_reducible show wpAny _ _ (exec (Stmt.Raise (some (Expr.Call (Expr.Name ("PaperError" : Str) _) _ _ _)) none _) _) _ _ _); refine raise_paper rfl ?_))
local macro_rules | `(tactic| walk_at "call ref") => `(tactic| (k_here; (with_reducible show wpAny _ _ (PySem.call (Value.ref _) [Value.str _ _]) _ _ _); k_dflt (refine' t_paper _ _ _ _ _ _ _ _ _ _ _ _ _ _ _ _ _ _ _ _ ?k1 ?k2 ?k3 ?k4 ?k5 ?kK ?kd ?ku ?_; (case k1 => k_asm); (case k2 => k_asm); (case k3 => k_asm); (case k4 => k_asm); (case k5 => k_asm); (case kK => first | exact rfl | assumption); (case kd => ktr_room); (case ku => ktr_units); k_whole); intro e9 t9 d9 h9 tk9 F9 N9 n9; (try dsimp only)))
theorem raisedSN_less {base G : Heap} {l : List Env} {e : Addr} {cls : Value} {news news' : List (Addr × Obj)} {h : Heap} (R : RaisedSN base G l e cls news h) (hs : ∀ p ∈ news', p ∈ news) : RaisedSN base G l e cls news' h := by
  obtain ⟨B, a0, h1, h2, h3, h4⟩ := R
  exact ⟨B, a0, h1, h2, fun q hq => h3 q (hs q hq), h4⟩
theorem codes_named {x : Str} {pre post : List Int} {n : Int} (he : KStt.codes x = pre ++ n :: post) (hn : n = 0 ∨ 255 < n) : ¬ Named (KStt.codes x) := fun h => by
  have := h n (by rw [he]; simp)
  omega

theorem t_name_octets (news : List (Addr × Obj)) (x : Str) (t : Tok) (hx : x.length ≤ 1000) :
    ∀ (dp un : Nat) (gd : Option (List Code)) (cn : Str) (cs : Scope) (a : Addr) (ccd : Value) (cl : List (Str × Addr)) (outer : List Env) (A₀ : Around) (base h₀ : Heap) (L : Addr) (m : Str → Option Value) (s : Shared) (Q E : Value → Shared → Prop),
    Below A₀ base outer h₀ → Fr h₀ L s.heap m → (hd.heap_39 w.params).In h₀ → News h₀ L s.heap news → Top hd.view_39 LO mean mg mb h₀ → cs.kind = .function →
    dp + 5 < recursionLimit → un + 60 < cLine →
    (Named (KStt.codes x) → Gives news (fun t => .bytes (byteArr (47 :: nameBody (KStt.codes x))) t) h₀ L m s Q) →
    (¬ Named (KStt.codes x) → ∀ g e h' tk', Fr h₀ L g m → RaisedSN base g (envX cn cs L a ccd cl :: outer) e (.ref 55) news h' → g.UpToSlots h' → E (.ref e) { s with heap := h', toks := tk' }) →
    wpAny (model PR w) (ktrTop dp un gd cn cs L a ccd cl outer) (PySem.call (.ref 89) [.str x t]) Q E s := by
  dsimp only [Gives, PR]
  k_fill
  intro dp un gd cn cs a ccd cl outer A₀ base h₀ L m s Q E B F X N T hk hd' hu hret hexc
  refine wpAny_call ?_
  k_dflt cell_enter
  k_with "pyIter str" => fail
  k_steps
  rename Fr h₀ _ _ _ => FG
  rename Below _ base _ _ => BG
  rename Fr _ _ _ _ => kF
  rename News _ _ _ _ => kN
  rename ∀ (p : Addr × Obj), p ∈ news → p.1 < _ => hlt
  with_unfolding_all refine text_loop1 (vs₀ := [_]) (ns₀ := [47]) (fun pre ns => ns = 47 :: nameBody pre ∧ Named pre) [Str.ofString "code"] rfl kF kN hlt (.cons _ _ .nil) ⟨rfl, fun _ h => nomatch h⟩ ?_ ?_
  · clear kF kN
    intro pre post n t' u h' tk own vs ns nn he hoff hI ⟨hns, hnm⟩ F₁ N₁
    k_fold
    have hvl : vs.length ≤ 3001 := by
      have q1 := nameBody_len pre
      have q2 : pre.length ≤ 1000 := by have := congrArg List.length he; rw [KStt.codes_length, List.length_append] at this; omega
      rw [hI.length, hns, List.length_cons]; omega
    have hvl' : vs.toArray.size ≤ 3001 := by simpa using hvl
    k_steps
    iterate 2 (
      · rename News _ _ _ ((_, ExcRow _ _) :: _) => kN
        rename ∀ (p : Addr × Obj), p ∈ _ :: _ → p.1 ≠ _ => kn
        refine ⟨_, _, _, rfl, (Frag.In.keeps (by k_asm) (Fr.keep (by k_asm))) _ _ (by k_is), (kN _ (.head _)).1, ?_⟩
        k_unfold
        k_unfold
        refine leave_paper BG (by k_asm) kN kn fun h9 R _ U => hexc (codes_named he (by omega)) _ _ _ _ FG (raisedSN_less R fun p hp => .tail _ (List.mem_append_left _ hp)) U)
    iterate 3 (
      · refine turn1_next (by k_asm) (by k_asm) (.tail _ (.head _)) (fun p hp => .tail _ (.tail _ hp)) (ints_ext (ints_push hI _ _) (.cons _ _ (.cons _ _ .nil))) (by intro z h1 h2; simp_all) ?_
        refine ⟨?_, hnm.snoc (by omega) (by omega)⟩
        rw [hns, nameBody_snoc, nameSign, if_pos (by omega)]
        simp)
    · refine turn1_next (by k_asm) (by k_asm) (.head _) (fun p hp => .tail _ hp) (ints_push hI _ _) (by intro z h1 h2; simp_all) ?_
      refine ⟨?_, hnm.snoc (by omega) (by omega)⟩
      rw [hns, nameBody_snoc, nameSign, if_neg (by rintro (h | h | h | h) <;> first | omega | simp_all)]
      simp
    · refine turn1_next (by k_asm) (by k_asm) (.tail _ (.head _)) (fun p hp => .tail _ (.tail _ hp)) (ints_ext (ints_push hI _ _) (.cons _ _ (.cons _ _ .nil))) (by intro z h1 h2; simp_all) ?_
      refine ⟨?_, hnm.snoc (by omega) (by omega)⟩
      rw [hns, nameBody_snoc, nameSign, if_pos (by simp_all)]
      simp
  · clear kF kN
    intro u h' tk vs ns nn hI ⟨hns, hnm⟩ F₁ N₁
    have hnl : ns.length ≤ 3001 := by
      have q1 := nameBody_len (KStt.codes x)
      rw [KStt.codes_length] at q1
      rw [hns, List.length_cons]; omega
    have hbs : KBa.In ns := by
      rw [hns]
      intro n hn
      rcases List.mem_cons.mp hn with rfl | hn
      · omega
      · exact nameBody_in hnm n hn
    k_steps
    subst hns
    exact hret hnm _ _ _ (by k_asm) (news_of_cons (by k_asm))
end
end Mine
end OgB

section OgC
open PySem PySem.W PySem.Spec PySem.Calls PyProof.Rows
local macro_rules | `(tactic| walk_at "pad9") => `(tactic| skip)
local macro_rules | `(tactic| walk_at "pad9") => `(tactic| skip)
local macro_rules | `(tactic| walk_at "pad9") => `(tactic| skip)
local macro_rules | `(tactic| walk_at "pad9") => `(tactic| skip)
local macro_rules | `(tactic| walk_at "pad9") => `(tactic| skip)
local macro_rules | `(tactic| walk_at "pad9") => `(tactic| skip)
local macro_rules | `(tactic| walk_at "pad9") => `(tactic| skip)
local macro_rules | `(tactic| walk_at "pad9") => `(tactic| skip)
local macro_rules | `(tactic| walk_at "pad9") => `(tactic| skip)
local macro_rules | `(tactic| walk_at "pad9") => `(tactic| skip)
local macro_rules | `(tactic| walk_at "pad9") => `(tactic| skip)
local macro_rules | `(tactic| walk_at "pad9") => `(tactic| skip)
local macro_rules | `(tactic| walk_at "pad9") => `(tactic| skip)
local macro_rules | `(tactic| walk_at "pad9") => `(tactic| skip)
local macro_rules | `(tactic| walk_at "pad9") => `(tactic| skip)
local macro_rules | `(tactic| walk_at "pad9") => `(tactic| skip)
local macro_rules | `(tactic| walk_at "pad9") => `(tactic| skip)
local macro_rules | `(tactic| walk_at "pad9") => `(tactic| skip)
local macro_rules | `(tactic| walk_at "pad9") => `(tactic| skip)
local macro_rules | `(tactic| walk_at "pad9") => `(tactic| skip)
local macro_rules | `(tactic| walk_at "pad9") => `(tactic| skip)
local macro_rules | `(tactic| walk_at "pad9") => `(tactic| skip)
local macro_rules | `(tactic| walk_at "pad9") => `(tactic| skip)
local macro_rules | `(tactic| walk_at "pad9") => `(tactic| skip)
local macro_rules | `(tactic| walk_at "pad9") => `(tactic| skip)
namespace Mine
set_option maxRecDepth 100000
set_option maxHeartbeats 2000000
section
variable {w : World} {mean : ExcName → Option Value} {mg mb : Str → Option Value}
/-- the pen on the ledger: the list of its cells, its count, what is left of the cell at hand -/
abbrev penLed (p c : Addr) (vs : List Value) (k v : Int) (tk tv : Tok) (n n' : Nat) (news : List (Addr × Obj)) : List (Addr × Obj) := (p, listOf #[.ref c, .int k tk, .int v tv] n) :: (c, listOf (List.toArray vs) n') :: news
def PenOff (p c : Addr) (news : List (Addr × Obj)) : Prop := p ≠ c ∧ (∀ q ∈ news, q.1 ≠ p) ∧ (∀ q ∈ news, q.1 ≠ c)
abbrev PenBack (news : List (Addr × Obj)) (p c : Addr) (h₀ : Heap) (L : Addr) (m : Str → Option Value) (s : Shared) (K : Shared → Prop) : Prop :=
  ∀ vs ns k v tk tv n n' h' tk', IntsAre vs ns → ns.length ≤ 40 → Fr h₀ L h' m → News h₀ L h' (penLed p c vs k v tk tv n n' news) → K { s with heap := h', toks := tk' }

local macro_rules | `(tactic| k_all) => `(tactic| with_reducible assumption)
local macro_rules | `(tactic| walk_at "compareOp NotEq ref") => `(tactic| (k_here; (with_reducible show wpAny _ _ (compareOp CmpOp.NotEq (Value.ref _) (Value.ref _)) _ _ _); k_dflt (refine' ne_intsK (vs := _) (us := []) ?k1 ?k2 ?k3 .nil ?k5 ?_; (case k1 => is_list); (case k2 => first | assumption | exact .nil | exact .cons _ _ (by assumption)); (case k3 => is_list); (case k5 => ktr_units); k_whole)))
theorem pop_first {prog : Program} {A : Around} {E : Value → Shared → Prop} {s : Shared} {h₀ : Heap} {L D : Addr} {m : Str → Option Value} {news news' : List (Addr × Obj)} {y : Value} {vs : List Value} {n : Nat} {u : Tok} {Q : Value → Shared → Prop} (F : Fr h₀ L s.heap m) (N : News h₀ L s.heap news)
    (U : Upd D (listOf (List.toArray (y :: vs)) n) (listOf (List.toArray vs) (n + 1)) news news') (hz : vs.length ≤ 1000000) (h : ∀ h', Fr h₀ L h' m → News h₀ L h' news' → Q y { s with heap := h' }) :
    wpAny (model prog w) A (PySem.call (.builtin "list.pop") [.ref D, .int 0 u]) Q E s :=
  kl_popAt (p := []) (q := vs) (y := y) (k := 0) F N (by decide) (by simp [seqIndex?]) rfl U (by rw [sizeLine_eq]; simp only [List.length_cons]; omega) h
local macro_rules | `(tactic| walk_at "call builtin:list.pop") => `(tactic| (k_here; (with_reducible show wpAny _ _ (PySem.call (Value.builtin _) [Value.ref _, Value.int _ _]) _ _ _); k_dflt (refine' pop_first ?k1 ?k2 ?k3 ?k4 ?_; (case k1 => k_asm); (case k2 => k_asm); (case k3 => k_upd); (case k4 => omega); k_whole); intro h' F' N'))
theorem t_draw0 (news : List (Addr × Obj)) (p c : Addr) (hoff : PenOff p c news) (vs : List Value) (ns : List Int) (hi : IntsAre vs ns) (hl : ns.length ≤ 40) (k v : Int) (tk tv : Tok) (n n' : Nat) (many : Int) (t : Tok) (hm : 1 ≤ many) (hm' : many ≤ 1000) :
    Told1 w mean mg mb 116 2 200 (penLed p c vs k v tk tv n n' news) [.ref p, .int many t]
      fun h₀ L m s Q => ∀ d t, 0 ≤ d → d < many → PenBack news p c h₀ L m s (Q (.int d t)) := by
  dsimp only [Told1, Gives, PR]
  k_fill
  intro dp un gd cn cs a ccd cl outer A₀ base h₀ L m s Q E B F X N T hk hd' hu hret
  obtain ⟨h1, h2, h3⟩ := hoff
  have h1' := neN h1
  dsimp only [penLed] at N
  have fm : ∀ x : Int, 0 ≤ x.fmod many ∧ x.fmod many < many := fun x => by
    rw [Int.fmod_eq_emod_of_nonneg _ (by omega)]
    exact ⟨Int.emod_nonneg _ (by omega), Int.emod_lt_of_pos _ (by omega)⟩
  cases hi with
  | nil =>
    refine wpAny_call ?_
    k_dflt cell_enter
    k_steps
    · exact hret _ _ (fm _).1 (fm _).2 [] [] _ _ _ _ _ _ _ _ .nil (Nat.zero_le _) (by k_asm) (cb_drop (by k_asm) fun p hp => .tail _ hp)
    · exact hret _ _ (fm _).1 (fm _).2 [] [] _ _ _ _ _ _ _ _ .nil (Nat.zero_le _) (by k_asm) (by k_asm)
  | cons n0 t0 hi =>
    rw [List.length_cons] at hl
    have hvl := hi.length
    refine wpAny_call ?_
    k_dflt cell_enter
    k_steps
    · simp_all
    · exact hret _ _ (fm _).1 (fm _).2 _ _ _ _ _ _ _ _ _ _ hi (by omega) (by k_asm) (cb_drop (by k_asm) fun p hp => .tail _ hp)
    · exact hret _ _ (fm _).1 (fm _).2 _ _ _ _ _ _ _ _ _ _ (.cons _ _ hi) (by simp only [List.length_cons]; omega) (by k_asm) (by k_asm)
end
end Mine
end OgC

section OgL
open PySem PySem.W PySem.Spec PySem.Calls PyProof.Rows
namespace Mine
set_option maxRecDepth 100000
set_option maxHeartbeats 2000000
/-- a value whose iterator is one new object, walked item by item -/
def OneSrc (prog : Program) (w : World) (A : Around) (xv : Value) (n : Nat) (P : Nat → Value → Prop) (s₁ : Shared) : Prop :=
  ∀ (_Q _E : Value → Shared → Prop), (∀ (o : Obj) (St : Nat → Heap → Prop), Walks prog w A s₁.heap.objs.size [s₁.heap.objs.size] [s₁.heap.objs.size] n P St → (∀ i h, St i h → ∃ o, h.get? s₁.heap.objs.size = some o) → St 0 (s₁.heap.push o) →
    _Q (.ref s₁.heap.objs.size) { s₁ with heap := s₁.heap.push o }) → wpAny (model prog w) A (pyIter xv) _Q _E s₁
section
variable {prog : Program} {w : World} {A : Around} {E : Value → Shared → Prop} {s : Shared} {h₀ : Heap} {L : Addr} {m : Str → Option Value} {env : Env}
/-- what a comprehension's source is to be -/
def SrcU1 (prog : Program) (w : World) (A : Around) (h₀ : Heap) (L : Addr) (m : Str → Option Value) (env : Env) (elt : Expr) (x : Str) (scope : Scope) (cl : List (Str × Addr)) (Q : Value → Shared → Prop) (xv : Value) (s₁ : Shared) : Prop :=
  ∃ n P news, OneSrc prog w A xv n P s₁ ∧ Fr h₀ L s₁.heap m ∧ News h₀ L s₁.heap news ∧ n ≤ sizeLine ∧
      ∀ g, LCg.CompRest prog w A h₀ L m env elt x scope cl { s₁ with heap := g } (fun _ => True) P (LCg.FinE h₀ L m { s₁ with heap := g } Q) n 0 [] news
def SrcT1 (prog : Program) (w : World) (A : Around) (h₀ : Heap) (L : Addr) (m : Str → Option Value) (env : Env) (ct elt : Expr) (x : Str) (scope : Scope) (cl : List (Str × Addr)) (Q : Value → Shared → Prop) (xv : Value) (s₁ : Shared) : Prop :=
  ∃ n P news, OneSrc prog w A xv n P s₁ ∧ Fr h₀ L s₁.heap m ∧ News h₀ L s₁.heap news ∧ n ≤ sizeLine ∧
      ∀ g, LCt.CompRestT prog w A h₀ L m env ct elt x scope cl { s₁ with heap := g } (fun _ => True) P (LCg.FinE h₀ L m { s₁ with heap := g } Q) n 0 [] news
theorem oneSrc_str (hh : A.handled = none) (x : Str) (t : Tok) (s₁ : Shared) : OneSrc prog w A (.str x t) x.cps.size (SignAt x) s₁ := fun Q E hQ => by
  cases ha : x.cps.all (· < 128)
  · exact wpAny_pyIter_wide ha (hQ _ _ (Walks.strWide hh _ x t) (fun _ _ ⟨o, e, _⟩ => ⟨o, e⟩) ⟨_, Heap.get?_push_size _ rfl, rfl, rfl⟩)
  · exact wpAny_pyIter_ascii ha (hQ _ _ (Walks.strAscii hh _ x t) (fun _ _ ⟨o, e, _⟩ => ⟨o, e⟩) ⟨_, Heap.get?_push_size _ rfl, rfl, rfl⟩)
theorem oneSrc_bytes (hh : A.handled = none) (b : Array UInt8) (t : Tok) (s₁ : Shared) : OneSrc prog w A (.bytes b t) b.size (fun i v => ∃ c u, b[i]? = some c ∧ v = .int (c.toNat : Int) u) s₁ := fun Q E hQ =>
  KBw.pyIter_bytes (hQ _ _ (KBw.walks hh _ b t) (fun _ _ ⟨o, e, _⟩ => ⟨o, e⟩) ⟨_, Heap.get?_push_size _ rfl, rfl, rfl⟩)

theorem one_st {I : Addr} {n : Nat} {P : Nat → Value → Prop} {St : Nat → Heap → Prop} (W : Walks prog w A I [I] [I] n P St) : ∀ i (h h' : Heap) (o : Obj) (nw : List (Addr × Obj)), St i h → h.get? I = some o → h'.get? I = some o → (∀ b o, h₀.get? b = some o → h'.get? b = some o) → News h₀ L h' nw → True → St i h' :=
  fun i h h' o _ st e e' _ _ _ => W.frame i h h' st fun b hb o' e'' => by
    rw [List.mem_singleton.mp hb] at e'' ⊢
    rw [e] at e''; cases e''; exact e'

theorem ListComp_oneU {elt iter : Expr} {x : Str} {px : Pos} {scope : Scope} {cl : List (Str × Addr)} {pos : Pos} {Q : Value → Shared → Prop} (_F₀ : Fr h₀ L s.heap m)
    (hclos : closureFor scope env = pure cl) (hcell : ∀ y ∈ scope.names, y.2 ≠ .cell) (hkind : scope.kind = .function)
    (hnames : ∀ y ∈ scope.names, y.2 = .local → scope.names.lookup y.1 = some .local) (hx : scope.names.lookup x = some .local)
    (h : wpAny (model prog w) A (eval iter env) (SrcU1 prog w A h₀ L m env elt x scope cl Q) E s)
    (hs : ∀ x, foldedSetIterable iter env x = pure x := by intro _; rfl) :
    wpAny (model prog w) A (eval (.ListComp elt [⟨.Name x px, iter, [], 0⟩] scope pos) env) Q E s := by
  rw [eval_ListComp]
  refine wpAny_comprehension_free (use := none) rfl hs hclos hkind hnames (wpAny_mono h (fun xv s₁ h₁ => ?_) fun _ _ e => e)
  obtain ⟨n, P, news, S, F, N, hsz, R⟩ := h₁
  refine S _ _ fun o St W hIo hst => ?_
  refine LCg.block_U W hsz hIo (one_st W) hcell hkind hx hst (fun b hb => ?_) (F.push _) (N.pushKeep _) (Nat.ne_of_lt F.ns.lt) (next_is_new F) (fun p hp => Nat.ne_of_lt (Heap.lt_size (N p hp).1)) trivial (R _) ?_
  · rw [List.mem_singleton.mp hb]
    show s₁.heap.objs.size < (s₁.heap.push _).objs.size
    rw [Heap.size_push]; exact Nat.lt_succ_self _
  · intro D C h' tk m' ys news' F' N' o1 hn hC₀ hD₀ hCL hDL hCD offC fin
    refine ⟨m', hn, fun h'' hs'' => fin D h'' tk (F'.change hs'' hCL hC₀) (fun p hp => ?_) o1⟩
    refine ⟨hs''.extBut _ _ ?_ (N' p hp).1, (N' p hp).2⟩
    rcases List.mem_cons.mp hp with rfl | hp
    · exact Ne.symm hCD
    · exact offC p hp

theorem ListComp_oneT {ct elt iter : Expr} {x : Str} {px : Pos} {scope : Scope} {cl : List (Str × Addr)} {pos : Pos} {Q : Value → Shared → Prop} (_F₀ : Fr h₀ L s.heap m)
    (hclos : closureFor scope env = pure cl) (hcell : ∀ y ∈ scope.names, y.2 ≠ .cell) (hkind : scope.kind = .function)
    (hnames : ∀ y ∈ scope.names, y.2 = .local → scope.names.lookup y.1 = some .local) (hx : scope.names.lookup x = some .local)
    (h : wpAny (model prog w) A (eval iter env) (SrcT1 prog w A h₀ L m env ct elt x scope cl Q) E s)
    (hs : ∀ x, foldedSetIterable iter env x = pure x := by intro _; rfl) :
    wpAny (model prog w) A (eval (.ListComp elt [⟨.Name x px, iter, [ct], 0⟩] scope pos) env) Q E s := by
  rw [eval_ListComp]
  refine wpAny_comprehension_free (use := none) rfl hs hclos hkind hnames (wpAny_mono h (fun xv s₁ h₁ => ?_) fun _ _ e => e)
  obtain ⟨n, P, news, S, F, N, hsz, R⟩ := h₁
  refine S _ _ fun o St W hIo hst => ?_
  refine LCt.block_T W hsz hIo (one_st W) hcell hkind hx hst (fun b hb => ?_) (F.push _) (N.pushKeep _) (Nat.ne_of_lt F.ns.lt) (next_is_new F) (fun p hp => Nat.ne_of_lt (Heap.lt_size (N p hp).1)) trivial (R _) ?_
  · rw [List.mem_singleton.mp hb]
    show s₁.heap.objs.size < (s₁.heap.push _).objs.size
    rw [Heap.size_push]; exact Nat.lt_succ_self _
  · intro D C h' tk m' ys news' F' N' o1 hn hC₀ hD₀ hCL hDL hCD offC fin
    refine ⟨m', hn, fun h'' hs'' => fin D h'' tk (F'.change hs'' hCL hC₀) (fun p hp => ?_) o1⟩
    refine ⟨hs''.extBut _ _ ?_ (N' p hp).1, (N' p hp).2⟩
    rcases List.mem_cons.mp hp with rfl | hp
    · exact Ne.symm hCD
    · exact offC p hp

/-- a comprehension's turns by what holds between them -/
theorem rest_inv {elt : Expr} {x : Str} {scope : Scope} {cl : List (Str × Addr)} {S : List (Addr × Obj) → Prop} {P : Nat → Value → Prop} {Fin : List Value → List (Addr × Obj) → Prop} {n : Nat} (Inv : Nat → List Value → List (Addr × Obj) → Prop)
    (turn : ∀ i ys news v I oI C oC D m₂ h tk (E' : Value → Shared → Prop), i < n → Inv i ys news → P i v → LCg.NsObj oC m₂ → m₂ x = some v → Fr h₀ L h m → News h₀ L h ((I, oI) :: (C, oC) :: (D, LCg.lst ys) :: news) → LCg.Off3 I C D news → ((@Ne Nat I C) ∧ (@Ne Nat I D) ∧ (@Ne Nat C D)) →
      wpAny (model prog w) A (eval elt (compEnvC scope cl C env)) (LCg.CompEnd h₀ L m { s with heap := h, toks := tk } I oI C oC D (LCg.lst ys) S (fun y news' => Inv (i + 1) (ys ++ [y]) news')) E' { s with heap := h, toks := tk })
    (fin : ∀ ys news, Inv n ys news → Fin ys news) : ∀ (j i : Nat) (ys : List Value) (news : List (Addr × Obj)), i + j = n → Inv i ys news → LCg.CompRest prog w A h₀ L m env elt x scope cl s S P Fin j i ys news := by
  intro j
  induction j with
  | zero => intro i ys news e hI; exact LCg.CompRest.zero (fin ys news (by rw [← e]; exact hI))
  | succ j ih =>
    intro i ys news e hI
    refine LCg.CompRest.succ fun v I oI C oC D m₂ h tk E' hP hC hx F N off ne => ?_
    refine wpAny_mono (turn i ys news v I oI C oC D m₂ h tk E' (by omega) hI hP hC hx F N off ne) (fun y s₂ hq => ?_) fun _ _ e => e
    obtain ⟨h', tk', nw, e', F', N', off', hS, hI'⟩ := hq
    exact ⟨h', tk', nw, e', F', N', off', hS, ih (i + 1) _ _ (by omega) hI'⟩

theorem restT_inv {ct elt : Expr} {x : Str} {scope : Scope} {cl : List (Str × Addr)} {S : List (Addr × Obj) → Prop} {P : Nat → Value → Prop} {Fin : List Value → List (Addr × Obj) → Prop} {n : Nat} (Inv : Nat → List Value → List (Addr × Obj) → Prop)
    (turn : ∀ i ys news v I oI C oC D m₂ h tk (E' : Value → Shared → Prop), i < n → Inv i ys news → P i v → LCg.NsObj oC m₂ → m₂ x = some v → Fr h₀ L h m → News h₀ L h ((I, oI) :: (C, oC) :: (D, LCg.lst ys) :: news) → LCg.Off3 I C D news → ((@Ne Nat I C) ∧ (@Ne Nat I D) ∧ (@Ne Nat C D)) →
      wpAny (model prog w) A (isTrue ct (compEnvC scope cl C env) (eval ct (compEnvC scope cl C env))) (fun ok s' => if ok = true then
        wpAny (model prog w) A (eval elt (compEnvC scope cl C env)) (LCg.CompEnd h₀ L m { s with heap := h, toks := tk } I oI C oC D (LCg.lst ys) S (fun y news' => Inv (i + 1) (ys ++ [y]) news')) E' s'
        else LCg.CompEnd h₀ L m { s with heap := h, toks := tk } I oI C oC D (LCg.lst ys) S (fun _ news' => Inv (i + 1) ys news') Value.none s') E' { s with heap := h, toks := tk })
    (fin : ∀ ys news, Inv n ys news → Fin ys news) : ∀ (j i : Nat) (ys : List Value) (news : List (Addr × Obj)), i + j = n → Inv i ys news → LCt.CompRestT prog w A h₀ L m env ct elt x scope cl s S P Fin j i ys news := by
  intro j
  induction j with
  | zero => intro i ys news e hI; exact LCt.CompRestT.zero (fin ys news (by rw [← e]; exact hI))
  | succ j ih =>
    intro i ys news e hI
    refine LCt.CompRestT.succ fun v I oI C oC D m₂ h tk E' hP hC hx F N off ne => ?_
    have up : ∀ {ys' : List Value} {y : Value} {s₂ : Shared}, LCg.CompEnd h₀ L m { s with heap := h, toks := tk } I oI C oC D (LCg.lst ys) S (fun y news' => Inv (i + 1) (ys' ++ [y]) news') y s₂ →
        LCg.CompEnd h₀ L m { s with heap := h, toks := tk } I oI C oC D (LCg.lst ys) S (fun y news' => LCt.CompRestT prog w A h₀ L m env ct elt x scope cl s S P Fin j (i + 1) (ys' ++ [y]) news') y s₂ := by
      rintro ys' y s₂ ⟨h', tk', nw, e', F', N', off', hS, hI'⟩
      exact ⟨h', tk', nw, e', F', N', off', hS, ih (i + 1) _ _ (by omega) hI'⟩
    refine wpAny_mono (turn i ys news v I oI C oC D m₂ h tk E' (by omega) hI hP hC hx F N off ne) (fun ok s₂ hq => ?_) fun _ _ e => e
    cases ok with
    | true =>
      simp only [if_true] at hq ⊢
      exact wpAny_mono hq (fun _ _ q => up q) fun _ _ e => e
    | false =>
      simp only [Bool.false_eq_true, if_false] at hq ⊢
      obtain ⟨h', tk', nw, e', F', N', off', hS, hI'⟩ := hq
      exact ⟨h', tk', nw, e', F', N', off', hS, ih (i + 1) _ _ (by omega) hI'⟩
end
end Mine
end OgL

section OgM
open PySem PySem.W PySem.Spec PySem.Calls PyProof.Rows
namespace Mine
set_option maxRecDepth 100000
set_option maxHeartbeats 2000000
section
variable {w : World} {mean : ExcName → Option Value} {mg mb : Str → Option Value}
local macro_rules | `(tactic| walk_at "eval ListComp") => `(tactic| (k_here; (with_reducible show wpAny _ _ (eval (Expr.ListComp _ [Comprehension.mk _ _ [] _] _ _) _) _ _ _); k_dflt (refine ListComp_oneU (by k_asm) (by rfl) (by decide) (by rfl) (by decide) (by rfl) ?_)))
local macro_rules | `(tactic| walk_at "eval ListComp") => `(tactic| (k_here; (with_reducible show wpAny _ _ (eval (Expr.ListComp _ [Comprehension.mk _ _ [_] _] _ _) _) _ _ _); k_dflt (refine ListComp_oneT (by k_asm) (by rfl) (by decide) (by rfl) (by decide) (by rfl) ?_)))
theorem t_text_octets (news : List (Addr × Obj)) (x : Str) (t : Tok) (hx : x.length ≤ 1000) (hn : Named (KStt.codes x)) :
    Told1 w mean mg mb 75 1 40 news [.str x t] (Gives news fun t => .bytes (byteArr (KStt.codes x)) t) := by
  dsimp only [Told1, Gives, PR]
  k_fill
  intro dp un gd cn cs a ccd cl outer A₀ base h₀ L m s Q E B F X N T hk hd' hu hret
  refine wpAny_call ?_
  k_dflt cell_enter
  k_steps
  refine ⟨_, _, _, oneSrc_str rfl _ _ _, by k_asm, by k_asm, (by rw [sizeLine_eq]; exact Nat.le_trans hx (by omega)), fun g => rest_inv (fun i ys nw => nw = news ∧ IntsAre ys ((KStt.codes x).take i)) ?_ ?_ _ 0 [] _ (Nat.zero_add _) ⟨rfl, .nil⟩⟩
  · rintro i ys nw v I oI C oC D m₂ h' tk E' hi ⟨rfl, hI⟩ ⟨c, u, hc, rfl⟩ hC hx' F' N' off ne
    k_fold
    k_steps
    refine LCg.CompEnd.intro (by k_asm) N' nw (fun _ hp => hp) off trivial ⟨rfl, ?_⟩
    rw [List.take_add_one, KStt.code_at hc]
    exact hI.append (.cons _ _ .nil)
  · rintro ys nw ⟨rfl, hI⟩ D h' tk F' N' o1
    rw [show x.cps.size = (KStt.codes x).length from (KStt.codes_length x).symm, List.take_length] at hI
    have hbs : KBa.In (KStt.codes x) := fun n hm => by have := hn n hm; omega
    have hcl : (KStt.codes x).length ≤ 1000 := by rw [KStt.codes_length]; exact hx
    k_steps
    exact hret _ _ _ (by k_asm) (cb_drop (by k_asm) fun p hp => .tail _ hp)
end
end Mine
end OgM

section OgN
open PySem PySem.W PySem.Spec PySem.Calls PyProof.Rows
local macro_rules | `(tactic| walk_at "pad9") => `(tactic| skip)
local macro_rules | `(tactic| walk_at "pad9") => `(tactic| skip)
local macro_rules | `(tactic| walk_at "pad9") => `(tactic| skip)
local macro_rules | `(tactic| walk_at "pad9") => `(tactic| skip)
local macro_rules | `(tactic| walk_at "pad9") => `(tactic| skip)
local macro_rules | `(tactic| walk_at "pad9") => `(tactic| skip)
local macro_rules | `(tactic| walk_at "pad9") => `(tactic| skip)
local macro_rules | `(tactic| walk_at "pad9") => `(tactic| skip)
local macro_rules | `(tactic| walk_at "pad9") => `(tactic| skip)
local macro_rules | `(tactic| walk_at "pad9") => `(tactic| skip)
local macro_rules | `(tactic| walk_at "pad9") => `(tactic| skip)
local macro_rules | `(tactic| walk_at "pad9") => `(tactic| skip)
local macro_rules | `(tactic| walk_at "pad9") => `(tactic| skip)
local macro_rules | `(tactic| walk_at "pad9") => `(tactic| skip)
local macro_rules | `(tactic| walk_at "pad9") => `(tactic| skip)
local macro_rules | `(tactic| walk_at "pad9") => `(tactic| skip)
local macro_rules | `(tactic| walk_at "pad9") => `(tactic| skip)
local macro_rules | `(tactic| walk_at "pad9") => `(tactic| skip)
local macro_rules | `(tactic| walk_at "pad9") => `(tactic| skip)
local macro_rules | `(tactic| walk_at "pad9") => `(tactic| skip)
local macro_rules | `(tactic| walk_at "pad9") => `(tactic| skip)
local macro_rules | `(tactic| walk_at "pad9") => `(tactic| skip)
local macro_rules | `(tactic| walk_at "pad9") => `(tactic| skip)
local macro_rules | `(tactic| walk_at "pad9") => `(tactic| skip)
local macro_rules | `(tactic| walk_at "pad9") => `(tactic| skip)
namespace Mine
set_option maxRecDepth 100000
set_option maxHeartbeats 2000000
section
variable {w : World} {mean : ExcName → Option Value} {mg mb : Str → Option Value}
local macro_rules | `(tactic| walk_at "eval ListComp") => `(tactic| (k_here; (with_reducible show wpAny _ _ (eval (Expr.ListComp _ [Comprehension.mk _ _ [] _] _ _) _) _ _ _); k_dflt (refine ListComp_oneU (by k_asm) (by rfl) (by decide) (by rfl) (by decide) (by rfl) ?_)))
local macro_rules | `(tactic| walk_at "eval ListComp") => `(tactic| (k_here; (with_reducible show wpAny _ _ (eval (Expr.ListComp _ [Comprehension.mk _ _ [_] _] _ _) _) _ _ _); k_dflt (refine ListComp_oneT (by k_asm) (by rfl) (by decide) (by rfl) (by decide) (by rfl) ?_)))
theorem plain_found (c : Nat) : (Builtin.Str.occurrences (Str.ofString "#()<>[]{}/%") ⟨#[c]⟩ 0 (Str.ofString "#()<>[]{}/%").length 1).isEmpty = !([35, 40, 41, 60, 62, 91, 93, 123, 125, 47, 37].any fun x : Int => x == (c : Int)) := by
  have h := StrLaws.found_one (Str.ofString "#()<>[]{}/%") c
  have e : (Str.ofString "#()<>[]{}/%").cps.toList = [35, 40, 41, 60, 62, 91, 93, 123, 125, 47, 37] := by decide +kernel
  rw [e] at h
  have e2 : ([35, 40, 41, 60, 62, 91, 93, 123, 125, 47, 37].any fun x : Int => x == (c : Int)) = decide (c ∈ [35, 40, 41, 60, 62, 91, 93, 123, 125, 47, 37]) := by
    rw [Bool.eq_iff_iff]
    simp
    omega
  rw [e2, ← h, Bool.not_not]
theorem plain_step {x : Str} {i c : Nat} (hc : x.cps[i]? = some c) : (((KStt.codes x).take (i + 1)).filter plainSign).length = (((KStt.codes x).take i).filter plainSign).length + (if plainSign (c : Int) = true then 1 else 0) := by
  rw [List.take_add_one, KStt.code_at hc, List.filter_append, List.length_append]
  by_cases h : plainSign (c : Int) = true <;> simp [h]

theorem off1_mem {D : Addr} : ∀ {l : List (Addr × Obj)}, LCg.Off1 D l → ∀ p ∈ l, p.1 ≠ D
  | [], _, _, h => nomatch h
  | _ :: _, x, p, h => by
    rcases List.mem_cons.mp h with rfl | h
    · exact x.1
    · exact off1_mem x.2 p h
theorem plain_yes {c : Nat} (h1 : 33 ≤ (c : Int)) (h2 : (c : Int) ≤ 126) (h3 : (Builtin.Str.occurrences (Str.ofString "#()<>[]{}/%") ⟨#[c]⟩ 0 (Str.ofString "#()<>[]{}/%").length 1).isEmpty = true) : plainSign (c : Int) = true := by
  rw [plain_found] at h3
  unfold plainSign
  rw [h3, decide_eq_true h1, decide_eq_true h2]; rfl
theorem plain_no {c : Nat} (h : ¬ 33 ≤ (c : Int) ∨ ¬ (c : Int) ≤ 126 ∨ (Builtin.Str.occurrences (Str.ofString "#()<>[]{}/%") ⟨#[c]⟩ 0 (Str.ofString "#()<>[]{}/%").length 1).isEmpty = false) : ¬ plainSign (c : Int) = true := by
  rw [plain_found] at h
  unfold plainSign
  rcases h with h | h | h
  · rw [decide_eq_false h]; simp
  · rw [decide_eq_false h]; simp
  · rw [h]; simp

theorem t_plain_signs (news : List (Addr × Obj)) (x : Str) (t : Tok) (hx : x.length ≤ 1000) :
    Told1 w mean mg mb 142 1 40 news [.str x t] (fun h₀ L m s Q => ∀ D ys h' tk', ys.length = ((KStt.codes x).filter plainSign).length → Fr h₀ L h' m → News h₀ L h' ((D, LCg.lst ys) :: news) → (∀ p ∈ news, p.1 ≠ D) → Q (.ref D) { s with heap := h', toks := tk' }) := by
  dsimp only [Told1, Gives, PR]
  k_fill
  intro dp un gd cn cs a ccd cl outer A₀ base h₀ L m s Q E B F X N T hk hd' hu hret
  refine wpAny_call ?_
  k_dflt cell_enter
  k_steps
  refine ⟨_, _, _, oneSrc_str rfl _ _ _, by k_asm, by k_asm, (by rw [sizeLine_eq]; exact Nat.le_trans hx (by omega)), fun g => restT_inv (fun i ys nw => nw = news ∧ ys.length = (((KStt.codes x).take i).filter plainSign).length) ?_ ?_ _ 0 [] _ (Nat.zero_add _) ⟨rfl, rfl⟩⟩
  · rintro i ys nw v I oI C oC D m₂ h' tk E' hi ⟨rfl, hI⟩ ⟨c, u, hc, rfl⟩ hC hx' F' N' off ne
    k_fold
    k_steps
    · refine LCg.CompEnd.intro (by k_asm) N' nw (fun _ hp => hp) off trivial ⟨rfl, ?_⟩
      rw [plain_step hc, if_pos (plain_yes (by assumption) (by assumption) (by assumption)), List.length_append, hI]; rfl
    all_goals (
      refine LCg.CompEnd.intro (by k_asm) N' nw (fun _ hp => hp) off trivial ⟨rfl, ?_⟩
      rw [plain_step hc, if_neg (plain_no (by first | exact .inl (by assumption) | exact .inr (.inl (by assumption)) | exact .inr (.inr (by assumption)))), hI]; rfl)
  · rintro ys nw ⟨rfl, hI⟩ D h' tk F' N' o1
    rw [show x.cps.size = (KStt.codes x).length from (KStt.codes_length x).symm, List.take_length] at hI
    k_steps
    exact hret _ _ _ _ hI (by k_asm) (by k_asm) (off1_mem o1)
end
end Mine
end OgN

section OgD
open PySem PySem.W PySem.Spec PySem.Calls PyProof.Rows
namespace Mine
set_option maxRecDepth 100000
set_option maxHeartbeats 2000000
def SrcL1 (prog : Program) (w : World) (A : Around) (h₀ : Heap) (L : Addr) (m : Str → Option Value) (env : Env) (elt : Expr) (x : Str) (scope : Scope) (cl : List (Str × Addr)) (Fin : Shared → List Value → List (Addr × Obj) → Prop) (xv : Value) (s₁ : Shared) : Prop := LCg.CompSrc prog w A h₀ L m env elt x scope cl Fin xv s₁
theorem ListComp_src {prog : Program} {w : World} {A : Around} {E : Value → Shared → Prop} {s : Shared} {h₀ : Heap} {L : Addr} {m : Str → Option Value} {env : Env} {elt iter : Expr} {x : Str} {px : Pos} {scope : Scope} {cl : List (Str × Addr)} {pos : Pos} {Q : Value → Shared → Prop} (F₀ : Fr h₀ L s.heap m)
    (hclos : closureFor scope env = pure cl) (hcell : ∀ y ∈ scope.names, y.2 ≠ .cell) (hkind : scope.kind = .function)
    (hnames : ∀ y ∈ scope.names, y.2 = .local → scope.names.lookup y.1 = some .local) (hx : scope.names.lookup x = some .local)
    (h : wpAny (model prog w) A (eval iter env) (SrcL1 prog w A h₀ L m env elt x scope cl (fun s₂ => LCg.FinE h₀ L m s₂ Q)) E s)
    (hs : ∀ x, foldedSetIterable iter env x = pure x := by intro _; rfl) :
    wpAny (model prog w) A (eval (.ListComp elt [⟨.Name x px, iter, [], 0⟩] scope pos) env) Q E s := LCg.ListComp_U F₀ hclos hcell hkind hnames hx h hs
theorem allLt_mem {d : Nat} : ∀ {l : List (Addr × Obj)}, AllLt d l → ∀ p ∈ l, p.1 < d
  | [], _, _, h => nomatch h
  | _ :: _, x, p, h => by
    rcases List.mem_cons.mp h with rfl | h
    · exact x.1
    · exact allLt_mem x.2 p h
theorem off1_mem' {D : Addr} : ∀ {l : List (Addr × Obj)}, LCg.Off1 D l → ∀ p ∈ l, p.1 ≠ D
  | [], _, _, h => nomatch h
  | _ :: _, x, p, h => by
    rcases List.mem_cons.mp h with rfl | h
    · exact x.1
    · exact off1_mem' x.2 p h
section
variable {w : World} {mean : ExcName → Option Value} {mg mb : Str → Option Value}
local macro_rules | `(tactic| walk_at "eval ListComp") => `(tactic| (k_here; (with_reducible show wpAny _ _ (eval (Expr.ListComp _ [Comprehension.mk _ _ [] _] _ _) _) _ _ _); k_dflt (refine ListComp_src (by k_asm) (by rfl) (by decide) (by rfl) (by decide) (by rfl) ?_)))
theorem t_pen (l : Addr) (ns : List Int) (hl : ns.length ≤ 63) (vs : List Value) (hi : IntsAre vs ns) :
  ∀ (dp un : Nat) (gd : Option (List Code)) (cn : Str) (cs : Scope) (a : Addr) (ccd : Value) (cl : List (Str × Addr)) (outer : List Env) (A₀ : Around) (base h₀ : Heap) (L : Addr) (m : Str → Option Value) (news : List (Addr × Obj)) (s : Shared) (Q E : Value → Shared → Prop),
    Below A₀ base outer h₀ → Fr h₀ L s.heap m → (hd.heap_39 w.params).In h₀ → News h₀ L s.heap news → Top hd.view_39 LO mean mg mb h₀ → cs.kind = .function → base.IsList l vs.toArray →
    dp + 5 < recursionLimit → un + 400 < cLine → 
    (∀ p c, PenOff p c news → PenBack news p c h₀ L m s (Q (.ref p))) →
    wpAny (model PR w) (ktrTop dp un gd cn cs L a ccd cl outer) (PySem.call (.ref 109) [.ref l]) Q E s := by
  dsimp only [Told1, Gives, PR]
  k_fill
  intro dp un gd cn cs a ccd cl outer A₀ base h₀ L m news s Q E B F X N T hk hbl hd' hu hret
  refine wpAny_call ?_
  k_dflt cell_enter
  k_steps
  rename (List.take 40 ns).length = _ => hC
  rename IntsAre _ (List.take 40 ns) => hT
  have hTl := hT.length
  have hsz : ∀ ws : List Value, ws.length = (List.take 40 ns).length → ws.toArray.size ≤ sizeLine := fun ws e => by rw [List.size_toArray, e, hC, sizeLine_eq]; omega
  refine LCg.CompSrc.ledger rfl (by k_asm) (by k_asm) (List.mem_cons_self ..) (hsz _ hTl) fun g => rest_inv (fun i ys nw => nw = _ ∧ ys.length = i ∧ ∃ ks, IntsAre ys ks) ?_ ?_ _ 0 [] _ (Nat.zero_add _) ⟨rfl, rfl, [], .nil⟩
  · rintro i ys nw v I oI C oC D m₂ h' tk E' hi' ⟨rfl, hI, ks, hK⟩ hv hC hx' F' N' off ne
    have hv' := Array.mem_of_getElem? hv
    obtain ⟨n, u, rfl⟩ := hT.all v (by simpa using hv')
    k_unmd
    k_fold
    k_steps
    exact LCg.CompEnd.intro (by k_asm) N' _ (fun _ hp => hp) off (.inr ⟨_, .head _, rfl, _, rfl⟩) ⟨rfl, by rw [List.length_append, hI]; rfl, _, hK.append (.cons _ _ .nil)⟩
  · rintro ys nw ⟨rfl, hI, ks, hK⟩ D h' tk F' N' o1
    k_steps
    rename _ < _ ∧ _ < _ ∧ AllLt _ news => hlt
    refine hret _ _ ⟨Nat.ne_of_gt hlt.1, fun q hq => Nat.ne_of_lt (allLt_mem hlt.2.2 q hq), fun q hq => off1_mem' o1 q (.tail _ hq)⟩ ys ks 0 0 tk (tk + 1) 0 ys.length _ _ hK ?_ (by k_asm) (cb_drop (by k_asm) fun p hp => ?_)
    · rw [← hK.length, hI, List.size_toArray, hTl, hC]; omega
    · rcases List.mem_cons.mp hp with rfl | hp
      · exact .head _
      · rcases List.mem_cons.mp hp with rfl | hp
        · exact .tail _ (.head _)
        · exact .tail _ (.tail _ (.tail _ hp))
end
end Mine
end OgD

section OgP
open PySem PySem.W PySem.Spec PySem.Calls PyProof.Rows
local macro_rules | `(tactic| walk_at "pad9") => `(tactic| skip)
local macro_rules | `(tactic| walk_at "pad9") => `(tactic| skip)
local macro_rules | `(tactic| walk_at "pad9") => `(tactic| skip)
local macro_rules | `(tactic| walk_at "pad9") => `(tactic| skip)
local macro_rules | `(tactic| walk_at "pad9") => `(tactic| skip)
local macro_rules | `(tactic| walk_at "pad9") => `(tactic| skip)
local macro_rules | `(tactic| walk_at "pad9") => `(tactic| skip)
local macro_rules | `(tactic| walk_at "pad9") => `(tactic| skip)
local macro_rules | `(tactic| walk_at "pad9") => `(tactic| skip)
local macro_rules | `(tactic| walk_at "pad9") => `(tactic| skip)
local macro_rules | `(tactic| walk_at "pad9") => `(tactic| skip)
local macro_rules | `(tactic| walk_at "pad9") => `(tactic| skip)
local macro_rules | `(tactic| walk_at "pad9") => `(tactic| skip)
local macro_rules | `(tactic| walk_at "pad9") => `(tactic| skip)
local macro_rules | `(tactic| walk_at "pad9") => `(tactic| skip)
local macro_rules | `(tactic| walk_at "pad9") => `(tactic| skip)
local macro_rules | `(tactic| walk_at "pad9") => `(tactic| skip)
local macro_rules | `(tactic| walk_at "pad9") => `(tactic| skip)
local macro_rules | `(tactic| walk_at "pad9") => `(tactic| skip)
local macro_rules | `(tactic| walk_at "pad9") => `(tactic| skip)
local macro_rules | `(tactic| walk_at "pad9") => `(tactic| skip)
local macro_rules | `(tactic| walk_at "pad9") => `(tactic| skip)
local macro_rules | `(tactic| walk_at "pad9") => `(tactic| skip)
local macro_rules | `(tactic| walk_at "pad9") => `(tactic| skip)
local macro_rules | `(tactic| walk_at "pad9") => `(tactic| skip)
namespace Mine
set_option maxRecDepth 100000
set_option maxHeartbeats 2000000
theorem item_led {prog : Program} {w : World} {A : Around} {E : Value → Shared → Prop} {s : Shared} {h₀ : Heap} {L a : Addr} {value slice : Expr} {news : List (Addr × Obj)} {its : Array Value} {na : Nat} {d : Int} {u : Tok} {Q : Value → Shared → Prop} (N : News h₀ L s.heap news) (hm : (a, listOf its na) ∈ news) (h0 : 0 ≤ d) (h1 : d < (its.size : Int)) (hz : its.size ≤ 1000000)
    (h : ∀ v, v ∈ its → Q v s) (hs : subscripted slice false (.ref a) (.int d u) = operate [.ref a, .int d u] (getItem (.ref a) (.int d u)) := by with_unfolding_all rfl) :
    wpAny (model prog w) A (subscriptTail value slice (.ref a) (.int d u)) Q E s := by
  have hl : s.heap.IsList a its := ⟨_, (N _ hm).1, rfl, _, rfl⟩
  have hi : d.toNat < its.size := by omega
  exact tail_any hl.typeIs slot_list_getitem.lookup (wpAny_getItem_list hl h0 (by omega) (by rw [Array.getElem?_eq_getElem hi]) (h _ (Array.getElem_mem hi))) hs
section
variable {w : World} {mean : ExcName → Option Value} {mg mb : Str → Option Value}
local macro_rules | `(tactic| k_all) => `(tactic| with_reducible assumption)
local macro_rules | `(tactic| walk_at "call ref") => `(tactic| (k_here; (with_reducible show wpAny _ _ (PySem.call (Value.ref 116) [Value.ref _, Value.int _ _]) _ _ _); k_dflt (refine' t_draw0 _ _ _ ?ko _ _ ?ki ?kl _ _ _ _ _ _ _ _ ?m1 ?m2 _ _ _ _ _ _ _ _ _ _ _ _ _ _ _ _ _ ?k1 ?k2 ?k3 ?k4 ?k5 ?kK ?kd ?ku ?_; (case k4 => k_asm); (case ko => assumption); (case ki => assumption); (case kl => assumption); (case m1 => omega); (case m2 => omega); (case k1 => k_asm); (case k2 => k_asm); (case k3 => k_asm); (case k5 => k_asm); (case kK => first | exact rfl | assumption); (case kd => ktr_room); (case ku => ktr_units); k_whole); intro d9 t9 d9lo d9hi vs9 ns9 k9 v9 tk9 tv9 n9 m9 h9 tkk9 hi9 hl9 F9 N9; (try dsimp only); (try k_fold)))
local macro_rules | `(tactic| walk_at "subscriptTail") => `(tactic| (k_here; (with_reducible show wpAny _ _ (subscriptTail _ _ (Value.ref _) (Value.int _ _)) _ _ _); (with_unfolding_all refine' item_led ?k1 ?k2 ?k3 ?k4 ?k5 ?_ ?k6; (case k1 => assumption); (case k2 => k_mem); (case k3 => assumption); (case k4 => assumption); (case k5 => omega); (case k6 => with_unfolding_all rfl); k_whole); intro v9 hv9))
theorem t_pick0 (news : List (Addr × Obj)) (p c a : Addr) (its : Array Value) (na : Nat) (hz : its.size ≤ 1000) (hz0 : 1 ≤ its.size) (hoff : PenOff p c ((a, listOf its na) :: news)) (vs : List Value) (ns : List Int) (hi : IntsAre vs ns) (hl : ns.length ≤ 40) (k v : Int) (tk tv : Tok) (n n' : Nat) :
    Told1 w mean mg mb 123 4 300 (penLed p c vs k v tk tv n n' ((a, listOf its na) :: news)) [.ref p, .ref a]
      fun h₀ L m s Q => ∀ v, v ∈ its → PenBack ((a, listOf its na) :: news) p c h₀ L m s (Q v) := by
  dsimp only [Told1, Gives, PR]
  k_fill
  intro dp un gd cn cs a' ccd cl outer A₀ base h₀ L m s Q E B F X N T hk hd' hu hret
  have hN := N
  dsimp only [penLed] at N
  have hz' : (1 : Int) ≤ (its.size : Int) ∧ (its.size : Int) ≤ 1000 := by omega
  refine wpAny_call ?_
  k_dflt cell_enter
  k_steps
  exact hret _ (by assumption) _ _ _ _ _ _ _ _ _ _ (by assumption) (by assumption) (by k_asm) (by k_asm)
end
end Mine
end OgP

section OgQ
open PySem PySem.W PySem.Spec PySem.Calls PyProof.Rows
namespace Mine
set_option maxRecDepth 100000
set_option maxHeartbeats 2000000
theorem pen_swap {h₀ h : Heap} {L D p c : Addr} {o : Obj} {vs : List Value} {k v : Int} {tk tv : Tok} {n n' : Nat} {news : List (Addr × Obj)} (N : News h₀ L h ((D, o) :: penLed p c vs k v tk tv n n' news)) : News h₀ L h (penLed p c vs k v tk tv n n' ((D, o) :: news)) := fun q hq => by
  rcases List.mem_cons.mp hq with rfl | hq
  · exact N _ (.tail _ (.head _))
  · rcases List.mem_cons.mp hq with rfl | hq
    · exact N _ (.tail _ (.tail _ (.head _)))
    · rcases List.mem_cons.mp hq with rfl | hq
      · exact N _ (.head _)
      · exact N _ (.tail _ (.tail _ (.tail _ hq)))
theorem pen_less {h₀ h : Heap} {L p c : Addr} {x : Addr × Obj} {vs : List Value} {k v : Int} {tk tv : Tok} {n n' : Nat} {news : List (Addr × Obj)} (N : News h₀ L h (penLed p c vs k v tk tv n n' (x :: news))) : News h₀ L h (penLed p c vs k v tk tv n n' news) := fun q hq => by
  rcases List.mem_cons.mp hq with rfl | hq
  · exact N _ (.head _)
  · rcases List.mem_cons.mp hq with rfl | hq
    · exact N _ (.tail _ (.head _))
    · exact N _ (.tail _ (.tail _ (.tail _ hq)))
theorem penOff_cons {D p c : Addr} {o : Obj} {news : List (Addr × Obj)} (h : PenOff p c news) (h1 : p < D) (h2 : c < D) : PenOff p c ((D, o) :: news) :=
  ⟨h.1, fun q hq => (List.mem_cons.mp hq).elim (fun e => by rw [e]; exact Nat.ne_of_gt h1) (h.2.1 q), fun q hq => (List.mem_cons.mp hq).elim (fun e => by rw [e]; exact Nat.ne_of_gt h2) (h.2.2 q)⟩
theorem ints_menu {v : Value} {vs : List Value} {ns : List Int} (hi : IntsAre vs ns) (hb : ∀ n ∈ ns, 1 ≤ n ∧ n ≤ 255) (hv : v ∈ vs.toArray) : ∃ n t, v = .int n t ∧ 1 ≤ n ∧ n ≤ 255 := by
  obtain ⟨i, h⟩ := List.getElem?_of_mem (Array.mem_toList_iff.mpr hv)
  obtain ⟨n, t, e, hn⟩ := hi.at i v h
  exact ⟨n, t, e, hb n (List.mem_of_getElem? hn)⟩
theorem strs_menu {v : Value} {vs : List Value} (hb : ∀ v ∈ vs, ∃ (c : Nat) (t : Tok), v = .str ⟨#[c]⟩ t ∧ 1 ≤ c ∧ c ≤ 255) (hv : v ∈ vs.toArray) : ∃ (c : Nat) (t : Tok), v = .str ⟨#[c]⟩ t ∧ 1 ≤ c ∧ c ≤ 255 := hb v (by simpa using hv)
theorem one_sign (x : String) (c : Nat) (t : Tok) (e : Str.ofString x = ⟨#[c]⟩) (h : 1 ≤ c ∧ c ≤ 255) : ∃ (c : Nat) (u : Tok), Value.str (Str.ofString x) t = .str ⟨#[c]⟩ u ∧ 1 ≤ c ∧ c ≤ 255 := ⟨c, t, by rw [e], h⟩
section
variable {w : World} {mean : ExcName → Option Value} {mg mb : Str → Option Value}
local macro_rules | `(tactic| k_all) => `(tactic| with_reducible assumption)
local macro_rules | `(tactic| walk_at "call ref") => `(tactic| (k_here; (with_reducible show wpAny _ _ (PySem.call (Value.ref 116) [Value.ref _, Value.int _ _]) _ _ _); k_dflt (refine' t_draw0 _ _ _ ?ko _ _ ?ki ?kl _ _ _ _ _ _ _ _ ?m1 ?m2 _ _ _ _ _ _ _ _ _ _ _ _ _ _ _ _ _ ?k1 ?k2 ?k3 ?k4 ?k5 ?kK ?kd ?ku ?_; (case k4 => k_asm); (case ko => assumption); (case ki => assumption); (case kl => assumption); (case m1 => omega); (case m2 => omega); (case k1 => k_asm); (case k2 => k_asm); (case k3 => k_asm); (case k5 => k_asm); (case kK => first | exact rfl | assumption); (case kd => ktr_room); (case ku => ktr_units); k_whole); intro d9 t9 d9lo d9hi vs9 ns9 k9 v9 tk9 tv9 n9 m9 h9 tkk9 hi9 hl9 F9 N9; (try dsimp only); (try k_fold)))
local macro_rules | `(tactic| walk_at "call ref") => `(tactic| (k_here; (with_reducible show wpAny _ _ (PySem.call (Value.ref 123) [Value.ref _, Value.ref _]) _ _ _); k_dflt (refine' t_pick0 _ _ _ _ _ _ ?z1 ?z2 ?ko _ _ ?ki ?kl _ _ _ _ _ _ _ _ _ _ _ _ _ _ _ _ _ _ _ _ _ _ _ ?k1 ?k2 ?k3 ?k4 ?k5 ?kK ?kd ?ku ?_; (case k4 => exact pen_swap (by k_asm)); (case ko => (refine' penOff_cons ?o1 ?o2 ?o3; (case o1 => assumption); (case o2 => (refine ltN ?_; omega)); (case o3 => (refine ltN ?_; omega)))); (case ki => assumption); (case kl => assumption); (case z1 => exact Nat.le_of_ble_eq_true rfl); (case z2 => exact Nat.le_of_ble_eq_true rfl); (case k1 => k_asm); (case k2 => k_asm); (case k3 => k_asm); (case k5 => k_asm); (case kK => first | exact rfl | assumption); (case kd => ktr_room); (case ku => ktr_units); k_whole); intro v9 hv9 vs9 ns9 k9 v9' tk9 tv9 n9 m9 h9 tkk9 hi9 hl9 F9 N9; (try dsimp only); (try k_fold)))
theorem t_sign0 (news : List (Addr × Obj)) (p c : Addr) (hoff : PenOff p c news) (vs : List Value) (ns : List Int) (hi : IntsAre vs ns) (hl : ns.length ≤ 40) (k v : Int) (tk tv : Tok) (n n' : Nat) :
    Told1 w mean mg mb 130 7 400 (penLed p c vs k v tk tv n n' news) [.ref p]
      fun h₀ L m s Q => ∀ (x : Nat) t, 1 ≤ x → x ≤ 255 → PenBack news p c h₀ L m s (Q (.str ⟨#[x]⟩ t)) := by
  dsimp only [Told1, Gives, PR]
  k_fill
  intro dp un gd cn cs a' ccd cl outer A₀ base h₀ L m s Q E B F X N T hk hd' hu hret
  refine wpAny_call ?_
  k_dflt cell_enter
  k_steps
  · rename _ ∈ _ => hv
    obtain ⟨n, t, rfl, n0, n1⟩ := ints_menu (ns := [35, 47, 40, 32, 10, 126, 127, 33, 65, 49, 255, 37]) (by l_intsW) (by decide) hv
    clear hv
    k_steps
    exact hret _ _ (by omega) (by omega) _ _ _ _ _ _ _ _ _ _ (by assumption) (by assumption) (by k_asm) (pen_less (by k_asm))
  · exact hret _ _ (by omega) (by omega) _ _ _ _ _ _ _ _ _ _ (by assumption) (by assumption) (by k_asm) (by k_asm)
  · rename _ ∈ _ => hv
    obtain ⟨x, t, rfl, n0, n1⟩ := strs_menu (List.forall_mem_cons.mpr ⟨one_sign "#" 35 _ (by decide +kernel) (by decide), List.forall_mem_cons.mpr ⟨one_sign "A" 65 _ (by decide +kernel) (by decide), List.forall_mem_cons.mpr ⟨one_sign "4" 52 _ (by decide +kernel) (by decide),
      List.forall_mem_cons.mpr ⟨one_sign "/" 47 _ (by decide +kernel) (by decide), List.forall_mem_cons.mpr ⟨one_sign "z" 122 _ (by decide +kernel) (by decide), List.forall_mem_nil _⟩⟩⟩⟩⟩) hv
    exact hret _ _ n0 n1 _ _ _ _ _ _ _ _ _ _ (by assumption) (by assumption) (by k_asm) (pen_less (by k_asm))
end
end Mine
end OgQ

section OgI
open PySem PySem.W PySem.Spec PySem.Calls PyProof.Rows
namespace Mine
set_option maxRecDepth 100000
open Builtin
theorem bi_slot : Slot "bytes" "index" "bytes.index" :=
  .of (owner := "bytes") (n := "index") (by rw [typeLookup_type, builtinLookup_eq_fast]; kernel_rfl) (by decide +kernel) (by decide +kernel) (by decide +kernel)
    (by first | exact .inl (by decide +kernel) | exact .inr (by decide +kernel)) (by rw [isSubtype_type]; kernel_rfl)
theorem bi_type : typeOf (.builtin "bytes.index") = pure (.type "method_descriptor") := by show builtinType _ = _; rw [builtinType_eq_fast]; kernel_rfl
theorem bi_entry : entryFor table "bytes.index" = some Builtin.«bytes.index» := entryFor_of_tree (by kernel_rfl)
theorem bi_args (a b : Value) : argsOk "bytes.index" ⟨[a, b], []⟩ := by
  unfold argsOk; rw [signature?_of (id := "bytes.index") (n := ['x', 'e', 'd', 'n', 'i']) (o := ['s', 'e', 't', 'y', 'b']) (by kernel_rfl) FB.owner_bytes]; kernel_rfl
theorem int_look_buffer : typeLookup (.type "int") "__buffer__" = pure none := by rw [typeLookup_type, builtinLookup_eq_fast]; kernel_rfl
theorem int_look_index : ∃ v, typeLookup (.type "int") "__index__" = pure (some v) := ⟨_, F.slot_int_index.lookup⟩
theorem int_special {i : Int} {t : Tok} {name : PySem.Str} {r : Option Value} (h : typeLookup (.type "int") name = pure r) : specialOf (.int i t) name = pure r := by
  have e : specialOf (.int i t) name = typeLookup (.type "int") name := rfl
  rw [e, h]
theorem int_buffer {i : Int} {t : Tok} {id : String} : Bytes.buffer? id (.int i t) = pure none := by
  unfold Bytes.buffer?
  rw [int_special int_look_buffer]
  rfl
theorem bi_search (b : Array UInt8) (t u : Tok) (i : Int) (h0 : 0 ≤ i) (h1 : i < 256) :
    Bytes.searchArgs .bytes "index" ⟨[.bytes b t, .int i u], []⟩ = pure (b, #[i.toNat.toUInt8], if (Bytes.window b.size none none).2 - (Bytes.window b.size none none).1 < 1 then none else some ((Bytes.window b.size none none).1.toNat, (Bytes.window b.size none none).2.toNat)) := by
  obtain ⟨v, hv⟩ := int_look_index
  unfold Bytes.searchArgs
  have e1 : ∀ id name, selfAndSome id name 1 3 ⟨[.bytes b t, .int i u], []⟩ = pure (Value.bytes b t, [Value.int i u]) := fun _ _ => rfl
  have e2 : Bytes.bound? none = pure none := rfl
  have e3 : Bytes.indexHeld [Value.bytes b t] (.int i u) = pure i := rfl
  have e4 : Bytes.payload (.bytes b t) = pure b := rfl
  have c : (decide (i < 0) || decide (i ≥ 256)) = false := by simp; omega
  simp only [e1, pure_bind, List.headD, int_buffer, int_special hv, Option.isNone_some, e3, c, e4]
  rfl
theorem hex_find : ∀ j : Fin 16, Bytes.find? #[48, 49, 50, 51, 52, 53, 54, 55, 56, 57, 65, 66, 67, 68, 69, 70] #[(hexFig j).toNat.toUInt8] 0 16 = some j.val := by decide +kernel
theorem gives_index (t u : Tok) (k : Int) (h0 : 0 ≤ k) (h1 : k < 16) : PySem.Gives («bytes.index» ⟨[.bytes #[48, 49, 50, 51, 52, 53, 54, 55, 56, 57, 65, 66, 67, 68, 69, 70] t, .int (hexFig k) u], []⟩) (.int k) := by
  have q := hexFig_in h0 h1
  refine .of_wp fun M A E s Q hq => ?_
  show wpAny M A (Bytes.searchArgs .bytes "index" _ >>= fun r => _) _ E s
  refine wpAny_bind (wpAny_of_eq (bi_search _ _ _ _ (by omega) (by omega)) ?_)
  obtain ⟨j, rfl⟩ : ∃ j : Nat, k = j := ⟨k.toNat, by omega⟩
  have hf := hex_find ⟨j, by omega⟩
  dsimp only at hf
  dsimp only
  have ew : (Bytes.window (#[48, 49, 50, 51, 52, 53, 54, 55, 56, 57, 65, 66, 67, 68, 69, 70] : Array UInt8).size none none) = (0, 16) := rfl
  rw [ew]
  have ei : (if (16 : Int) - 0 < 1 then none else some ((0 : Int).toNat, (16 : Int).toNat)) = some (0, 16) := rfl
  rw [ei]
  dsimp only [Option.bind]
  simp only [Bool.false_eq_true, if_false]
  rw [hf]
  exact wpAny_bind (wpAny_mkInt (wpAny_pure ⟨_, rfl, hq⟩))
section
variable {prog : Program} {w : World} {A : Around} {E : Value → Shared → Prop} {s : Shared}
theorem wp_index {t u : Tok} {k : Int} {Q : Value → Shared → Prop} (h0 : 0 ≤ k) (h1 : k < 16) (h : Q (.int k s.toks) { s with toks := s.toks + 1 }) :
    wpAny (model prog w) A (call (.builtin "bytes.index") [.bytes #[48, 49, 50, 51, 52, 53, 54, 55, 56, 57, 65, 66, 67, 68, 69, 70] t, .int (hexFig k) u]) Q E s :=
  call_gives bi_slot (typeIs_bytes _ _ _) bi_entry (bi_args _ _) (gives_index t u k h0 h1) h
theorem index_method {M : Model} {b : Array UInt8} {t : Tok} {pl : Sem Bool} {Q : Value × List Value → Shared → Prop} (h : Q (.builtin "bytes.index", [.bytes b t]) s) : wpAny M A (getMethod (.bytes b t) (Str.ofString "index") pl) Q E s := by
  with_reducible exact KBd.method_of (.bytes b t) (typeIs_bytes _ _ _) bi_slot bi_type KBd.noRef h
end
end Mine
end OgI

section OgR
open PySem PySem.W PySem.Spec PySem.Calls PyProof.Rows
local macro_rules | `(tactic| walk_at "pad9") => `(tactic| skip)
local macro_rules | `(tactic| walk_at "pad9") => `(tactic| skip)
local macro_rules | `(tactic| walk_at "pad9") => `(tactic| skip)
local macro_rules | `(tactic| walk_at "pad9") => `(tactic| skip)
local macro_rules | `(tactic| walk_at "pad9") => `(tactic| skip)
local macro_rules | `(tactic| walk_at "pad9") => `(tactic| skip)
local macro_rules | `(tactic| walk_at "pad9") => `(tactic| skip)
local macro_rules | `(tactic| walk_at "pad9") => `(tactic| skip)
local macro_rules | `(tactic| walk_at "pad9") => `(tactic| skip)
local macro_rules | `(tactic| walk_at "pad9") => `(tactic| skip)
local macro_rules | `(tactic| walk_at "pad9") => `(tactic| skip)
local macro_rules | `(tactic| walk_at "pad9") => `(tactic| skip)
local macro_rules | `(tactic| walk_at "pad9") => `(tactic| skip)
local macro_rules | `(tactic| walk_at "pad9") => `(tactic| skip)
local macro_rules | `(tactic| walk_at "pad9") => `(tactic| skip)
local macro_rules | `(tactic| walk_at "pad9") => `(tactic| skip)
local macro_rules | `(tactic| walk_at "pad9") => `(tactic| skip)
local macro_rules | `(tactic| walk_at "pad9") => `(tactic| skip)
local macro_rules | `(tactic| walk_at "pad9") => `(tactic| skip)
local macro_rules | `(tactic| walk_at "pad9") => `(tactic| skip)
local macro_rules | `(tactic| walk_at "pad9") => `(tactic| skip)
local macro_rules | `(tactic| walk_at "pad9") => `(tactic| skip)
local macro_rules | `(tactic| walk_at "pad9") => `(tactic| skip)
local macro_rules | `(tactic| walk_at "pad9") => `(tactic| skip)
local macro_rules | `(tactic| walk_at "pad9") => `(tactic| skip)
namespace Mine
set_option maxRecDepth 100000
set_option maxHeartbeats 2000000
section
variable {w : World} {mean : ExcName → Option Value} {mg mb : Str → Option Value}
local macro_rules | `(tactic| walk_at "KswEnd") => `(tactic| refine StopHere.out ?_)
local macro_rules | `(tactic| walk_at "exec While") => `(tactic| refine StopHere.out ?_)
local macro_rules | `(tactic| walk_at "exec While Compare") => `(tactic| refine StopHere.out ?_)
theorem wp_index' {prog : Program} {A : Around} {E : Value → Shared → Prop} {s : Shared} {t u : Tok} {x k : Int} {Q : Value → Shared → Prop} (hx : x = hexFig k) (h0 : 0 ≤ k ∧ k < 16) (h : Q (.int k s.toks) { s with toks := s.toks + 1 }) :
    wpAny (model prog w) A (PySem.call (.builtin "bytes.index") [.bytes #[48, 49, 50, 51, 52, 53, 54, 55, 56, 57, 65, 66, 67, 68, 69, 70] t, .int x u]) Q E s := hx ▸ wp_index h0.1 h0.2 h
local macro_rules | `(tactic| walk_at "getMethod bytes") => `(tactic| (k_here; (with_reducible refine index_method ?_)))
local macro_rules | `(tactic| walk_at "call builtin:bytes.index") => `(tactic| (k_here; (with_reducible show wpAny _ _ (PySem.call (Value.builtin _) [Value.bytes _ _, Value.int _ _]) _ _ _); (refine' wp_index' ?k1 ?k2 ?_; (case k1 => assumption); (case k2 => omega))))
/-- the written while loop: its key is kept for the hand -/
theorem t_law_read (news : List (Addr × Obj)) (cs₀ : List Int) (hn : Named cs₀) (hl : cs₀.length ≤ 1000) (b : Array UInt8) (t : Tok) (hb : KBw.bInts b = 47 :: nameBody cs₀) :
    Told1 w mean mg mb 137 2 100 news [.bytes b t] (Gives news fun t => .str (KStt.txt cs₀) t) := by
  dsimp only [Told1, Gives, PR]
  k_fill
  intro dp un gd cn cs a ccd cl outer A₀ base h₀ L m s Q E B F X N T hk hd' hu hret
  refine wpAny_call ?_
  k_dflt cell_enter
  obtain ⟨ks, hks⟩ : ∃ ks, ks = [47] ++ nameBody cs₀ := ⟨_, rfl⟩
  replace hb : KBw.bInts b = ks := hb.trans hks.symm
  have hkl : ks.length ≤ 3001 := by rw [hks, List.length_append]; have := nameBody_len cs₀; simp; omega
  k_steps
  unfold StopHere
  rename Fr _ _ _ _ => kF
  rename News _ _ _ _ => kN
  refine' ksw_while (σ := Str × Tok × Int × Tok × Nat) (fun _ => news) (fun c => [(Str.ofString "found", .str c.1 c.2.1), (Str.ofString "at", .int c.2.2.1 c.2.2.2.1)]) (fun _ => True) []
    (fun c => c.1 = KStt.txt (cs₀.take c.2.2.2.2) ∧ c.2.2.1 = (1 + (nameBody (cs₀.take c.2.2.2.2)).length : Nat) ∧ c.2.2.2.2 ≤ cs₀.length) (fun c => cs₀.length - c.2.2.2.2) (Str.ofString "", _, 1, _, 0)
    kF ?hN ?hf ?hk ?hp ?turn (hE := ?hE)
  case hN => exact cb_drop kN fun p hp => .tail _ hp
  case hf => trivial
  case hk =>
    refine List.forall_mem_cons.mpr ⟨?_, List.forall_mem_cons.mpr ⟨?_, List.forall_mem_nil _⟩⟩
    · dsimp only; with_unfolding_all rfl
    · dsimp only; with_unfolding_all rfl
  case hp => exact ⟨by rfl, by rfl, Nat.zero_le _⟩
  case hE => exact PySem.PassesOwn.leaving
  clear kF kN
  rintro ⟨found, t1, at', t2, i⟩ u h' tk _ ⟨hf, ha, hi⟩ F₁ N₁
  dsimp only at hf ha hi
  k_fold
  by_cases hlt : i < cs₀.length
  · have hc : cs₀[i]? = some cs₀[i] := List.getElem?_eq_getElem hlt
    obtain ⟨n, hn'⟩ : ∃ n, n = cs₀[i] := ⟨_, rfl⟩
    rw [← hn'] at hc
    have hnn := hn n (List.mem_of_getElem? hc)
    obtain ⟨r1, r2⟩ := read_at hc hks (p := 1 + (nameBody (cs₀.take i)).length) rfl
    obtain ⟨p, hp⟩ : ∃ p, p = 1 + (nameBody (cs₀.take i)).length := ⟨_, rfl⟩
    rw [← hp] at r1 r2 ha
    subst ha
    by_cases hs : n < 33 ∨ 126 < n ∨ n = 35 ∨ isRegular n = false
    · rw [nameSign_escaped hs] at r1 r2
      have q0 : ks.getD ((p : Int)).toNat 0 = 35 := r2 0 (Nat.zero_lt_succ _)
      have q1 : ks.getD ((p : Int) + 1).toNat 0 = hexFig (n / 16) := r2 1 (by simp)
      have q2 : ks.getD ((p : Int) + 2).toNat 0 = hexFig (n % 16) := r2 2 (by simp)
      have r1' : (p : Int) + 3 ≤ (ks.length : Int) := by simp only [List.length_cons, List.length_nil] at r1; omega
      dsimp only at F₁ N₁
      have hfl : found.length ≤ 1000 := by rw [hf, KStt.txt_length, List.length_take]; omega
      have hsg := nameSign_escaped hs
      clear hs r2
      k_unmd
      k_steps
      all_goals first | exact absurd q0 (by assumption) | skip
      unfold StopHere
      refine' ksw_end (_, _, _, _, i + 1) (by k_asm) (by k_asm) ?hn trivial ?hk ?hr ?hp ?hm
      case hk =>
        refine List.forall_mem_cons.mpr ⟨?_, List.forall_mem_cons.mpr ⟨?_, List.forall_mem_nil _⟩⟩
        · dsimp only; with_unfolding_all rfl
        · dsimp only; with_unfolding_all rfl
      case hn => exact fun p hp => hp
      case hr =>
        intro z h1 h2
        have ha := h1 _ (.head _)
        have hb := h1 _ (.tail _ (.head _))
        dsimp only at ha hb ⊢
        simp only [if_neg ha, if_neg hb, kstB]
        exact if_neg (by simp)
      case hp =>
        dsimp only
        rw [nameBody_take hc, hsg, List.length_append, List.take_add_one, hc, hf]
        refine ⟨?_, by simp; omega, by omega⟩
        have e : (16 * (n / 16) + n % 16) = n := by omega
        rw [e]
        obtain ⟨k, rfl⟩ : ∃ k : Nat, n = k := ⟨n.toNat, by omega⟩
        exact (KStt.txt_snoc _ _).symm
      case hm => dsimp only; omega
    · rw [nameSign_plain hs] at r1 r2
      have q0 : ks.getD ((p : Int)).toNat 0 = n := r2 0 (Nat.zero_lt_succ _)
      have q1 : n ≠ 35 := fun e => hs (.inr (.inr (.inl e)))
      have r1' : (p : Int) + 1 ≤ (ks.length : Int) := by simp only [List.length_cons, List.length_nil] at r1; omega
      dsimp only at F₁ N₁
      have hfl : found.length ≤ 1000 := by rw [hf, KStt.txt_length, List.length_take]; omega
      have hsg := nameSign_plain hs
      clear hs r2
      k_unmd
      k_steps
      all_goals first | exact absurd (by assumption) (q0 ▸ q1) | skip
      unfold StopHere
      refine' ksw_end (_, _, _, _, i + 1) (by k_asm) (by k_asm) ?hn trivial ?hk ?hr ?hp ?hm
      case hk =>
        refine List.forall_mem_cons.mpr ⟨?_, List.forall_mem_cons.mpr ⟨?_, List.forall_mem_nil _⟩⟩
        · dsimp only; with_unfolding_all rfl
        · dsimp only; with_unfolding_all rfl
      case hn => exact fun p hp => hp
      case hr =>
        intro z h1 h2
        have ha := h1 _ (.head _)
        have hb := h1 _ (.tail _ (.head _))
        dsimp only at ha hb ⊢
        simp only [if_neg ha, if_neg hb, kstB]
        exact if_neg (by simp)
      case hp =>
        dsimp only
        rw [nameBody_take hc, hsg, List.length_append, List.take_add_one, hc, hf]
        refine ⟨?_, by simp; omega, by omega⟩
        rw [q0]
        obtain ⟨k, rfl⟩ : ∃ k : Nat, n = k := ⟨n.toNat, by omega⟩
        exact (KStt.txt_snoc _ _).symm
      case hm => dsimp only; omega
  · have ei : i = cs₀.length := by omega
    subst ei
    rw [List.take_length] at hf ha
    have r1 : at' = (ks.length : Int) := by rw [ha, hks]; simp; omega
    subst ha
    dsimp only at F₁ N₁
    k_unmd
    k_steps
    subst hf
    exact hret _ _ _ (by k_asm) (by k_asm)
end
end Mine
end OgR

section OgJ
open PySem PySem.W PySem.Spec PySem.Calls PyProof.Rows
namespace Mine
set_option maxRecDepth 100000
/-- a list's items are texts of one sign each -/
def SignsAre (vs : List Value) (cs : List Int) : Prop := CarriedAll vs (cs.map fun c => PyData.str ⟨#[c.toNat]⟩)
theorem SignsAre.nil : SignsAre [] [] := CarriedAll.nil
theorem CarriedAll.snoc {vs : List Value} {ds : List PyData} {v : Value} {d : PyData} (h : CarriedAll vs ds) (hv : Carried v d) : CarriedAll (vs ++ [v]) (ds ++ [d]) := by
  induction h with
  | nil => exact .cons hv .nil
  | cons a _ ih => exact .cons a ih
theorem SignsAre.snoc {vs : List Value} {cs : List Int} (h : SignsAre vs cs) (c : Int) (t : Tok) : SignsAre (vs ++ [.str ⟨#[c.toNat]⟩ t]) (cs ++ [c]) := by
  unfold SignsAre
  rw [List.map_append]
  exact CarriedAll.snoc h (.str _ t)
theorem SignsAre.length {vs : List Value} {cs : List Int} (h : SignsAre vs cs) : vs.length = cs.length := by
  have := CarriedAll.length_eq h
  rwa [List.length_map] at this
theorem join_signs : ∀ cs : List Int, PySem.Txt.join (PySem.Str.ofString "") (cs.map fun c => (⟨#[c.toNat]⟩ : PySem.Str)) = KStt.txt cs := by
  intro cs
  show Builtin.Str.glued (PySem.Str.ofString "") _ = _
  have key : ∀ (l : List Int) (acc : Array Nat), (l.map fun c => (⟨#[c.toNat]⟩ : PySem.Str)).foldl (fun acc p => acc ++ (PySem.Str.ofString "").cps ++ p.cps) acc = acc ++ (l.map Int.toNat).toArray := by
    intro l
    induction l with
    | nil => intro acc; simp
    | cons a r ih =>
      intro acc
      rw [List.map_cons, List.foldl_cons, ih, List.map_cons]
      have z : (PySem.Str.ofString "").cps = #[] := rfl
      rw [z]
      simp
  cases cs with
  | nil => rfl
  | cons a r =>
    unfold Builtin.Str.glued KStt.txt
    rw [List.map_cons, List.drop_one, List.tail_cons, List.headD_cons, key]
    simp
section
variable {prog : Program} {w : World} {A : Around} {E : Value → Shared → Prop} {s : Shared}
theorem join_signsW {D : Addr} {vs : List Value} {cs : List Int} {t : Tok} {Q : Value → Shared → Prop} (hl : s.heap.IsList D vs.toArray) (hc : SignsAre vs cs) (hn : cs.length ≤ 1000) (h : ∀ t' k, Q (.str (KStt.txt cs) t') { s with toks := k }) :
    wpAny (model prog w) A (call (.builtin "str.join") [.str (PySem.Str.ofString "") t, .ref D]) Q E s :=
  KT.join_1 (l := cs) (g := fun c => ⟨#[c.toNat]⟩) hl hc (fun _ _ => rfl) (by omega) fun t' k _ => by rw [join_signs]; exact h t' k
end
theorem hexWorth_fig {k : Int} (h0 : 0 ≤ k) (h1 : k < 16) : hexWorth (hexFig k) = k := by unfold hexFig hexWorth; split <;> (repeat' split) <;> omega
theorem nameSign_length (n : Int) : (nameSign n).length = 1 ∨ (nameSign n).length = 3 := by unfold nameSign; split <;> simp
end Mine
end OgJ

section OgT
open PySem PySem.W PySem.Spec PySem.Calls PyProof.Rows
namespace Mine
set_option maxRecDepth 100000
set_option maxHeartbeats 2000000
theorem news_rest {h₀ h : Heap} {L : Addr} {p : Addr × Obj} {news : List (Addr × Obj)} (N : News h₀ L h (p :: news)) : News h₀ L h news := fun q hq => N q (.tail _ hq)
section
variable {w : World} {mean : ExcName → Option Value} {mg mb : Str → Option Value}
abbrev addrOf {news : List (Addr × Obj)} {D : Addr} (_ : ∀ p ∈ news, p.1 < D) : Addr := D
local macro_rules | `(tactic| walk_at "KswEnd") => `(tactic| refine StopHere.out ?_)
local macro_rules | `(tactic| walk_at "exec While") => `(tactic| refine StopHere.out ?_)
local macro_rules | `(tactic| walk_at "exec While Compare") => `(tactic| refine StopHere.out ?_)
local macro_rules | `(tactic| k_all) => `(tactic| with_reducible assumption)
local macro_rules | `(tactic| walk_at "call builtin:str.join") => `(tactic| (k_here; (with_reducible show wpAny _ _ (PySem.call (Value.builtin "str.join") [Value.str _ _, Value.ref _]) _ _ _); k_dflt (refine' join_signsW ?k1 ?k2 ?k3 ?_; (case k1 => is_list); (case k2 => with_reducible assumption); (case k3 => omega); k_whole); intro _ _))
local macro_rules | `(tactic| walk_at "call ref") => `(tactic| (k_here; (with_reducible show wpAny _ _ (PySem.call (Value.ref _) [Value.int _ _]) _ _ _); k_dflt (refine' t_hex_worth _ _ _ _ _ _ _ _ _ _ _ _ _ _ _ _ _ _ _ _ ?k1 ?k2 ?k3 ?k4 ?k5 ?kK ?kd ?ku ?_; (case k4 => k_asm); (case k1 => k_asm); (case k2 => k_asm); (case k3 => k_asm); (case k5 => k_asm); (case kK => first | exact rfl | assumption); (case kd => ktr_room); (case ku => ktr_units); k_whole); intro t9 h9 tk9 F9 N9; (try dsimp only); (try k_fold)))
theorem t_name_text (news : List (Addr × Obj)) (cs₀ : List Int) (hn : Named cs₀) (hl : cs₀.length ≤ 1000) (b : Array UInt8) (t : Tok) (hb : KBw.bInts b = nameBody cs₀) :
    Told1 w mean mg mb 104 3 200 news [.bytes b t] (Gives news fun t => .str (KStt.txt cs₀) t) := by
  dsimp only [Told1, Gives, PR]
  k_fill
  intro dp un gd cn cs a ccd cl outer A₀ base h₀ L m s Q E B F X N T hk hd' hu hret
  obtain ⟨ks, hks⟩ : ∃ ks, ks = [] ++ nameBody cs₀ := ⟨_, rfl⟩
  replace hb : KBw.bInts b = ks := hb.trans hks.symm
  have hkl : ks.length ≤ 3001 := by rw [hks, List.length_append]; have := nameBody_len cs₀; simp; omega
  refine wpAny_call ?_
  k_dflt (refine' code_def ?k1 ?k2 ?k3 ?k4 ?k5 ?kA ?kF ?kK ?k6 ?k7 ?k8 ?k9 ?kB ?_ ?c2 ?c3 ?c4 ?c5; (case kA => exact rfl); (case kF => exact rfl); (case kK => assumption); (case k1 => k_asm); (case k2 => k_asm); (case k3 => k_asm); (case k4 => k_asm); (case k5 => k_asm); (case k6 => k_is); (case k7 => k_is); (case k8 => ktr_room); (case k9 => first | exact BindsTo.of_eq rfl | exact binds_K (by k_in) rfl (by k_is) rfl rfl rfl); (case c5 => decide); (case kB => exact locs rfl); (case c2 => exact rfl); (case c3 => exact rfl); (case c4 => exact rfl); k_whole; intro g' L' h' FG' F' N' B' X' T'; (try dsimp only); (try k_lift B'); (try k_fold))
  k_steps
  unfold StopHere
  rename Fr _ _ _ _ => kF
  rename News _ _ _ _ => kN
  rename ∀ (p : Addr × Obj), p ∈ news → p.1 < _ => l1
  refine' ksw_while (σ := List Value × Nat × Int × Tok × Nat) (fun c => (addrOf l1, listOf (List.toArray c.1) c.2.1) :: news) (fun c => [(Str.ofString "place", .int c.2.2.1 c.2.2.2.1)]) (fun _ => True) [Str.ofString "code", Str.ofString "high", Str.ofString "low"]
    (fun c => SignsAre c.1 (cs₀.take c.2.2.2.2) ∧ c.2.2.1 = ((nameBody (cs₀.take c.2.2.2.2)).length : Nat) ∧ c.2.2.2.2 ≤ cs₀.length) (fun c => cs₀.length - c.2.2.2.2) ([], _, 0, _, 0)
    kF ?hN ?hf ?hk ?hp ?turn (hE := ?hE)
  case hN => exact kN
  case hf => trivial
  case hk =>
    refine List.forall_mem_cons.mpr ⟨?_, List.forall_mem_nil _⟩
    dsimp only; with_unfolding_all rfl
  case hp => exact ⟨SignsAre.nil, by rfl, Nat.zero_le _⟩
  case hE => exact PySem.PassesOwn.leaving
  clear kF kN
  rintro ⟨vs, vn, at', t2, i⟩ u h' tk _ ⟨hf, ha, hi⟩ F₁ N₁
  dsimp only [addrOf] at hf ha hi F₁ N₁
  k_fold
  have hvl : vs.length ≤ 1000 := by rw [hf.length, List.length_take]; omega
  have hvl' : vs.toArray.size ≤ 1000 := by simpa using hvl
  by_cases hlt : i < cs₀.length
  · have hc : cs₀[i]? = some cs₀[i] := List.getElem?_eq_getElem hlt
    obtain ⟨n, hn'⟩ : ∃ n, n = cs₀[i] := ⟨_, rfl⟩
    rw [← hn'] at hc
    have hnn := hn n (List.mem_of_getElem? hc)
    obtain ⟨r1, r2⟩ := read_at hc hks (p := (nameBody (cs₀.take i)).length) (by simp)
    obtain ⟨p, hp⟩ : ∃ p, p = (nameBody (cs₀.take i)).length := ⟨_, rfl⟩
    rw [← hp] at r1 r2 ha
    subst ha
    by_cases hs : n < 33 ∨ 126 < n ∨ n = 35 ∨ isRegular n = false
    · rw [nameSign_escaped hs] at r1 r2
      have q0 : ks.getD ((p : Int)).toNat 0 = 35 := r2 0 (Nat.zero_lt_succ _)
      have q1 : hexWorth (ks.getD ((p : Int) + 1).toNat 0) = n / 16 := by rw [show ks.getD ((p : Int) + 1).toNat 0 = _ from r2 1 (by simp)]; exact hexWorth_fig (by omega) (by omega)
      have q2 : hexWorth (ks.getD ((p : Int) + 1 + 1).toNat 0) = n % 16 := by rw [show ks.getD ((p : Int) + 1 + 1).toNat 0 = _ from r2 2 (by simp)]; exact hexWorth_fig (by omega) (by omega)
      have r1' : (p : Int) + 3 ≤ (ks.length : Int) := by simp only [List.length_cons, List.length_nil] at r1; omega
      have hsg := nameSign_escaped hs
      clear hs r2
      k_unmd
      k_steps
      all_goals first | (exfalso; omega) | skip
      unfold StopHere
      rename News _ _ _ _ => kN
      simp only [List.push_toArray] at kN
      refine ksw_end (vs ++ [_], vn + 1, ?pl, ?pt, i + 1) (by k_asm) kN (fun p hp => hp) trivial ?hk ?hr ?hp ?hm
      case hk =>
        refine List.forall_mem_cons.mpr ⟨?_, List.forall_mem_nil _⟩
        dsimp only; with_unfolding_all rfl
      case hr =>
        intro z h1 h2
        have ha := h1 _ (.head _)
        simp only [List.contains_cons, List.contains_nil, Bool.or_false, Bool.or_eq_false_iff, beq_eq_false_iff_ne, ne_eq] at h2
        dsimp only at ha ⊢
        simp only [if_neg ha, if_neg h2.1, if_neg h2.2.1, if_neg h2.2.2, kstB]
        exact if_neg (by simp [h2])
      case hp =>
        dsimp only
        rw [nameBody_take hc, hsg, List.length_append, List.take_add_one, hc]
        refine ⟨?_, by simp; omega, by omega⟩
        have e : 16 * hexWorth (ks.getD ((p : Int) + 1).toNat 0) + hexWorth (ks.getD ((p : Int) + 1 + 1).toNat 0) = n := by omega
        rw [e]
        exact SignsAre.snoc hf _ _
      case hm => dsimp only; omega
    · rw [nameSign_plain hs] at r1 r2
      have q0 : ks.getD ((p : Int)).toNat 0 = n := r2 0 (Nat.zero_lt_succ _)
      have q1 : n ≠ 35 := fun e => hs (.inr (.inr (.inl e)))
      have r1' : (p : Int) + 1 ≤ (ks.length : Int) := by simp only [List.length_cons, List.length_nil] at r1; omega
      have hsg := nameSign_plain hs
      clear hs r2
      k_unmd
      k_steps
      all_goals first | (exfalso; omega) | skip
      unfold StopHere
      rename News _ _ _ _ => kN
      simp only [List.push_toArray] at kN
      refine ksw_end (vs ++ [_], vn + 1, ?pl2, ?pt2, i + 1) (by k_asm) kN (fun p hp => hp) trivial ?hk ?hr ?hp ?hm
      case hk =>
        refine List.forall_mem_cons.mpr ⟨?_, List.forall_mem_nil _⟩
        dsimp only; with_unfolding_all rfl
      case hr =>
        intro z h1 h2
        have ha := h1 _ (.head _)
        simp only [List.contains_cons, List.contains_nil, Bool.or_false, Bool.or_eq_false_iff, beq_eq_false_iff_ne, ne_eq] at h2
        dsimp only at ha ⊢
        simp only [if_neg ha, if_neg h2.1, if_neg h2.2.1, if_neg h2.2.2, kstB]
        exact if_neg (by simp [h2])
      case hp =>
        dsimp only
        rw [nameBody_take hc, hsg, List.length_append, List.take_add_one, hc]
        refine ⟨?_, by simp; omega, by omega⟩
        rw [q0]
        exact SignsAre.snoc hf _ _
      case hm => dsimp only; omega
  · have ei : i = cs₀.length := by omega
    subst ei
    rw [List.take_length] at hf ha
    have r1 : at' = (ks.length : Int) := by rw [ha, hks]; simp
    subst ha
    k_unmd
    k_steps
    exact hret _ _ _ (by k_asm) (news_rest (by k_asm))
end
end Mine
end OgT

section OgU
open PySem PySem.W PySem.Spec PySem.Calls PyProof.Rows
local macro_rules | `(tactic| walk_at "pad9") => `(tactic| skip)
local macro_rules | `(tactic| walk_at "pad9") => `(tactic| skip)
local macro_rules | `(tactic| walk_at "pad9") => `(tactic| skip)
local macro_rules | `(tactic| walk_at "pad9") => `(tactic| skip)
local macro_rules | `(tactic| walk_at "pad9") => `(tactic| skip)
local macro_rules | `(tactic| walk_at "pad9") => `(tactic| skip)
local macro_rules | `(tactic| walk_at "pad9") => `(tactic| skip)
local macro_rules | `(tactic| walk_at "pad9") => `(tactic| skip)
local macro_rules | `(tactic| walk_at "pad9") => `(tactic| skip)
local macro_rules | `(tactic| walk_at "pad9") => `(tactic| skip)
local macro_rules | `(tactic| walk_at "pad9") => `(tactic| skip)
local macro_rules | `(tactic| walk_at "pad9") => `(tactic| skip)
local macro_rules | `(tactic| walk_at "pad9") => `(tactic| skip)
local macro_rules | `(tactic| walk_at "pad9") => `(tactic| skip)
local macro_rules | `(tactic| walk_at "pad9") => `(tactic| skip)
local macro_rules | `(tactic| walk_at "pad9") => `(tactic| skip)
local macro_rules | `(tactic| walk_at "pad9") => `(tactic| skip)
local macro_rules | `(tactic| walk_at "pad9") => `(tactic| skip)
local macro_rules | `(tactic| walk_at "pad9") => `(tactic| skip)
local macro_rules | `(tactic| walk_at "pad9") => `(tactic| skip)
local macro_rules | `(tactic| walk_at "pad9") => `(tactic| skip)
local macro_rules | `(tactic| walk_at "pad9") => `(tactic| skip)
local macro_rules | `(tactic| walk_at "pad9") => `(tactic| skip)
local macro_rules | `(tactic| walk_at "pad9") => `(tactic| skip)
local macro_rules | `(tactic| walk_at "pad9") => `(tactic| skip)
namespace Mine
set_option maxRecDepth 100000
set_option maxHeartbeats 2000000
section
variable {prog : Program} {w : World} {A₀ A : Around} {s : Shared} {base h₀ g₀ : Heap} {L a : Addr} {m : Str → Option Value} {news : List (Addr × Obj)} {K : Frag} {p : Program} {loose : List Str} {mean : ExcName → Option Value} {mg mb : Str → Option Value} {env : Env}
    {R : Result → Shared → Prop} {name qual : Str} {params : Arguments} {body : List Stmt} {scope : Scope} {dV kV doc pm cdv ct oc : Value} {an od : Option Addr} {osl : Array (Option Value)} {f : Addr} {args : Args} {binds : List (Str × Value)}
theorem one_mem {b : Addr} (hf : env.frame = some L) (hm : b ∈ [env].filterMap (·.frame)) : b = L := by
  obtain ⟨e, he, hf'⟩ := List.mem_filterMap.mp hm
  rw [List.mem_singleton.mp he, hf] at hf'
  exact (Option.some.inj hf').symm
theorem code_defS0X (B : Below A₀ base [] h₀) (F : Fr h₀ L s.heap m) (X₀ : K.In h₀) (N : News h₀ L s.heap news) (T : Top p loose mean mg mb h₀) (hA : A.frames = some [env]) (hfe : env.frame = some L) (hke : env.scope.kind = .function)
    (ho : K.lookup f = some ⟨oc, od, .func (fnOf name qual params body scope dV kV doc pm an cdv ct), osl⟩) (hcd : codeIn K cdv qual = true) (hroom : A.depth < recursionLimit)
    (hbind : BindsTo s (fnOf name qual params body scope dV kV doc pm an cdv ct) args binds) (hloc : ∀ y ∈ binds, scope.names.lookup y.1 = some .local)
    (h : ∀ g L' h₁, Fr h₀ L g m → Fr g L' h₁ (fun y => binds.reverse.lookup y) → News g L' h₁ news → Below A base [env] g → K.In g → Top p loose mean mg mb g → KtsDicts ([env].filterMap (·.frame)) g →
      wpAny (model prog w) (A.deeper (envOf qual scope L' f cdv)) (execs body (envOf qual scope L' f cdv))
        (fun fl s' => LeaveS0 ([env].filterMap (·.frame)) h₀ L m g R (match fl with | .ret v => v | _ => .none) s')
        (fun e s' => wpAny (model prog w) (A.deeper (envOf qual scope L' f cdv)) (leaving (envOf qual scope L' f cdv) e) (fun _ s'' => R (.error e) s'') (fun e' s'' => R (.error e') s'') s')
        { s with heap := h₁, toks := s.toks + binds.length })
    (hco : scope.isCoroutine = false) (hgen : scope.isGenerator = false) (hk : scope.kind = .function)
    (hcell : ∀ x ∈ scope.names, x.2 ≠ .cell) : codeAny (model prog w) A (.call (.ref f) args) R s := by
  have X := X₀.keeps F.keep
  refine codeAny_call_def (fd := fnOf name qual params body scope dV kV doc pm an cdv ct) (body := body) (binds := binds) hroom (X _ _ ho) rfl (T.nolimit.keeps F.keep) (codeRec_of X hcd) rfl hbind hcell hloc (fun h₁ hns hk₁ => ?_) hco hgen hk
  obtain ⟨FG, BG, st, _⟩ := groundX (R := R) B F N hA hfe hke
  obtain ⟨oL, es, ep, hLg, hLd, hLk, hLf⟩ := FG.ns
  refine wpAny_mono (h _ s.heap.objs.size h₁ FG ⟨hns, fun b o e => hk₁ b o (of_hideAll _ e), Nat.le_of_eq (hideAll_size _ _)⟩
    (fun p hp => ⟨hk₁ _ _ (N p hp).1, Nat.ne_of_lt (Heap.lt_size (N p hp).1), hideAll_none _ (List.mem_map_of_mem hp)⟩) BG (X₀.keeps st) (T.keeps st) (fun b hb => by
      rw [one_mem hfe hb]; exact ⟨oL, es, ep, hLg, hLd⟩)) (fun fl s' hl => ?_) fun _ _ y => y
  obtain ⟨g', L', m', news', T', F', N', k⟩ := hl
  have nL₀ : h₀.get? L = none := kts_self F
  obtain ⟨sl, hs⟩ := T'.up hLg
  refine k ⟨⟨_, es, ep, F'.keep _ _ hs, hLd, hLk, hLf⟩, fun b o e => F'.keep b o (T'.other b o (st b o e) (fun q => by
    rw [one_mem hfe q, nL₀] at e; cases e)), F.above⟩ fun p hp => ⟨(N' p hp).1, fun q => ?_, ?_⟩
  · have := (N' p hp).2.2; rw [q, hs] at this; cases this
  · cases q : h₀.get? p.1 with
    | none => rfl
    | some o =>
      obtain ⟨sl', hs'⟩ := T'.up (st _ _ q)
      have := (N' p hp).2.2
      rw [hs'] at this
      cases this
end
section
variable {w : World} {mean : ExcName → Option Value} {mg mb : Str → Option Value}
local macro_rules | `(tactic| walk_at "call ref") => `(tactic| (k_here; (with_reducible show wpAny _ _ (PySem.call (Value.ref 89) [Value.str _ _]) _ _ _); k_dflt (refine' t_name_octets _ _ _ ?kx _ _ _ _ _ _ _ _ _ _ _ _ _ _ _ _ _ ?k1 ?k2 ?k3 ?k4 ?k5 ?kK ?kd ?ku ?kr ?ke; (case k4 => k_asm); (case k1 => k_asm); (case k2 => k_asm); (case k3 => k_asm); (case k5 => k_asm); (case kx => first | assumption | omega); (case kK => first | exact rfl | assumption); (case kd => ktr_room); (case ku => ktr_units); k_whole)))
theorem t_is_refused (news : List (Addr × Obj)) (x : Str) (t : Tok) (hx : x.length ≤ 1000) :
    ∀ (dp un : Nat) (gd : Option (List Code)) (cn : Str) (cs : Scope) (a : Addr) (ccd : Value) (cl : List (Str × Addr)) (A₀ : Around) (h₀ : Heap) (L : Addr) (m : Str → Option Value) (s : Shared) (Q E : Value → Shared → Prop),
    Below A₀ h₀ [] h₀ → Fr h₀ L s.heap m → (hd.heap_39 w.params).In h₀ → News h₀ L s.heap news → Top hd.view_39 LO mean mg mb h₀ → cs.kind = .function →
    dp + 10 < recursionLimit → un + 200 < cLine →
    (∀ b, (b = true ↔ ¬ Named (KStt.codes x)) → Gives news (fun _ => .bool b) h₀ L m s Q) →
    wpAny (model PR w) (ktrTop dp un gd cn cs L a ccd cl []) (PySem.call (.ref 149) [.str x t]) Q E s := by
  dsimp only [Gives, PR]
  k_fill
  intro dp un gd cn cs a ccd cl A₀ h₀ L m s Q E B F X N T hk hd' hu hret
  refine wpAny_call ?_
  k_dflt (refine' code_defS0X ?k1 ?k2 ?k3 ?k4 ?k5 ?kA ?kF ?kK ?k6 ?k7 ?k8 ?k9 ?kB ?_ ?c2 ?c3 ?c4 ?c5; (case kA => exact rfl); (case kF => exact rfl); (case kK => assumption); (case k1 => k_asm); (case k2 => k_asm); (case k3 => k_asm); (case k4 => k_asm); (case k5 => k_asm); (case k6 => k_is); (case k7 => k_is); (case k8 => ktr_room); (case k9 => first | exact BindsTo.of_eq rfl | exact binds_K (by k_in) rfl (by k_is) rfl rfl rfl); (case c5 => decide); (case kB => exact locs rfl); (case c2 => exact rfl); (case c3 => exact rfl); (case c4 => exact rfl); k_whole; intro g' L' h' FG' F' N' B' X' T' D'; (try dsimp only); (try k_lift B'); (try k_fold))
  k_steps
  · exact hret false (by simp_all) default _ _ (by k_asm) (by k_asm)
  · exact hret true (by simp_all) default _ _ (by k_asm) (by k_asm)
end
end Mine
end OgU

section OgK
open PySem PySem.W PySem.Spec PySem.Calls PyProof.Rows
namespace Mine
theorem plain_iff {c : Int} (h0 : 1 ≤ c) : plainSign c = true ↔ ¬(c < 33 ∨ 126 < c ∨ c = 35 ∨ isRegular c = false) := by
  unfold plainSign isRegular
  simp only [List.any_cons, List.any_nil, Bool.or_false, Bool.and_eq_true, decide_eq_true_eq, Bool.not_eq_true', Bool.or_eq_false_iff, beq_eq_false_iff_ne, Bool.and_eq_false_iff, Bool.not_eq_false', decide_eq_false_iff_not, Bool.or_eq_true, beq_iff_eq, ne_eq]
  omega
theorem nameSign_len_plain {c : Int} (h0 : 1 ≤ c) : (nameSign c).length = if plainSign c = true then 1 else 3 := by
  by_cases h : plainSign c = true
  · rw [if_pos h, nameSign_plain ((plain_iff h0).mp h)]; rfl
  · rw [if_neg h, nameSign_escaped (Decidable.of_not_not (mt (plain_iff h0).mpr h))]; rfl
theorem nameBody_count {cs : List Int} (h : Named cs) : (nameBody cs).length + 2 * (cs.filter plainSign).length = 3 * cs.length := by
  induction cs with
  | nil => rfl
  | cons c r ih =>
    have ih := ih fun x hx => h x (.tail _ hx)
    have e := nameSign_len_plain (h c (.head _)).1
    rw [nameBody_cons, List.length_append, List.length_cons, List.filter_cons]
    by_cases p : plainSign c = true
    · rw [if_pos p] at e ⊢
      rw [List.length_cons]; omega
    · rw [if_neg p] at e ⊢
      omega
theorem fig_regular {k : Int} (h0 : 0 ≤ k) (h1 : k < 16) : isRegular (hexFig k) = true := by
  have q := hexFig_in h0 h1
  unfold isRegular
  simp only [List.any_cons, List.any_nil, Bool.or_false, Bool.and_eq_true, decide_eq_true_eq, Bool.not_eq_true', Bool.or_eq_false_iff, beq_eq_false_iff_ne, ne_eq]
  unfold hexFig at *
  split at q <;> (rename_i h; simp only [h, if_true, if_false]; omega)
theorem nameSign_good {c : Int} (h0 : 1 ≤ c) (h1 : c ≤ 255) : ∀ n ∈ nameSign c, 33 ≤ n ∧ n ≤ 126 ∧ isRegular n = true := by
  intro n hn
  unfold nameSign at hn
  split at hn
  · simp only [List.mem_cons, List.not_mem_nil, or_false] at hn
    have q1 := hexFig_in (k := c / 16) (by omega) (by omega)
    have q2 := hexFig_in (k := c % 16) (by omega) (by omega)
    have r1 := fig_regular (k := c / 16) (by omega) (by omega)
    have r2 := fig_regular (k := c % 16) (by omega) (by omega)
    rcases hn with rfl | rfl | rfl
    · decide
    · exact ⟨by omega, by omega, r1⟩
    · exact ⟨by omega, by omega, r2⟩
  · rename_i h
    rw [List.mem_singleton.mp hn]
    refine ⟨by omega, by omega, ?_⟩
    cases r : isRegular c with
    | true => rfl
    | false => exact absurd (.inr (.inr (.inr r))) h
theorem nameBody_good {cs : List Int} (h : Named cs) : ∀ n ∈ nameBody cs, 33 ≤ n ∧ n ≤ 126 ∧ isRegular n = true := by
  intro n hn
  obtain ⟨c, hc, hn⟩ := List.mem_flatMap.mp hn
  exact nameSign_good (h c hc).1 (h c hc).2 n hn
theorem nameSign_cons (c : Int) : ∃ y r, nameSign c = y :: r := by unfold nameSign; split <;> exact ⟨_, _, rfl⟩
theorem nameSign_inj {c d : Int} {u v : List Int} (hc : 1 ≤ c ∧ c ≤ 255) (hd : 1 ≤ d ∧ d ≤ 255) (h : nameSign c ++ u = nameSign d ++ v) : c = d ∧ u = v := by
  unfold nameSign at h
  split at h <;> split at h
  · simp only [List.cons_append, List.nil_append, List.cons.injEq] at h
    have a := congrArg hexWorth h.2.1
    have b := congrArg hexWorth h.2.2.1
    rw [hexWorth_fig (by omega) (by omega), hexWorth_fig (by omega) (by omega)] at a b
    exact ⟨by omega, h.2.2.2⟩
  · rename_i n
    simp only [List.cons_append, List.nil_append, List.cons.injEq] at h
    exact absurd (.inr (.inr (.inl h.1.symm))) n
  · rename_i n _
    simp only [List.cons_append, List.nil_append, List.cons.injEq] at h
    exact absurd (.inr (.inr (.inl h.1))) n
  · simp only [List.cons_append, List.nil_append, List.cons.injEq] at h
    exact h
theorem nameBody_inj : ∀ {cs ds : List Int}, Named cs → Named ds → nameBody cs = nameBody ds → cs = ds
  | [], [], _, _, _ => rfl
  | [], d :: q, _, _, h => by
    obtain ⟨y, r, e⟩ := nameSign_cons d
    rw [nameBody_nil, nameBody_cons, e] at h; cases h
  | c :: r, [], _, _, h => by
    obtain ⟨y, r, e⟩ := nameSign_cons c
    rw [nameBody_nil, nameBody_cons, e] at h; cases h
  | c :: r, d :: q, hc, hd, h => by
    rw [nameBody_cons, nameBody_cons] at h
    obtain ⟨e, h'⟩ := nameSign_inj (hc c (.head _)) (hd d (.head _)) h
    rw [e, nameBody_inj (fun x hx => hc x (.tail _ hx)) (fun x hx => hd x (.tail _ hx)) h']
theorem Named.append {a b : List Int} (ha : Named a) (hb : Named b) : Named (a ++ b) := fun x hx => (List.mem_append.mp hx).elim (ha x) (hb x)
theorem Named.take {a : List Int} (ha : Named a) (k : Nat) : Named (a.take k) := fun x hx => ha x (List.mem_of_mem_take hx)
theorem Named.drop {a : List Int} (ha : Named a) (k : Nat) : Named (a.drop k) := fun x hx => ha x (List.mem_of_mem_drop hx)
theorem Named.nil : Named [] := fun _ h => nomatch h
end Mine
end OgK

section OgX
open PySem PySem.W PySem.Spec PySem.Calls PyProof.Rows
namespace Mine
theorem codes_app (a b : Str) : KStt.codes (a ++ b) = KStt.codes a ++ KStt.codes b := by
  unfold KStt.codes
  rw [PySem.Str.cps_append, Array.toList_append, List.map_append]
theorem codes_mk (l : List Nat) : KStt.codes ⟨l.toArray⟩ = l.map fun (c : Nat) => (c : Int) := rfl
theorem codes_one (c : Nat) : KStt.codes ⟨#[c]⟩ = [(c : Int)] := rfl
theorem codes_to {x : Str} {d : Int} (h0 : 0 ≤ d) (h1 : d ≤ x.length) : KStt.codes (Txt.slice x none (some d)) = (KStt.codes x).take d.toNat := by
  rw [eq_of_beq (slice_closes_toL h0 h1), codes_mk]
  unfold KStt.codes
  rw [List.map_take]
  simp
theorem codes_from {x : Str} {d : Int} (h0 : 0 ≤ d) (h1 : d ≤ x.length) : KStt.codes (Txt.slice x (some d) none) = (KStt.codes x).drop d.toNat := by
  rw [eq_of_beq (slice_closes_fromL (b := x.length) h0 h1 rfl), codes_mk]
  unfold KStt.codes
  rw [List.map_take, List.map_drop, List.take_of_length_le]
  rw [List.length_drop, List.length_map]
  show x.cps.toList.length - d.toNat ≤ ((x.length : Int) - d).toNat
  have : x.cps.toList.length = x.length := Array.length_toList
  omega
theorem codes_cut {x : Str} {d : Int} (h0 : 0 ≤ d) (h1 : d < (x.length : Int) + 1) : KStt.codes (Txt.slice x none (some d)) ++ KStt.codes (Txt.slice x (some d) none) = KStt.codes x := by
  rw [codes_to h0 (by omega), codes_from h0 (by omega), List.take_append_drop]
theorem named_slice {x : Str} (h : Named (KStt.codes x)) (l u : Option Int) : Named (KStt.codes (Txt.slice x l u)) := by
  unfold Txt.slice
  split
  · exact h
  · intro c hc
    rw [codes_mk] at hc
    obtain ⟨k, hk, rfl⟩ := List.mem_map.mp hc
    obtain ⟨i, _, hi⟩ := List.mem_filterMap.mp hk
    refine h _ (List.mem_map.mpr ⟨k, ?_, rfl⟩)
    rw [← Array.getElem?_toList] at hi
    exact List.mem_of_getElem? hi
theorem named_app {a b : Str} (ha : Named (KStt.codes a)) (hb : Named (KStt.codes b)) : Named (KStt.codes (a ++ b)) := by
  rw [codes_app]; exact ha.append hb
theorem named_one {c : Nat} (h0 : 1 ≤ c) (h1 : c ≤ 255) : Named (KStt.codes ⟨#[c]⟩) := fun x hx => by
  rw [codes_one] at hx
  rw [List.mem_singleton.mp hx]; omega
theorem odd_not {a b : Str} {c : Nat} (h : c = 0 ∨ 255 < c) : ¬ Named (KStt.codes (a ++ ⟨#[c]⟩ ++ b)) := fun hn => by
  have := hn (c : Int) (by rw [codes_app, codes_app, codes_one]; simp)
  omega
theorem codes_inj {x y : Str} (h : KStt.codes x = KStt.codes y) : x = y := by rw [← KStt.txt_codes x, ← KStt.txt_codes y, h]
/-- the octets of two names are the same just when the texts are -/
theorem octets_iff {x y : Str} (hx : Named (KStt.codes x)) (hy : Named (KStt.codes y)) : (47 :: nameBody (KStt.codes y) = 47 :: nameBody (KStt.codes x)) ↔ y = x :=
  ⟨fun h => codes_inj (nameBody_inj hy hx (List.cons.inj h).2), fun h => by rw [h]⟩
end Mine
end OgX

section OgW
open PySem PySem.W PySem.Spec PySem.Calls PyProof.Rows
namespace Mine
set_option maxRecDepth 100000
set_option maxHeartbeats 16000000
theorem pen_on {h₀ h : Heap} {L p c : Addr} {x : Addr × Obj} {vs : List Value} {k v : Int} {tk tv : Tok} {n n' : Nat} {led : List (Addr × Obj)} (N : News h₀ L h led) (h1 : (p, listOf #[.ref c, .int k tk, .int v tv] n) ∈ led) (h2 : (c, listOf (List.toArray vs) n') ∈ led) (h3 : x ∈ led) :
    News h₀ L h (penLed p c vs k v tk tv n n' [x]) := fun q hq => by
  rcases List.mem_cons.mp hq with rfl | hq
  · exact N _ h1
  · rcases List.mem_cons.mp hq with rfl | hq
    · exact N _ h2
    · rw [List.mem_singleton.mp hq]; exact N _ h3
theorem penOff_key {p c : Addr} {a : Addr} {o o' : Obj} (h : PenOff p c [(a, o)]) : PenOff p c [(a, o')] :=
  ⟨h.1, fun q hq => by rw [List.mem_singleton.mp hq]; exact h.2.1 (a, o) (.head _), fun q hq => by rw [List.mem_singleton.mp hq]; exact h.2.2 (a, o) (.head _)⟩
theorem pen_start {h₀ h : Heap} {L p c : Addr} {a : Addr} {o o' : Obj} {vs : List Value} {k v : Int} {tk tv : Tok} {n n' : Nat} (off : PenOff p c [(a, o)]) (N : News h₀ L h ([(p, listOf #[.ref c, .int k tk, .int v tv] n), (c, listOf (List.toArray vs) n')] ++ [(a, o')])) :
    PenOff p c [(a, o')] ∧ News h₀ L h (penLed p c vs k v tk tv n n' [(a, o')]) := ⟨penOff_key off, N⟩
/-- between the turns of the comprehension that draws the text -/
def TextInv {p c : Addr} {news : List (Addr × Obj)} (_ : PenOff p c news) (i : Nat) (ys : List Value) (nw : List (Addr × Obj)) : Prop :=
  ∃ cs vs ns k v tk tv n n', nw = penLed p c vs k v tk tv n n' news ∧ IntsAre vs ns ∧ ns.length ≤ 40 ∧ SignsAre ys cs ∧ Named cs ∧ cs.length = i
theorem turn_off {p c I C D a : Addr} {oI oC oD oa : Obj} {vs : List Value} {k v : Int} {tk tv : Tok} {n n' : Nat} (off : PenOff p c [(a, oa)]) (o3 : LCg.Off3 I C D (penLed p c vs k v tk tv n n' [(a, oa)])) : PenOff p c [(I, oI), (C, oC), (D, oD), (a, oa)] := by
  obtain ⟨⟨a1, a2, a3⟩, ⟨b1, b2, b3⟩, _⟩ := o3
  refine ⟨off.1, fun q hq => ?_, fun q hq => ?_⟩
  · simp only [List.mem_cons, List.not_mem_nil, or_false] at hq
    rcases hq with rfl | rfl | rfl | rfl
    · exact a1.symm
    · exact a2.symm
    · exact a3.symm
    · exact off.2.1 _ (.head _)
  · simp only [List.mem_cons, List.not_mem_nil, or_false] at hq
    rcases hq with rfl | rfl | rfl | rfl
    · exact b1.symm
    · exact b2.symm
    · exact b3.symm
    · exact off.2.2 _ (.head _)
theorem turn_led {h₀ h : Heap} {L p c I C D a : Addr} {oI oC oD oa : Obj} {vs : List Value} {k v : Int} {tk tv : Tok} {n n' : Nat} (N : News h₀ L h ((I, oI) :: (C, oC) :: (D, oD) :: penLed p c vs k v tk tv n n' [(a, oa)])) : News h₀ L h (penLed p c vs k v tk tv n n' [(I, oI), (C, oC), (D, oD), (a, oa)]) := fun q hq => N q (by
  simp only [penLed, List.mem_cons, List.not_mem_nil, or_false] at hq ⊢
  rcases hq with h | h | h | h | h | h <;> simp [h])
theorem turn_sub {p c I C D a : Addr} {oI oC oD oa : Obj} {vs : List Value} {k v : Int} {tk tv : Tok} {n n' : Nat} : ∀ q ∈ (I, oI) :: (C, oC) :: (D, oD) :: penLed p c vs k v tk tv n n' [(a, oa)], q ∈ penLed p c vs k v tk tv n n' [(I, oI), (C, oC), (D, oD), (a, oa)] := fun q hq => by
  simp only [penLed, List.mem_cons, List.not_mem_nil, or_false] at hq ⊢
  rcases hq with h | h | h | h | h | h <;> simp [h]
theorem SignsAre.sign {vs : List Value} {cs : List Int} (h : SignsAre vs cs) (x : Nat) (t : Tok) : SignsAre (vs ++ [.str ⟨#[x]⟩ t]) (cs ++ [(x : Int)]) := h.snoc (x : Int) t
theorem Named.sign {cs : List Int} {x : Nat} (h : Named cs) (h0 : 1 ≤ x) (h1 : x ≤ 255) : Named (cs ++ [(x : Int)]) := h.snoc (by omega) (by omega)
theorem join_signsX {prog : Program} {w : World} {A : Around} {E : Value → Shared → Prop} {s : Shared} {D : Addr} {vs : List Value} {cs : List Int} {x : Str} {t : Tok} {Q : Value → Shared → Prop} (hl : s.heap.IsList D vs.toArray) (hc : SignsAre vs cs) (hn : cs.length ≤ 1000) (hx : KStt.txt cs = x) (h : ∀ t' k, Q (.str x t') { s with toks := k }) :
    wpAny (model prog w) A (PySem.call (.builtin "str.join") [.str (PySem.Str.ofString "") t, .ref D]) Q E s := join_signsW hl hc hn (hx ▸ h)
theorem codes_txt {cs : List Int} (h : ∀ c ∈ cs, 0 ≤ c) : KStt.codes (KStt.txt cs) = cs := by
  unfold KStt.codes KStt.txt
  simp only [List.map_map]
  refine (List.map_congr_left (g := _root_.id) fun c hc => ?_).trans (List.map_id _)
  exact Int.toNat_of_nonneg (h c hc)
section
variable {w : World} {mean : ExcName → Option Value} {mg mb : Str → Option Value}
theorem t_octets (news : List (Addr × Obj)) (x : Str) (t : Tok) (hx : x.length ≤ 1000) (hn : Named (KStt.codes x)) :
    Told1 w mean mg mb 89 5 60 news [.str x t] (fun h₀ L m s Q => ∀ b t h' tk', KBw.bInts b = 47 :: nameBody (KStt.codes x) → (nameBody (KStt.codes x)).length ≤ 3000 → Fr h₀ L h' m → News h₀ L h' news → Q (.bytes b t) { s with heap := h', toks := tk' }) := by
  intro dp un gd cn cs a ccd cl outer A₀ base h₀ L m s Q E B F X N T hk hd' hu hret
  have hl : (nameBody (KStt.codes x)).length ≤ 3000 := by have := nameBody_len (KStt.codes x); rw [KStt.codes_length] at this; omega
  refine t_name_octets news x t hx dp un gd cn cs a ccd cl outer A₀ base h₀ L m s Q E B F X N T hk hd' hu (fun _ t h' tk' F' N' => hret _ t h' tk' (KBa.ints_make fun n hm => ?_) hl F' N') (fun hno => absurd hn hno)
  rcases List.mem_cons.mp hm with rfl | hm
  · decide
  · exact nameBody_in hn n hm
theorem t_readX (news : List (Addr × Obj)) (x : Str) (hx : x.length ≤ 1000) (hn : Named (KStt.codes x)) (b : Array UInt8) (t : Tok) (hb : KBw.bInts b = 47 :: nameBody (KStt.codes x)) :
    Told1 w mean mg mb 137 2 100 news [.bytes b t] (Gives news fun t => .str x t) := by
  have h := t_law_read (w := w) (mean := mean) (mg := mg) (mb := mb) news (KStt.codes x) hn (by rw [KStt.codes_length]; exact hx) b t hb
  rw [KStt.txt_codes] at h
  exact h
theorem t_textX (news : List (Addr × Obj)) (x : Str) (hx : x.length ≤ 1000) (hn : Named (KStt.codes x)) (b : Array UInt8) (t : Tok) (hb : KBw.bInts b = nameBody (KStt.codes x)) :
    Told1 w mean mg mb 104 3 200 news [.bytes b t] (Gives news fun t => .str x t) := by
  have h := t_name_text (w := w) (mean := mean) (mg := mg) (mb := mb) news (KStt.codes x) hn (by rw [KStt.codes_length]; exact hx) b t hb
  rw [KStt.txt_codes] at h
  exact h
theorem t_regular_yes (news : List (Addr × Obj)) (c : Int) (t : Tok) (hc : isRegular c = true) : Told1 w mean mg mb 30 1 8 news [.int c t] (Gives news fun _ => .bool true) := by
  have h := t_is_regular (w := w) (mean := mean) (mg := mg) (mb := mb) news c t
  rw [hc] at h
  exact h
theorem t_refused_yes (news : List (Addr × Obj)) (x : Str) (t : Tok) (hx : x.length ≤ 1000) (hn : ¬ Named (KStt.codes x)) (dp un : Nat) (gd : Option (List Code)) (cn : Str) (cs : Scope) (a : Addr) (ccd : Value) (cl : List (Str × Addr)) (A₀ : Around) (h₀ : Heap) (L : Addr) (m : Str → Option Value) (s : Shared) (Q E : Value → Shared → Prop)
    (B : Below A₀ h₀ [] h₀) (F : Fr h₀ L s.heap m) (X : (hd.heap_39 w.params).In h₀) (N : News h₀ L s.heap news) (T : Top hd.view_39 LO mean mg mb h₀) (hk : cs.kind = .function) (hd' : dp + 10 < recursionLimit) (hu : un + 200 < cLine)
    (h : ∀ h' tk', Fr h₀ L h' m → News h₀ L h' news → Q (.bool true) { s with heap := h', toks := tk' }) : wpAny (model PR w) (ktrTop dp un gd cn cs L a ccd cl []) (PySem.call (.ref 149) [.str x t]) Q E s :=
  t_is_refused news x t hx dp un gd cn cs a ccd cl A₀ h₀ L m s Q E B F X N T hk hd' hu fun b hb _ h' tk' F' N' => by
    rw [hb.mpr hn]; exact h h' tk' F' N'
theorem t_refused_no (news : List (Addr × Obj)) (x : Str) (t : Tok) (hx : x.length ≤ 1000) (hn : Named (KStt.codes x)) (dp un : Nat) (gd : Option (List Code)) (cn : Str) (cs : Scope) (a : Addr) (ccd : Value) (cl : List (Str × Addr)) (A₀ : Around) (h₀ : Heap) (L : Addr) (m : Str → Option Value) (s : Shared) (Q E : Value → Shared → Prop)
    (B : Below A₀ h₀ [] h₀) (F : Fr h₀ L s.heap m) (X : (hd.heap_39 w.params).In h₀) (N : News h₀ L s.heap news) (T : Top hd.view_39 LO mean mg mb h₀) (hk : cs.kind = .function) (hd' : dp + 10 < recursionLimit) (hu : un + 200 < cLine)
    (h : ∀ h' tk', Fr h₀ L h' m → News h₀ L h' news → Q (.bool false) { s with heap := h', toks := tk' }) : wpAny (model PR w) (ktrTop dp un gd cn cs L a ccd cl []) (PySem.call (.ref 149) [.str x t]) Q E s :=
  t_is_refused news x t hx dp un gd cn cs a ccd cl A₀ h₀ L m s Q E B F X N T hk hd' hu fun b hb _ h' tk' F' N' => by
    cases b with
    | true => exact absurd hn (hb.mp rfl)
    | false => exact h h' tk' F' N'
theorem t_toctets (news : List (Addr × Obj)) (x : Str) (t : Tok) (hx : x.length ≤ 1000) (hn : Named (KStt.codes x)) :
    Told1 w mean mg mb 75 1 40 news [.str x t] (fun h₀ L m s Q => ∀ b t h' tk', KBw.bInts b = KStt.codes x → Fr h₀ L h' m → News h₀ L h' news → Q (.bytes b t) { s with heap := h', toks := tk' }) := by
  intro dp un gd cn cs a ccd cl outer A₀ base h₀ L m s Q E B F X N T hk hd' hu hret
  exact t_text_octets news x t hx hn dp un gd cn cs a ccd cl outer A₀ base h₀ L m s Q E B F X N T hk hd' hu fun t h' tk' F' N' => hret _ t h' tk' (KBa.ints_make fun n hm => by have := hn n hm; omega) F' N'
end
theorem ints_inj {b c : Array UInt8} (h : KBw.bInts b = KBw.bInts c) : b = c := by
  have key : ∀ l r : List UInt8, (l.map fun z => (z.toNat : Int)) = (r.map fun z => (z.toNat : Int)) → l = r := by
    intro l
    induction l with
    | nil => intro r e; cases r with
      | nil => rfl
      | cons _ _ => cases e
    | cons a l ih => intro r e; cases r with
      | nil => cases e
      | cons d r =>
        rw [List.map_cons, List.map_cons] at e
        injection e with e1 e2
        have e3 : a = d := UInt8.toNat_inj.mp (by have e1 : ((a.toNat : Nat) : Int) = d.toNat := e1; omega)
        rw [ih r e2, e3]
  exact Array.toList_inj.mp (key _ _ h)
theorem clip_head (l : List Int) (h : l.length ≤ 3000) : List.take (clipAt (47 :: l).length 1) (47 :: l) = [47] := by
  have e : clipAt (47 :: l).length 1 = 1 := by rw [show clipAt (47 :: l).length 1 = min 1 (47 :: l).length from clipAt_nat _ 1, List.length_cons]; omega
  rw [e]; rfl
theorem clip_rest (l : List Int) (h : l.length ≤ 3000) : List.take ((47 :: l).length - clipAt (47 :: l).length 1) (List.drop (clipAt (47 :: l).length 1) (47 :: l)) = l := by
  have e : clipAt (47 :: l).length 1 = 1 := by rw [show clipAt (47 :: l).length 1 = min 1 (47 :: l).length from clipAt_nat _ 1, List.length_cons]; omega
  rw [e]; simp
theorem cut_same {x : Str} {d : Int} (h0 : 0 ≤ d) (h1 : d < (x.length : Int) + 1) (hl : (nameBody (KStt.codes (Txt.slice x (some d) none))).length ≤ 3000) :
    (47 :: nameBody (KStt.codes (Txt.slice x none (some d)))) ++ List.take ((47 :: nameBody (KStt.codes (Txt.slice x (some d) none))).length - clipAt (47 :: nameBody (KStt.codes (Txt.slice x (some d) none))).length 1) (List.drop (clipAt (47 :: nameBody (KStt.codes (Txt.slice x (some d) none))).length 1) (47 :: nameBody (KStt.codes (Txt.slice x (some d) none)))) = 47 :: nameBody (KStt.codes x) := by
  rw [clip_rest _ hl, List.cons_append, ← nameBody_append, codes_cut h0 h1]
theorem other_len {x : Str} {c : Nat} {l u l' u' : Option Int} (h : x.length ≤ 12) : (Txt.slice x l u ++ ⟨#[c]⟩ ++ Txt.slice x l' u').length ≤ 1000 := by
  have h1 := Txt.slice_le x l u
  have h2 := Txt.slice_le x l' u'
  rw [PySem.Str.length_append, PySem.Str.length_append]
  show _ + 1 + _ ≤ 1000
  omega
theorem le_of12 {n : Nat} (h : n ≤ 12) : n ≤ 1000 := Nat.le_trans h (by decide)
theorem slice_len {x : Str} {l u : Option Int} (h : x.length ≤ 12) : (Txt.slice x l u).length ≤ 1000 := Nat.le_trans (Txt.slice_le x l u) (Nat.le_trans h (by decide))
theorem clip_tail (l : List Int) (h : l.length ≤ 3000) : List.drop (clipAt (47 :: l).length 1) (47 :: l) = l := by
  have e : clipAt (47 :: l).length 1 = 1 := by rw [show clipAt (47 :: l).length 1 = min 1 (47 :: l).length from clipAt_nat _ 1, List.length_cons]; omega
  rw [e]; rfl
section
variable {prog : Program} {w : World} {A : Around} {E : Value → Shared → Prop} {s : Shared} {b c : Array UInt8} {t u : Tok} {ks ls : List Int} {Q : Value → Shared → Prop}
theorem eq_oct {x y : Str} (hb : KBw.bInts b = 47 :: nameBody (KStt.codes y)) (hc : KBw.bInts c = 47 :: nameBody (KStt.codes x)) (hx : Named (KStt.codes x)) (hy : Named (KStt.codes y)) (h : Q (.bool (y == x)) s) : wpAny (model prog w) A (compareOp .Eq (.bytes b t) (.bytes c u)) Q E s := by
  refine eq_bytes ?_
  have e : (b.toList == c.toList) = (y == x) := by
    rw [Bool.eq_iff_iff, beq_iff_eq, beq_iff_eq, ← octets_iff hx hy, ← hb, ← hc, Array.toList_inj]
    exact ⟨fun h => by rw [h], ints_inj⟩
  rw [e]
  exact h
theorem ne_bool_same {a : Bool} (h : Q (.bool false) s) : wpAny (model prog w) A (compareOp .NotEq (.bool a) (.bool a)) Q E s := by
  refine ne_bool ?_
  cases a <;> exact h
theorem ne_same (hb : KBw.bInts b = ks) (hc : KBw.bInts c = ls) (e : ks = ls) (h : Q (.bool false) s) : wpAny (model prog w) A (compareOp .NotEq (.bytes b t) (.bytes c u)) Q E s := by
  refine ne_bytes ?_
  rw [ints_inj (hb.trans (e.trans hc.symm)), bne_self_eq_false]
  exact h
end
theorem len_led {prog : Program} {w : World} {A : Around} {E : Value → Shared → Prop} {s : Shared} {D : Addr} {ys : List Value} {n : Nat} {Q : Value → Shared → Prop} (hl : s.heap.IsList D ys.toArray) (e : ys.length = n) (hz : n ≤ 16384) (h : Q (.int n (s.toks + 1)) { s with toks := s.toks + 1 + 1 }) :
    wpAny (model prog w) A (PySem.call (.builtin "len") [.ref D]) Q E s := kun_lenL hl (by rw [List.size_toArray, e]) (by omega) h
abbrev ledOf {h₀ h : Heap} {L : Addr} {led : List (Addr × Obj)} (_ : News h₀ L h led) : List (Addr × Obj) := led
theorem ints_mem {b : Array UInt8} {i : Nat} {c : UInt8} {ks : List Int} (hb : KBw.bInts b = ks) (h : b[i]? = some c) : (c.toNat : Int) ∈ ks := by
  rw [← hb]
  exact List.mem_map.mpr ⟨c, by rw [← Array.getElem?_toList] at h; exact List.mem_of_getElem? h, rfl⟩
theorem odd_menu {v : Value} {vs : List Value} {ns : List Int} (hi : IntsAre vs ns) (hb : ∀ n ∈ ns, (n.toNat = 0 ∨ 255 < n.toNat) ∧ 0 ≤ n ∧ n ≤ 65536) (hv : v ∈ vs.toArray) : ∃ n t, v = .int n t ∧ (n.toNat = 0 ∨ 255 < n.toNat) ∧ 0 ≤ n ∧ n ≤ 65536 := by
  obtain ⟨i, h⟩ := List.getElem?_of_mem (Array.mem_toList_iff.mpr hv)
  obtain ⟨n, t, e, hn⟩ := hi.at i v h
  exact ⟨n, t, e, hb n (List.mem_of_getElem? hn)⟩
local macro_rules | `(tactic| k_all) => `(tactic| with_reducible assumption)
local macro_rules | `(tactic| walk_at "eval ListComp") => `(tactic| refine StopHere.out ?_)
local macro_rules | `(tactic| walk_at "call ref") => `(tactic| (k_here; (with_reducible show wpAny _ _ (PySem.call (Value.ref 109) [Value.ref _]) _ _ _); k_dflt (refine' t_pen _ _ ?kl _ ?ki _ _ _ _ _ _ _ _ _ _ _ _ _ _ _ _ _ _ ?k1 ?k2 ?k3 ?k4 ?k5 ?kK ?kb ?kd ?ku ?_; (case kb => with_reducible assumption); (case ki => with_reducible assumption); (case kl => omega); (case k4 => k_asm); (case k1 => k_asm); (case k2 => k_asm); (case k3 => k_asm); (case k5 => k_asm); (case kK => first | exact rfl | with_reducible assumption); (case kd => ktr_room); (case ku => ktr_units); k_whole); intro p9 c9 off9 vs9 ns9 k9 v9 tk9 tv9 n9 m9 h9 tkk9 hi9 hl9 F9 N9; (try dsimp only); (try k_fold)))
local macro_rules | `(tactic| walk_at "call ref") => `(tactic| (k_here; (with_reducible show wpAny _ _ (PySem.call (Value.ref 116) [Value.ref _, Value.int _ _]) _ _ _); k_dflt (refine' t_draw0 _ _ _ ?ko _ _ ?ki ?kl _ _ _ _ _ _ _ _ ?m1 ?m2 _ _ _ _ _ _ _ _ _ _ _ _ _ _ _ _ _ ?k1 ?k2 ?k3 ?k4 ?k5 ?kK ?kd ?ku ?_; (case ko => with_reducible assumption); (case k4 => first | with_reducible assumption | exact pen_on (by k_asm) (by repeat (first | exact List.Mem.head _ | refine List.Mem.tail _ ?_)) (by repeat (first | exact List.Mem.head _ | refine List.Mem.tail _ ?_)) (by repeat (first | exact List.Mem.head _ | refine List.Mem.tail _ ?_))); (case ki => with_reducible assumption); (case kl => with_reducible assumption); (case m1 => omega); (case m2 => omega); (case k1 => k_asm); (case k2 => k_asm); (case k3 => k_asm); (case k5 => k_asm); (case kK => first | exact rfl | with_reducible assumption); (case kd => ktr_room); (case ku => ktr_units); k_whole); intro d9 t9 d9lo d9hi vs9 ns9 k9 v9 tk9 tv9 n9 m9 h9 tkk9 hi9 hl9 F9 N9; (try dsimp only); (try k_fold)))
local macro_rules | `(tactic| walk_at "call ref") => `(tactic| (k_here; (with_reducible show wpAny _ _ (PySem.call (Value.ref 130) [Value.ref _]) _ _ _); k_dflt (refine' t_sign0 _ _ _ ?ko _ _ ?ki ?kl _ _ _ _ _ _ _ _ _ _ _ _ _ _ _ _ _ _ _ _ _ _ _ ?k1 ?k2 ?k3 ?k4 ?k5 ?kK ?kd ?ku ?_; (case ko => with_reducible assumption); (case k4 => first | with_reducible assumption | exact pen_on (by k_asm) (by repeat (first | exact List.Mem.head _ | refine List.Mem.tail _ ?_)) (by repeat (first | exact List.Mem.head _ | refine List.Mem.tail _ ?_)) (by repeat (first | exact List.Mem.head _ | refine List.Mem.tail _ ?_))); (case ki => with_reducible assumption); (case kl => with_reducible assumption); (case k1 => k_asm); (case k2 => k_asm); (case k3 => k_asm); (case k5 => k_asm); (case kK => first | exact rfl | with_reducible assumption); (case kd => ktr_room); (case ku => ktr_units); k_whole); intro x9 t9 x9lo x9hi vs9 ns9 k9 v9 tk9 tv9 n9 m9 h9 tkk9 hi9 hl9 F9 N9; (try dsimp only); (try k_fold)))
local macro_rules | `(tactic| walk_at "call ref") => `(tactic| (k_here; (with_reducible show wpAny _ _ (PySem.call (Value.ref 89) [Value.str _ _]) _ _ _); k_dflt (refine' t_octets _ _ _ ?kx ?kn _ _ _ _ _ _ _ _ _ _ _ _ _ _ _ _ _ ?k1 ?k2 ?k3 ?k4 ?k5 ?kK ?kd ?ku ?_; (case k4 => k_asm); (case kx => first | with_reducible assumption | with_reducible exact le_of12 (by with_reducible assumption) | with_reducible exact other_len (by with_reducible assumption) | with_reducible exact slice_len (by with_reducible assumption)); (case kn => first | with_reducible assumption | with_reducible exact named_slice (by with_reducible assumption) _ _ | with_reducible exact named_app (named_app (named_slice (by with_reducible assumption) _ _) (named_one (by with_reducible assumption) (by with_reducible assumption))) (named_slice (by with_reducible assumption) _ _)); (case k1 => k_asm); (case k2 => k_asm); (case k3 => k_asm); (case k5 => k_asm); (case kK => first | exact rfl | with_reducible assumption); (case kd => ktr_room); (case ku => ktr_units); k_whole); intro b9 t9 h9 tk9 hb9 hbl9 F9 N9; (try dsimp only); (try k_fold)))
local macro_rules | `(tactic| walk_at "call ref") => `(tactic| (k_here; (with_reducible show wpAny _ _ (PySem.call (Value.ref 75) [Value.str _ _]) _ _ _); k_dflt (refine' t_toctets _ _ _ ?kx ?kn _ _ _ _ _ _ _ _ _ _ _ _ _ _ _ _ _ ?k1 ?k2 ?k3 ?k4 ?k5 ?kK ?kd ?ku ?_; (case k4 => k_asm); (case kx => first | with_reducible assumption | with_reducible exact le_of12 (by with_reducible assumption) | with_reducible exact other_len (by with_reducible assumption) | with_reducible exact slice_len (by with_reducible assumption)); (case kn => first | with_reducible assumption | with_reducible exact named_slice (by with_reducible assumption) _ _ | with_reducible exact named_app (named_app (named_slice (by with_reducible assumption) _ _) (named_one (by with_reducible assumption) (by with_reducible assumption))) (named_slice (by with_reducible assumption) _ _)); (case k1 => k_asm); (case k2 => k_asm); (case k3 => k_asm); (case k5 => k_asm); (case kK => first | exact rfl | with_reducible assumption); (case kd => ktr_room); (case ku => ktr_units); k_whole); intro b9 t9 h9 tk9 hb9 F9 N9; (try dsimp only); (try k_fold)))
local macro_rules | `(tactic| walk_at "call ref") => `(tactic| (k_here; (with_reducible show wpAny _ _ (PySem.call (Value.ref 142) [Value.str _ _]) _ _ _); k_dflt (refine' t_plain_signs _ _ _ ?kx _ _ _ _ _ _ _ _ _ _ _ _ _ _ _ _ _ ?k1 ?k2 ?k3 ?k4 ?k5 ?kK ?kd ?ku ?_; (case k4 => k_asm); (case kx => first | with_reducible assumption | omega); (case k1 => k_asm); (case k2 => k_asm); (case k3 => k_asm); (case k5 => k_asm); (case kK => first | exact rfl | with_reducible assumption); (case kd => ktr_room); (case ku => ktr_units); k_whole); intro D9 ys9 h9 tk9 hys9 F9 N9 ne9; (try dsimp only); (try k_fold)))
local macro_rules | `(tactic| walk_at "call ref") => `(tactic| (k_here; (with_reducible show wpAny _ _ (PySem.call (Value.ref 137) [Value.bytes _ _]) _ _ _); k_dflt (refine' t_readX _ _ ?kx ?kn _ _ ?hb _ _ _ _ _ _ _ _ _ _ _ _ _ _ _ _ _ ?k1 ?k2 ?k3 ?k4 ?k5 ?kK ?kd ?ku ?_; (case hb => with_reducible assumption); (case k4 => k_asm); (case kx => first | with_reducible assumption | with_reducible exact le_of12 (by with_reducible assumption) | with_reducible exact other_len (by with_reducible assumption) | with_reducible exact slice_len (by with_reducible assumption)); (case kn => first | with_reducible assumption | with_reducible exact named_slice (by with_reducible assumption) _ _ | with_reducible exact named_app (named_app (named_slice (by with_reducible assumption) _ _) (named_one (by with_reducible assumption) (by with_reducible assumption))) (named_slice (by with_reducible assumption) _ _)); (case k1 => k_asm); (case k2 => k_asm); (case k3 => k_asm); (case k5 => k_asm); (case kK => first | exact rfl | with_reducible assumption); (case kd => ktr_room); (case ku => ktr_units); k_whole); intro t9 h9 tk9 F9 N9; (try dsimp only); (try k_fold)))
local macro_rules | `(tactic| walk_at "call ref") => `(tactic| (k_here; (with_reducible show wpAny _ _ (PySem.call (Value.ref 104) [Value.bytes _ _]) _ _ _); k_dflt (refine' t_textX _ _ ?kx ?kn _ _ ?hb _ _ _ _ _ _ _ _ _ _ _ _ _ _ _ _ _ ?k1 ?k2 ?k3 ?k4 ?k5 ?kK ?kd ?ku ?_; (case hb => exact Eq.trans (by with_reducible assumption) (clip_rest _ (by with_reducible assumption))); (case k4 => k_asm); (case kx => first | with_reducible assumption | with_reducible exact le_of12 (by with_reducible assumption) | with_reducible exact other_len (by with_reducible assumption) | with_reducible exact slice_len (by with_reducible assumption)); (case kn => first | with_reducible assumption | with_reducible exact named_slice (by with_reducible assumption) _ _ | with_reducible exact named_app (named_app (named_slice (by with_reducible assumption) _ _) (named_one (by with_reducible assumption) (by with_reducible assumption))) (named_slice (by with_reducible assumption) _ _)); (case k1 => k_asm); (case k2 => k_asm); (case k3 => k_asm); (case k5 => k_asm); (case kK => first | exact rfl | with_reducible assumption); (case kd => ktr_room); (case ku => ktr_units); k_whole); intro t9 h9 tk9 F9 N9; (try dsimp only); (try k_fold)))
local macro_rules | `(tactic| walk_at "call ref") => `(tactic| (k_here; (with_reducible show wpAny _ _ (PySem.call (Value.ref 30) [Value.int _ _]) _ _ _); k_dflt (refine' t_regular_yes _ _ _ ?kx _ _ _ _ _ _ _ _ _ _ _ _ _ _ _ _ _ ?k1 ?k2 ?k3 ?k4 ?k5 ?kK ?kd ?ku ?_; (case k4 => k_asm); (case kx => with_reducible assumption); (case k1 => k_asm); (case k2 => k_asm); (case k3 => k_asm); (case k5 => k_asm); (case kK => first | exact rfl | with_reducible assumption); (case kd => ktr_room); (case ku => ktr_units); k_whole); intro t9 h9 tk9 F9 N9; (try dsimp only); (try k_fold)))
local macro_rules | `(tactic| walk_at "call ref") => `(tactic| (k_here; (with_reducible show wpAny _ _ (PySem.call (Value.ref 149) [Value.str _ _]) _ _ _); k_dflt (refine' t_refused_no _ _ _ ?kx ?kn _ _ _ _ _ _ _ _ _ _ _ _ _ _ _ ?k1 ?k2 ?k3 ?k4 ?k5 ?kK ?kd ?ku ?_; (case kx => with_reducible exact other_len (by with_reducible assumption)); (case kn => with_reducible exact named_app (named_app (named_slice (by with_reducible assumption) _ _) (named_one (by with_reducible assumption) (by with_reducible assumption))) (named_slice (by with_reducible assumption) _ _)); (case k4 => k_asm); (case k1 => k_asm); (case k2 => k_asm); (case k3 => k_asm); (case k5 => k_asm); (case kK => first | exact rfl | with_reducible assumption); (case kd => ktr_room); (case ku => ktr_units); k_whole); intro h9 tk9 F9 N9; (try dsimp only); (try k_fold)))
local macro_rules | `(tactic| walk_at "call ref") => `(tactic| (k_here; (with_reducible show wpAny _ _ (PySem.call (Value.ref 149) [Value.str _ _]) _ _ _); k_dflt (refine' t_refused_yes _ _ _ ?kx ?kn _ _ _ _ _ _ _ _ _ _ _ _ _ _ _ ?k1 ?k2 ?k3 ?k4 ?k5 ?kK ?kd ?ku ?_; (case kx => with_reducible exact other_len (by with_reducible assumption)); (case kn => exact odd_not (by with_reducible assumption)); (case k4 => k_asm); (case k1 => k_asm); (case k2 => k_asm); (case k3 => k_asm); (case k5 => k_asm); (case kK => first | exact rfl | with_reducible assumption); (case kd => ktr_room); (case ku => ktr_units); k_whole); intro h9 tk9 F9 N9; (try dsimp only); (try k_fold)))
local macro_rules | `(tactic| walk_at "call ref") => `(tactic| (k_here; (with_reducible show wpAny _ _ (PySem.call (Value.ref 123) [Value.ref _, Value.ref _]) _ _ _); k_dflt (refine' t_pick0 _ _ _ _ _ _ ?z1 ?z2 ?ko _ _ ?ki ?kl _ _ _ _ _ _ _ _ _ _ _ _ _ _ _ _ _ _ _ _ _ _ _ ?k1 ?k2 ?k3 ?k4 ?k5 ?kK ?kd ?ku ?_; (case k4 => exact pen_swap (by k_asm)); (case ko => (refine' penOff_cons ?o1 ?o2 ?o3; (case o1 => with_reducible assumption); (case o2 => (refine ltN ?_; omega)); (case o3 => (refine ltN ?_; omega)))); (case ki => with_reducible assumption); (case kl => with_reducible assumption); (case z1 => exact Nat.le_of_ble_eq_true rfl); (case z2 => exact Nat.le_of_ble_eq_true rfl); (case k1 => k_asm); (case k2 => k_asm); (case k3 => k_asm); (case k5 => k_asm); (case kK => first | exact rfl | with_reducible assumption); (case kd => ktr_room); (case ku => ktr_units); k_whole); intro v9 hv9 vs9 ns9 k9 v9' tk9 tv9 n9 m9 h9 tkk9 hi9 hl9 F9 N9; (try dsimp only); (try k_fold)))
local macro_rules | `(tactic| walk_at "call builtin:len") => `(tactic| (k_here; (with_reducible show wpAny _ _ (PySem.call (Value.builtin "len") [Value.ref _]) _ _ _); k_dflt (refine' len_led ?k1 ?k2 ?k3 ?_; (case k1 => first | is_list | exact News.isList (by k_asm) (by k_mem)); (case k2 => with_reducible assumption); (case k3 => omega); k_whole)))
local macro_rules | `(tactic| walk_at "compareOp Eq bytes bytes") => `(tactic| (k_here; (with_reducible show wpAny _ _ (compareOp CmpOp.Eq (Value.bytes _ _) (Value.bytes _ _)) _ _ _); k_dflt (refine' eq_oct ?qb1 ?qb2 ?qn1 ?qn2 ?_; (case qb1 => with_reducible assumption); (case qb2 => with_reducible assumption); (case qn1 => with_reducible assumption); (case qn2 => with_reducible exact named_app (named_app (named_slice (by with_reducible assumption) _ _) (named_one (by with_reducible assumption) (by with_reducible assumption))) (named_slice (by with_reducible assumption) _ _)))))
local macro_rules | `(tactic| walk_at "compareOp NotEq bool bool") => `(tactic| (k_here; (with_reducible show wpAny _ _ (compareOp CmpOp.NotEq (Value.bool _) (Value.bool _)) _ _ _); k_dflt (refine ne_bool_same ?_)))
local macro_rules | `(tactic| walk_at "compareOp NotEq bytes bytes") => `(tactic| (k_here; (with_reducible show wpAny _ _ (compareOp CmpOp.NotEq (Value.bytes _ _) (Value.bytes _ _)) _ _ _); k_dflt (refine' ne_same ?qb1 ?qb2 ?qe9 ?_; (case qb1 => with_reducible assumption); (case qb2 => first | with_reducible assumption | exact rfl); (case qe9 => first | exact cut_same (by with_reducible assumption) (by with_reducible assumption) (by with_reducible assumption) | exact rfl | exact (clip_head _ (by with_reducible assumption)).trans (by rfl) | with_reducible assumption | simp))))
local macro_rules | `(tactic| walk_at "call builtin:str.join") => `(tactic| (k_here; (with_reducible show wpAny _ _ (PySem.call (Value.builtin "str.join") [Value.str _ _, Value.ref _]) _ _ _); k_dflt (refine' join_signsX ?k1 ?k2 ?k3 ?k4 ?_; (case k1 => is_list); (case k2 => with_reducible assumption); (case k3 => omega); (case k4 => with_reducible assumption); k_whole); intro _ _))
local macro_rules | `(tactic| walk_at "CompSrc") => `(tactic| refine StopHere.out ?_)
theorem law_walk : PySem.Challenge.rw_og0123_01.Holds := hd (by
  k_go0
  k_steps
  unfold StopHere
  rename PenOff _ _ _ => offA
  rename News _ _ _ ([_, _] ++ _) => kN
  obtain ⟨offB, nB⟩ := pen_start offA kN
  clear offA kN
  k_dflt (refine LCg.ListComp_U (F₀ := by k_asm) (by with_unfolding_all rfl) (by decide) (by rfl) (by decide) (by rfl) ?_)
  k_steps
  unfold StopHere
  refine LCg.CompSrc.range (by rfl) (by k_asm) (by k_asm) (by assumption) (by exact small_one (by l_bnd) (by l_bnd) (by l_bnd) (by l_bnd)) (by first | exact rangeSize_nat _ _ | rfl) (by rw [PySem.sizeLine_eq]; omega) fun g => rest_inv (fun i ys nw => TextInv offB i ys nw) ?_ ?_ _ 0 [] _ (Nat.zero_add _) ⟨[], _, _, _, _, _, _, _, _, rfl, by assumption, by assumption, SignsAre.nil, Named.nil, rfl⟩
  · rintro i ys nw v I oI C oC D m₂ h' tk E' hi ⟨cs, vs, ns, k, v, tk, tv, n, n', rfl, hI, hL, hS, hN, hlen⟩ ⟨t, rfl⟩ hC hx' F' N' off ne
    have offR := turn_off (oI := oI) (oC := oC) (oD := LCg.lst ys) offB off
    have NR := turn_led N'
    clear N'
    k_unmd
    k_steps
    rename News _ _ _ (penLed _ _ _ _ _ _ _ _ _ [_, _, _, _]) => N9
    exact LCg.CompEnd.intro (by k_asm) N9 _ turn_sub off trivial ⟨_, _, _, _, _, _, _, _, _, rfl, by assumption, by assumption, SignsAre.sign hS _ _, Named.sign hN (by assumption) (by assumption), by rw [List.length_append, hlen]; rfl⟩
  · rintro ys nw ⟨cs, vs, ns, k, v, tk, tv, n, n', rfl, hI, hL, hS, hN, hlen⟩ D h' tk F' N' o1
    obtain ⟨x, hx⟩ : ∃ x, KStt.txt cs = x := ⟨_, rfl⟩
    have hxc : KStt.codes x = cs := by rw [← hx]; exact codes_txt fun c hc => by have := hN c hc; omega
    have hxl : x.length ≤ 12 := by rw [← KStt.codes_length, hxc, hlen]; omega
    have hcl : cs.length ≤ 1000 := by rw [← hxc, KStt.codes_length]; omega
    have hxn : Named (KStt.codes x) := hxc ▸ hN
    have hcnt := nameBody_count hxn
    rw [KStt.codes_length] at hcnt
    k_unmd
    k_steps
    unfold StopHere
    rename News _ _ _ ((_, _) :: (_, _) :: penLed _ _ _ _ _ _ _ _ _ _) => kN
    have kP := pen_on (x := (_, _)) kN (.tail _ (.tail _ (.head _))) (.tail _ (.tail _ (.tail _ (.head _)))) (.tail _ (.tail _ (.tail _ (.tail _ (.head _)))))
    clear kN
    k_dflt (refine ListComp_oneT (by k_asm) (by with_unfolding_all rfl) (by decide) (by rfl) (by decide) (by rfl) ?_)
    k_steps
    rename News _ _ _ _ => kP2
    rename KBw.bInts (KBy.picked _ (some 1) none) = _ => kb2
    replace kb2 := kb2.trans (clip_rest _ (by assumption))
    refine ⟨_, _, _, oneSrc_bytes rfl _ _ _, by k_asm, kP2, (by rw [← KBw.ints_length, kb2, sizeLine_eq]; omega), fun g => restT_inv (fun i ys nw => ys = [] ∧ nw = ledOf kP2) ?_ ?_ _ 0 [] _ (Nat.zero_add _) ⟨rfl, rfl⟩⟩
    · rintro i ys nw v I oI C oC D m₂ h' tk E' hi ⟨rfl, rfl⟩ ⟨c, u, hc, rfl⟩ hC hx' F' N' off ne
      obtain ⟨g1, g2, g3⟩ := nameBody_good hxn _ (ints_mem kb2 hc)
      k_unmd
      k_steps
      rename News _ _ _ (_ :: _ :: _ :: ledOf _) => N9
      exact LCg.CompEnd.intro (by k_asm) N9 _ (fun _ h => h) off trivial ⟨rfl, rfl⟩
    · rintro ys nw ⟨rfl, rfl⟩ D h' tk F' N' o1
      k_unmd
      k_steps
      unfold StopHere
      k_dflt (refine ListComp_oneU (by k_asm) (by with_unfolding_all rfl) (by decide) (by rfl) (by decide) (by rfl) ?_)
      k_steps
      rename News _ _ _ (penLed _ _ _ _ _ _ _ _ _ _) => kP3
      refine ⟨_, _, _, oneSrc_str rfl _ _ _, by k_asm, kP3, (by rw [sizeLine_eq]; exact Nat.le_trans hxl (by omega)), fun g => rest_inv (fun i ys nw => nw = ledOf kP3 ∧ IntsAre ys ((KStt.codes x).take i)) ?_ ?_ _ 0 [] _ (Nat.zero_add _) ⟨rfl, .nil⟩⟩
      · rintro i ys nw v I oI C oC D m₂ h' tk E' hi ⟨rfl, hI⟩ ⟨c, u, hc, rfl⟩ hC hx' F' N' off ne
        k_unmd
        k_steps
        refine LCg.CompEnd.intro (by k_asm) N' _ (fun _ hp => hp) off trivial ⟨rfl, ?_⟩
        rw [List.take_add_one, KStt.code_at hc]
        exact hI.append (.cons _ _ .nil)
      · rintro ys nw ⟨rfl, hI⟩ D h' tk F' N' o1
        rw [show x.cps.size = (KStt.codes x).length from (KStt.codes_length x).symm, List.take_length] at hI
        have hbs : KBa.In (KStt.codes x) := fun n hm => by have := hxn n hm; omega
        have hcl9 : (KStt.codes x).length ≤ 1000 := by rw [KStt.codes_length]; omega
        have hmk := KBa.ints_make hbs
        dsimp only [ledOf] at N'
        k_unmd
        k_steps
        rename _ ∈ _ => hv
        obtain ⟨n, t, rfl, hodd, n0, n1⟩ := odd_menu (ns := [0, 256, 8364, 65536]) (by l_intsW) (by decide) hv
        clear hv
        k_steps)
end Mine
end OgW
set_option maxRecDepth 100000 in
theorem PySem.Challenge.cw_og0123_01_holds : PySem.Challenge.rw_og0123_01.Holds := by
  exact Mine.law_walk
